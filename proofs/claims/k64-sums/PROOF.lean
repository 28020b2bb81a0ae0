import PyProof.Rows.All
import Wide.All
import OpenK.AllK
import Wide.FinOn
import HandS.ForMost
import HandS.Exc
import HandS.TryOnly
import HandS.WordsExc
import HandS.Wide
import HandS.EndBits
import HandS.IsInst
import HandS.Style
import HandS.Flow
import HandS.Evl
import HandS.Walk
import KE.DataEq
import HandS.ExcField
import HandS.ExcInit
import KE.KExcSuper
import HandS.ExcCtx
import HandS.HotCalls
import KE.KExcIs
import KE.KEqNest
import KE.KDictLaw
import PyProof.NeKinds
import HandS.Slots
import HandS.TupAny
import HandS.Deep
import HandS.Star
import HandS.TupLen
import HandS.Conv
import HandS.Zip
import HandS.Strs
import KE.SortData
import HandS.SetKeys
import PySem.Challenge.RW_farapart_k64_sums_over_any_rows
set_option Elab.async false
set_option linter.all false
set_option maxRecDepth 100000
set_option maxHeartbeats 8000000
/-! FA1: the layer over HandS: blocks stepped statement by statement (W), defs that are called where no repr is under way (FnG), readings that compute. -/
namespace FA
open PySem PySem.Spec PyProof.Rows L2

/-! ### W: what is to be run, as a reading of itself -/
def WSs (X : Cx) (b : List Stmt) : TS := fun D σ H =>
  ∀ (pins : List (Addr × Obj)) (s : Shared), Inv X pins σ H s → wpAny (model X.prog X.w) X.A (execs b X.env) (SP X pins D) X.xe s
def WE (X : Cx) (e : Expr) : TE := fun σ H Q =>
  ∀ (pins : List (Addr × Obj)) (s : Shared), Inv X pins σ H s → wpAny (model X.prog X.w) X.A (eval e X.env) (EP X pins σ Q) X.xe s
section
variable {X : Cx}
theorem pss_w {b : List Stmt} : PSs X b (WSs X b) := ⟨fun pins s _ _ _ I h => h pins s I⟩
theorem pe_w {e : Expr} : PE X e (WE X e) := ⟨fun pins s _ _ _ I h => h pins s I⟩
theorem wss_of {b : List Stmt} {t : TS} {D : Ends} {σ : L2.St} {H : Hp} (h : PSs X b t) (q : t D σ H) : WSs X b D σ H := fun pins s I => h.run pins s σ H D I q
/-- the next statement, by its own rule; behind it the rest of the block -/
theorem wss {st : Stmt} {b : List Stmt} {t : TS} {D : Ends} {σ : L2.St} {H : Hp} (h : PS X st t) (q : t { D with nx := WSs X b D } σ H) : WSs X (st :: b) D σ H :=
  wss_of (pss_cons h pss_w) q
theorem wss_end {D : Ends} {σ : L2.St} {H : Hp} (q : D.nx σ H) : WSs X [] D σ H := wss_of pss_nil q
theorem we_of {e : Expr} {t : TE} {Q : VK} {σ : L2.St} {H : Hp} (h : PE X e t) (q : t σ H Q) : WE X e σ H Q := fun pins s I => h.run pins s σ H Q I q
end

/-! ### defs that are called where no repr is under way -/
structure FnG (P : Program) (w : World) (K : PySem.W.Frag) (mg : Str → Option Value) (base : Heap) (CX : CXT) (k : Nat) (f : Addr) (fd : FuncData) (ps : List Str) (sp : Sp) : Prop where
  len : ∀ vs H Q E, sp vs H Q E → vs.length = ps.length
  go : ∀ (A : Around) (outer : List Env) (s : Shared) (H : Hp) (args : Args) (us : List Value) (vs : List V) (Q : VK) (E : XK), Room k A → A.guards = some [] → Env0 P w K mg base A outer s H →
    BindsTo s fd args (ps.zip us) → Vals vs us → sp vs H Q E → codeAny (model P w) A (.call (.ref f) args) (CR CX outer P w H s Q E) s
section
variable {P : Program} {w : World} {K : PySem.W.Frag} {mg : Str → Option Value} {base : Heap} {CX : CXT}
theorem FnG.of {k : Nat} {f : Addr} {fd : FuncData} {ps : List Str} {sp : Sp} (F : FnOk P w K mg base CX k f fd ps sp) : FnG P w K mg base CX k f fd ps sp :=
  ⟨F.len, fun A o s H args us vs Q E hr _ => F.run A o s H args us vs Q E hr⟩
theorem FnG.up {j k : Nat} {f : Addr} {fd : FuncData} {ps : List Str} {sp : Sp} (F : FnG P w K mg base CX j f fd ps sp) (h : j ≤ k) : FnG P w K mg base CX k f fd ps sp :=
  ⟨F.len, fun A o s H args us vs Q E hr => F.go A o s H args us vs Q E (hr.mono h)⟩

/-- a def by its body -/
theorem fn_g {k : Nat} {f : Addr} {name qual : Str} {params : Arguments} {body : List Stmt} {scope : Scope} {dV kV doc pm cdv ct oc : Value} {an od : Option Addr} {osl : Array (Option Value)} {N ps : List Str} {sp : Sp}
    (lk : K.lookup f = some ⟨oc, od, .func (PySem.W.fnOf name qual params body scope dV kV doc pm an cdv ct), osl⟩) (hcd : PySem.W.codeIn K cdv qual = true) (S : FnScope N ps scope)
    (len : ∀ vs H Q E, sp vs H Q E → vs.length = ps.length)
    (hb : ∀ (A : Around) (outer : List Env) (s : Shared) (H : Hp) (vs : List V) (Q : VK) (E : XK), Room k (A.deeper (envOfC qual scope s.heap.objs.size f cdv)) → (A.deeper (envOfC qual scope s.heap.objs.size f cdv)).guards = some [] →
      sp vs H Q E → WSs (cxOf CX P w K mg base N qual scope f cdv A outer s H E) body { nx := fun _ H' => Q .non H', rt := Q } (start N vs) H) :
    FnG P w K mg base CX (k + 1) f (PySem.W.fnOf name qual params body scope dV kV doc pm an cdv ct) ps sp := by
  constructor
  · exact len
  intro A outer s H args us vs Q E hr hG e0 hbi r hsp
  have hl := len _ _ _ _ hsp
  have kin : K.In s.heap := e0.mod.kin.keeps fun b o z => (e0.bs b o z).1
  have nol : s.heap.NoLimit := e0.mod.nolimit.keeps fun b o z => (e0.bs b o z).1
  have kinds : ∀ y ∈ ps.zip us, scope.names.lookup y.1 = some .local ∨ (scope.names.lookup y.1 = some .cell ∧ ((cellsFrom (s.heap.objs.size + 1) scope.names []).lookup y.1).isSome = true) := by
    rintro ⟨n, v⟩ hy
    rcases S.par n (List.of_mem_zip hy).1 with z | z
    · exact .inl z
    · exact .inr ⟨z, PySem.W.cellsFrom_some _ _ _ (.inl z)⟩
  refine codeAny_call_function hr.depth (kin _ _ lk) rfl S.co S.gen rfl (PySem.W.codeRec_of kin hcd) (hbi _ _ _ _ (wpAny_newFunctionEnv_cells S.kind kinds fun env he s1 x => ?_))
  subst he
  refine ⟨nol.keeps x.toInCall.keep, codeAny_func ?_⟩
  have I : Inv (cxOf CX P w K mg base N qual scope f cdv A outer s H E) [] (start N vs) H s1 := inv_start S hr.hd e0 hl r x
  have q := hb A outer s H vs Q E (hr.deeper _) hG hsp
  refine wpAny_mono (q [] s1 I) (fun fl s' z => ?_) fun e s' z => z
  match fl, z with
  | .ret u, z =>
    obtain ⟨v, _, H', J, rv, y⟩ := z
    exact ⟨v, H', J.os, J.bare, J.base, J.hok, rv, y⟩
  | .next, z =>
    obtain ⟨_, H', J, y⟩ := z
    exact ⟨V.non, H', J.os, J.bare, J.base, J.hok, rfl, y⟩
  | .brk, z =>
    obtain ⟨_, _, _, y⟩ := z
    exact y.elim
  | .cont, z =>
    obtain ⟨_, _, _, y⟩ := z
    exact y.elim
/-- the same for a def of the text; nothing that is raised leaves it -/
theorem okG {x qual : Str} {st : Stmt} {f : Addr} {fd : FuncData} {N ps : List Str} {k : Nat} {sp : Sp} (F : Fun K x qual st f fd) (S : FnScope N ps (defScope st)) (len : ∀ vs H Q E, sp vs H Q E → vs.length = ps.length)
    (hb : ∀ (cdv : Value) (A : Around) (outer : List Env) (s : Shared) (H : Hp) (vs : List V) (Q : VK) (E : XK), Room k (A.deeper (envOfC qual (defScope st) s.heap.objs.size f cdv)) → (A.deeper (envOfC qual (defScope st) s.heap.objs.size f cdv)).guards = some [] →
      sp vs H Q E → WSs (cxOf CX0 P w K mg base N qual (defScope st) f cdv A outer s H E).nox (defBody st) { nx := fun _ H' => Q .non H', rt := Q } (start N vs) H) : FnG P w K mg base CX0 (k + 1) f fd ps sp := by
  obtain ⟨oc, od, kV, doc, pm, an, cdv, ct, osl, rfl, lk, hcd⟩ := F.ex
  exact fn_g lk hcd S len fun A outer s H vs Q E hr hG hsp => wss_of (pss_w (X := (cxOf CX0 P w K mg base N qual (defScope st) f cdv A outer s H E).nox)).nox (hb cdv A outer s H vs Q E hr hG hsp)
/-- a def of the text that may raise -/
theorem okGX {x qual : Str} {st : Stmt} {f : Addr} {fd : FuncData} {N ps : List Str} {k : Nat} {sp : Sp} (F : Fun K x qual st f fd) (S : FnScope N ps (defScope st)) (len : ∀ vs H Q E, sp vs H Q E → vs.length = ps.length)
    (hb : ∀ (cdv : Value) (A : Around) (outer : List Env) (s : Shared) (H : Hp) (vs : List V) (Q : VK) (E : XK), Room k (A.deeper (envOfC qual (defScope st) s.heap.objs.size f cdv)) → (A.deeper (envOfC qual (defScope st) s.heap.objs.size f cdv)).guards = some [] →
      sp vs H Q E → WSs (cxOf (L2.CX P w) P w K mg base N qual (defScope st) f cdv A outer s H E) (defBody st) { nx := fun _ H' => Q .non H', rt := Q } (start N vs) H) : FnG P w K mg base (L2.CX P w) (k + 1) f fd ps sp := by
  obtain ⟨oc, od, kV, doc, pm, an, cdv, ct, osl, rfl, lk, hcd⟩ := F.ex
  exact fn_g lk hcd S len fun A outer s H vs Q E hr hG hsp => hb cdv A outer s H vs Q E hr hG hsp
/-- a def that calls no repr -/
theorem okW {x qual : Str} {st : Stmt} {f : Addr} {fd : FuncData} {N ps : List Str} {k : Nat} {sp : Sp} (F : Fun K x qual st f fd) (S : FnScope N ps (defScope st)) (len : ∀ vs H Q E, sp vs H Q E → vs.length = ps.length)
    (hb : ∀ (cdv : Value) (A : Around) (outer : List Env) (s : Shared) (H : Hp) (vs : List V) (Q : VK) (E : XK), Room k (A.deeper (envOfC qual (defScope st) s.heap.objs.size f cdv)) →
      sp vs H Q E → WSs (cxOf CX0 P w K mg base N qual (defScope st) f cdv A outer s H E).nox (defBody st) { nx := fun _ H' => Q .non H', rt := Q } (start N vs) H) : FnOk P w K mg base CX0 (k + 1) f fd ps sp :=
  F.ok S len fun cdv A outer s H vs Q E hr h => ⟨_, pss_w, hb cdv A outer s H vs Q E hr h⟩
end

section
variable {X : Cx} {CX : CXT} {k : Nat} {f C : Addr} {fd : FuncData} {ps : List Str} {sp : Sp} {dvs : List V} {ds : List Value} {E : XK} {x m : Str} {p pos apos : Pos} {e o : Expr} {es : List Expr} {ta : TE} {t : TA}
theorem run_g {pins : List (Addr × Obj)} {σ : L2.St} {H : Hp} {s : Shared} {Q : VK} {us : List Value} {vs : List V} (F : FnG X.prog X.w X.K X.mg X.base CX k f fd ps sp) (hr : Room k X.A) (hG : X.A.guards = some []) (hb : Binds X.K fd ps ds) (hd : Vals dvs ds)
    (hx : Passes CX X E) (I : Inv X pins σ H s) (r : Vals vs us) (h : sp (vs ++ dvs) H Q E) : wpAny (model X.prog X.w) X.A (call (.ref f) us) (EP X pins σ Q) X.xe s := by
  have rr : Vals (vs ++ dvs) (us ++ ds) := r.append hd
  have hl : (us ++ ds).length = ps.length := rr.length ▸ F.len _ _ _ _ h
  refine wpAny_call (codeAny_mono (F.go X.A X.stack s H ⟨us, []⟩ (us ++ ds) (vs ++ dvs) Q E hr hG I.env0 (hb s us I.kIn hl) rr h) fun r s' hq => ?_)
  match r, hq with
  | .error e, hq => exact hx pins σ H s e s' I hq
  | .ok (.ret u), hq => exact I.after hq
/-- f(e, ..) -/
theorem pe_callG (F : FnG X.prog X.w X.K X.mg X.base CX k f fd ps sp) (hr : Room k X.A) (hG : X.A.guards = some []) (hg : Gl X x) (hm : X.mg x = some (.ref f)) (hk : PySem.W.keepIn X.K (.ref f) = true) (hb : Binds X.K fd ps ds) (hd : Vals dvs ds) (hx : Passes CX X E)
    (ha : PA X (e :: es) t) (hdb : (x == ("__debug__" : Str)) = false := by decide) (he : starEach (e :: es) X.env = (false, eval e X.env) :: starEach es X.env := by rfl) (hpl : (backTo pos (starEach es X.env)).any (·.1) = false := by rfl) :
    PE X (.Call (.Name x p) (e :: es) [] pos) (tCall sp dvs E t) := by
  constructor
  intro pins s σ H Q I h
  refine wpAny_Call_Name_kw (ld_glob I hg hm (PySem.W.callWith_K (h₀ := X.base) I.ok.mod.kin hk (thn (ha.run pos pins s σ H _ I h) ?_) he hpl) hdb)
  rintro us s1 ⟨vs, H1, I1, r, q⟩
  exact ⟨I1.kIn, run_g F hr hG hb hd hx I1 r q⟩
end
end FA
namespace FA
open PySem PySem.Spec PyProof.Rows L2
/-- a statement, then the rest of the block from a word between them -/
theorem wcut {X : Cx} {st : Stmt} {b : List Stmt} {t : TS} {D : Ends} {σ : L2.St} {H : Hp} (h : PS X st t) (Mid : L2.St → Hp → Prop) (q : t { D with nx := Mid } σ H) (k : ∀ σ' H', Mid σ' H' → WSs X b D σ' H') : WSs X (st :: b) D σ H :=
  wss_of (Evl.pss_cut h pss_w) ⟨Mid, q, k⟩
end FA

/-! FA2: the end of a law whose defs are FnG; the script's bits told. -/
namespace FA
open PySem PySem.Spec PyProof.Rows L2
theorem hid_ns {h : Heap} {H : Hp} {b : Addr} {m : Str → Option Value} (hn : h.Ns b m) (free : ∀ {o : Obj} {es : Array DictEntry} {ep : Nat}, h.get? b = some o → o.data = .dict es ep → H b = none) : (hidT h H).Ns b m := by
  obtain ⟨o, es, ep, e, d, r⟩ := hn
  exact ⟨o, es, ep, hidT_get e (free e d), d, r⟩
theorem law_goes {P : Program} {w : World} {K : PySem.W.Frag} {mg mb : Str → Option Value} {k : Nat} {fa a : Addr} {fd : FuncData} {x : Str} {sp : Sp} {s₁ : Shared} {vs : List Value} {ns : List Int}
    (KX : K.In s₁.heap) (hns : s₁.heap.Ns mainGlobals mg) (hb : s₁.heap.Ns builtinsNs mb) (hbb : ∀ y : Str, y ≠ "__name__" → mb y = bootBuiltins y) (hlim : s₁.heap.NoLimit) (hg : s₁.gens = #[])
    (ha : s₁.heap.get? a = some { cls := .type "list", data := .seq vs.toArray }) (hi : IntsAre vs ns) (hl : ns.length ≤ sizeLine) (hr : Room k callerA)
    (F : ∀ base : Heap, K.In base → base.Ns mainGlobals mg → FnG P w K mg base CX0 k fa fd [x] sp) (hbind : ∀ (s : Shared) (u : Value), BindsTo s fd ⟨[u], []⟩ [(x, u)])
    (hsp : ∀ H : Hp, Only H → SqL K H a (ns.map V.int) → sp [.ref a] H (fun v _ => v = .bl true) E0) :
    codeAny (model P w) callerA (.call (.ref fa) ⟨[.ref a], []⟩) (fun r s' => r = .ok (.ret (.bool true)) ∧ OldK s₁.heap s'.heap ∧ s'.os = s₁.os ∧ AllBare s'.gens) s₁ := by
  have rv := vals_ints hi
  have lenV := hi.length
  have main : ∀ H : Hp, Only H → SqL K H a (ns.map V.int) → HOk P w H s₁.heap → (∀ b, H b ≠ none → b = a ∧ K.lookup a = none) →
      codeAny (model P w) callerA (.call (.ref fa) ⟨[.ref a], []⟩) (fun r s' => r = .ok (.ret (.bool true)) ∧ OldK s₁.heap s'.heap ∧ s'.os = s₁.os ∧ AllBare s'.gens) s₁ := by
    intro H hO hS hok hA
    have dictFree : ∀ {b : Addr} {o : Obj} {es : Array DictEntry} {ep : Nat}, s₁.heap.get? b = some o → o.data = .dict es ep → H b = none := by
      intro b o es ep e d
      cases q : H b with
      | none => rfl
      | some u =>
        obtain ⟨rfl, _⟩ := hA b (by simp [q])
        rw [ha] at e
        obtain rfl := Option.some.inj e
        exact nomatch d
    have kb : K.In (hidT s₁.heap H) := by
      intro b o e
      refine hidT_get (KX b o e) ?_
      cases q : H b with
      | none => rfl
      | some u =>
        obtain ⟨rfl, z⟩ := hA b (by simp [q])
        rw [z] at e
        cases e
    have gN : (hidT s₁.heap H).Ns mainGlobals mg := hid_ns hns dictFree
    have bN : (hidT s₁.heap H).Ns builtinsNs mb := hid_ns hb dictFree
    have lN : (hidT s₁.heap H).NoLimit := let ⟨mc, z1, z2⟩ := hlim; ⟨mc, hid_ns z1 dictFree, z2⟩
    have e0 : Env0 P w K mg (hidT s₁.heap H) callerA [] s₁ H := by
      refine ⟨rfl, ⟨kb, gN, ⟨mb, bN, hbb⟩, lN⟩, fun b o e => of_hidT e, Nat.le_of_eq (hidT_size _ _), trivial, ?_, hok, .of_eq hg⟩
      intro b z
      exact nomatch (show b ∈ ([] : List Addr) from z)
    refine codeAny_mono ((F _ kb gN).go callerA [] s₁ H ⟨[.ref a], []⟩ [.ref a] [.ref a] _ _ hr rfl e0 (hbind s₁ (.ref a)) (.cons rfl .nil) (hsp H hO hS)) ?_
    intro r s' h
    match r, h with
    | .error e, h => exact (show False from h).elim
    | .ok (.ret u), h =>
      obtain ⟨v, H', os, bare, un, hok', r', q⟩ := h
      obtain rfl : v = .bl true := q
      obtain rfl : u = Value.bool true := r'
      refine ⟨rfl, OldK.of_keep ?_, os, bare⟩
      intro b o e
      have nb : b ∉ frs [] := by intro z; exact nomatch (show b ∈ ([] : List Addr) from z)
      rcases hO b with z | ⟨ob, xs, z⟩
      · exact un.keep b o e z nb (by simp)
      · obtain ⟨e1, _⟩ := hok b _ z
        obtain ⟨e2, _⟩ := hok' b _ (un.frzs b ob _ z)
        rw [e] at e1
        obtain rfl := Option.some.inj e1
        exact e2
  cases hk : K.lookup a with
  | some o =>
    have e := KX a o hk
    rw [ha] at e
    obtain rfl := Option.some.inj e
    refine main (fun _ => none) (fun _ => .inl rfl) (.inr ⟨_, vs.toArray, _, hk, rfl, rfl, rfl, ?_, by simpa using rv⟩) (fun b u z => nomatch (show (none : Option HO) = some u from z)) (fun b z => absurd rfl z)
    rw [List.size_toArray, lenV]
    exact hl
  | none =>
    refine main (upd (fun _ => none) a (.frz { cls := .type "list", data := .seq vs.toArray } (.lst (ns.map V.int)))) (fun b => ?_) (.inl (.inr ⟨_, upd_same⟩)) (fun b u z => ?_) (fun b z => ?_)
    · by_cases hb : b = a
      · subst hb
        exact .inr ⟨_, _, upd_same⟩
      · exact .inl (upd_ne hb)
    · by_cases hb : b = a
      · subst hb
        rw [upd_same] at z
        obtain rfl := Option.some.inj z
        exact ⟨ha, by rw [List.length_map]; exact hl, vs, _, rv, ha⟩
      · rw [upd_ne hb] at z
        exact nomatch z
    · by_cases hb : b = a
      · exact ⟨hb, hk⟩
      · exact absurd (upd_ne hb) z
theorem walk_g {l : PySem.W.OpenLaw} {n k : Nat} {q : Program} {loose : List Str} {XP : (Str → Option Value) → Heap → Prop} {YP : World → Heap → Prop} {d : DefRec} {K : Params → PySem.W.Frag} {sp : World → Sp} {x : Str}
    (hn : l.most = some n) (hn2 : n ≤ sizeLine) (hdf : d.params.defaults = []) (hr : Room k callerA)
    (hY : ∀ (w : World) (h : Heap), YP w h → (K w.params).In h)
    (F : ∀ (w : World) (mg : Str → Option Value) (fa : Addr) (h : Heap), (K w.params).In h → h.Ns mainGlobals mg → mg d.name = some (.ref fa) →
      ∃ fd : FuncData, (∀ (s : Shared) (u : Value), BindsTo s fd ⟨[u], []⟩ [(x, u)]) ∧
        ∀ base : Heap, (K w.params).In base → base.Ns mainGlobals mg → FnG l.prog w (K w.params) mg base CX0 k fa fd [x] (sp w))
    (hsp : ∀ (w : World) (H : Hp) (a : Addr) (ns : List Int), ns.length ≤ n → (∀ z ∈ ns, Builtin.Int.intBits z ≤ 1048576) → Only H → SqL (K w.params) H a (ns.map V.int) → sp w [.ref a] H (fun v _ => v = .bl true) E0) :
    PySem.W.WalkO q loose XP YP l.row.toRowW d [] (fun f vs => PySem.call f vs) := by
  refine Att.attach_callB hn hdf ?_
  intro w s₀ s₁ mg mb fa o pm cd doc a vs ns G Y ho hd hcd hmg hobj hints hlen hbits hg
  have KX := hY w _ Y
  obtain ⟨fd, hb, hF⟩ := F w mg fa _ KX G.T.g hmg
  exact law_goes KX G.T.g G.T.b G.T.builtins G.T.nolimit hg hobj hints (Nat.le_trans hlen hn2) hr hF hb fun H hO hS => hsp w H a ns hlen hbits hO hS
end FA

/-! FA3: data in the heap (with dicts), what repr tells of it. -/
namespace FA
open PySem PySem.Spec PyProof.Rows L2
def keyD : Key → PyData
  | .inl i => .int i
  | .inr x => .str x
mutual
/-- the value v stands for the datum d -/
inductive Dt (K : PySem.W.Frag) (H : Hp) : V → PyData → Prop
  | non : Dt K H .non .none
  | bl (b : Bool) : Dt K H (.bl b) (.bool b)
  | int (i : Int) : Dt K H (.int i) (.int i)
  | str (x : Str) : Dt K H (.str x) (.str x)
  | lst {a : Addr} {xs : List V} {ds : List PyData} : Rd H a (.lst xs) → DtAll K H xs ds → Dt K H (.ref a) (.list ds)
  | tup {a : Addr} {xs : List V} {ds : List PyData} : SqT K H a xs → DtAll K H xs ds → Dt K H (.ref a) (.tuple ds)
  | dK {a : Addr} {kvs : List (Key × V)} {ds : List PyData} : Rd H a (.dK kvs) → DtAll K H (kvs.map (·.2)) ds → Dt K H (.ref a) (.dict ((kvs.map fun p => keyD p.1).zip ds))
  | dT {a : Addr} {kvs : List (List Key × V)} {ds : List PyData} : Rd H a (.dT kvs) → DtAll K H (kvs.map (·.2)) ds → Dt K H (.ref a) (.dict ((kvs.map fun p => PyData.tuple (p.1.map keyD)).zip ds))
inductive DtAll (K : PySem.W.Frag) (H : Hp) : List V → List PyData → Prop
  | nil : DtAll K H [] []
  | cons {v : V} {vs : List V} {d : PyData} {ds : List PyData} : Dt K H v d → DtAll K H vs ds → DtAll K H (v :: vs) (d :: ds)
end
theorem Same.rd {H H' : Hp} (e : Same H H') {a : Addr} {u : HO} (h : Rd H a u) : Rd H' a u := by
  rcases h with h | ⟨o, h⟩
  · exact .inl (e _ _ h)
  · exact .inr ⟨o, e _ _ h⟩
theorem Same.sqT {K : PySem.W.Frag} {H H' : Hp} (e : Same H H') {a : Addr} {xs : List V} (h : SqT K H a xs) : SqT K H' a xs := by
  rcases h with h | h
  · exact .inl (Same.rd e h)
  · exact .inr h
mutual
theorem Dt.keep {K : PySem.W.Frag} {H H' : Hp} (e : Same H H') {v : V} {d : PyData} : Dt K H v d → Dt K H' v d
  | .non => .non
  | .bl b => .bl b
  | .int i => .int i
  | .str x => .str x
  | .lst r k => .lst (Same.rd e r) (DtAll.keep e k)
  | .tup r k => .tup (Same.sqT e r) (DtAll.keep e k)
  | .dK r k => .dK (Same.rd e r) (DtAll.keep e k)
  | .dT r k => .dT (Same.rd e r) (DtAll.keep e k)
theorem DtAll.keep {K : PySem.W.Frag} {H H' : Hp} (e : Same H H') {vs : List V} {ds : List PyData} : DtAll K H vs ds → DtAll K H' vs ds
  | .nil => .nil
  | .cons a b => .cons (Dt.keep e a) (DtAll.keep e b)
end
theorem DtAll.len {K : PySem.W.Frag} {H : Hp} {vs : List V} {ds : List PyData} : DtAll K H vs ds → vs.length = ds.length
  | .nil => rfl
  | .cons _ b => by rw [List.length_cons, List.length_cons, DtAll.len b]
theorem readsKeys {h : Heap} : ∀ {ks : List Key} {us : List Value}, Paired (fun k u => keyIs k u = true) ks us → ReadsAll h us (ks.map keyD) []
  | _, _, .nil => .nil
  | _, _, .cons r t => by
    have ih := readsKeys (h := h) t
    rcases keyIs_shape r with ⟨i, t, rfl, rfl⟩ | ⟨x, t, rfl, rfl⟩
    · exact ReadsAll.cons (as := []) (.int i t) ih
    · exact ReadsAll.cons (as := []) (.str x t) ih
theorem readsPairs {P : Program} {w : World} {h : Heap} : ∀ {es : List DictEntry} {vs : List (Key × Value)}, Pairs (mixKind P w) es vs → ReadsAll h (es.map (·.key)) (vs.map fun p => keyD p.1) [] ∧ es.map (·.val) = vs.map (·.2)
  | _, _, .nil => ⟨.nil, rfl⟩
  | _, _, .cons r e t => by
    obtain ⟨i1, i2⟩ := readsPairs (h := h) t
    refine ⟨?_, by rw [List.map_cons, List.map_cons, e, i2]⟩
    rcases keyIs_shape r with ⟨i, t, e1, e2⟩ | ⟨x, t, e1, e2⟩
    · rw [List.map_cons, List.map_cons, e1, e2]
      exact ReadsAll.cons (as := []) (.int i t) i1
    · rw [List.map_cons, List.map_cons, e1, e2]
      exact ReadsAll.cons (as := []) (.str x t) i1
theorem kv_split : ∀ {kvs : List (Key × V)} {vs : List (Key × Value)}, KV kvs vs → kvs.map (fun p => keyD p.1) = vs.map (fun p => keyD p.1) ∧ Vals (kvs.map (·.2)) (vs.map (·.2))
  | _, _, .nil => ⟨rfl, .nil⟩
  | _, _, .cons r t => by
    obtain ⟨i1, i2⟩ := kv_split t
    exact ⟨by rw [List.map_cons, List.map_cons, r.1, i1], .cons r.2 i2⟩
theorem readsTup {h : Heap} {P : Program} {w : World} : ∀ {H : Hp} {kvs : List (List Key × V)} {xs : List (List Key × Addr × Value)}, HOk P w H h → KT H kvs xs →
    ReadsAll h (xs.map fun q => Value.ref q.2.1) (kvs.map fun p => PyData.tuple (p.1.map keyD)) [] ∧ Vals (kvs.map (·.2)) (xs.map fun q => q.2.2)
  | _, _, _, _, .nil => ⟨.nil, .nil⟩
  | H, _, _, ok, .cons (a := p) (b := q) r t => by
    obtain ⟨i1, i2⟩ := readsTup ok t
    refine ⟨?_, .cons r.2.2 i2⟩
    obtain ⟨_, its, rv, o, ho, hc, n, hd⟩ := (show ObjOk P w H h q.2.1 (.tup (p.1.map kV)) from ok _ _ r.2.1)
    have key : ∀ (ks : List Key) (us : List Value), Vals (ks.map kV) us → ReadsAll h us (ks.map keyD) [] := by
      intro ks
      induction ks with
      | nil =>
        intro us v
        cases v
        exact .nil
      | cons k ks ih =>
        intro us v
        cases v with
        | cons r1 r2 =>
          cases k with
          | inl i =>
            obtain ⟨t, rfl⟩ := r1
            exact ReadsAll.cons (as := []) (.int i t) (ih _ r2)
          | inr x =>
            obtain ⟨t, rfl⟩ := r1
            exact ReadsAll.cons (as := []) (.str x t) (ih _ r2)
    exact ReadsAll.cons (as := []) (Reads.tuple ho hc hd (key _ _ rv)) i1
theorem zip_fst {α β : Type} : ∀ {l : List α} {m : List β}, l.length = m.length → (l.zip m).map (·.1) = l
  | [], [], _ => rfl
  | a :: l, b :: m, h => by
    have ih := zip_fst (l := l) (m := m) (by simpa using h)
    show a :: ((l.zip m).map (·.1)) = a :: l
    rw [ih]
theorem zip_snd {α β : Type} : ∀ {l : List α} {m : List β}, l.length = m.length → (l.zip m).map (·.2) = m
  | [], [], _ => rfl
  | a :: l, b :: m, h => by
    have ih := zip_snd (l := l) (m := m) (by simpa using h)
    show b :: ((l.zip m).map (·.2)) = b :: m
    rw [ih]
section
variable {X : Cx} {pins : List (Addr × Obj)} {σ : L2.St} {H : Hp} {s : Shared}
theorem Rd.some {a : Addr} {u : HO} (h : Rd H a u) : H a ≠ none := by
  rcases h with h | ⟨o, h⟩ <;> rw [h] <;> simp
mutual
theorem Dt.reads (I : Inv X pins σ H s) {v : V} {d : PyData} : Dt X.K H v d → ∀ {u : Value}, RelV v u → ∃ as, Reads s.heap u d as ∧ ∀ a ∈ as, H a ≠ none
  | .non, u, r => by
    cases r
    exact ⟨_, .none, by simp⟩
  | .bl b, u, r => by
    cases r
    exact ⟨_, .bool b, by simp⟩
  | .int i, u, r => by
    obtain ⟨t, rfl⟩ := r
    exact ⟨_, .int i t, by simp⟩
  | .str x, u, r => by
    obtain ⟨t, rfl⟩ := r
    exact ⟨_, .str x t, by simp⟩
  | .lst (a := a) (xs := xs) h k, u, r => by
    cases r
    obtain ⟨its, rv, ⟨o, n, ho, hc, _, hd⟩, _⟩ := I.list (.inl h)
    obtain ⟨as, r1, r2⟩ := DtAll.reads I k rv
    refine ⟨_, .list ho hc hd r1, fun b hb => ?_⟩
    rcases List.mem_cons.mp hb with rfl | hb
    · exact Rd.some h
    · exact r2 b hb
  | .tup (a := a) (xs := xs) h k, u, r => by
    cases r
    obtain ⟨its, rv, ⟨o, ho, hc, n, hd⟩, _⟩ := I.tuple h
    obtain ⟨as, r1, r2⟩ := DtAll.reads I k rv
    exact ⟨_, .tuple ho hc hd r1, r2⟩
  | .dK (a := a) (kvs := kvs) (ds := ds) h k, u, r => by
    cases r
    obtain ⟨_, _, vs, kv, o, es, ep, ho, hx, hd, _, hp, _⟩ := dk_rd I.hok h
    obtain ⟨e1, e2⟩ := kv_split kv
    obtain ⟨as, r1, r2⟩ := DtAll.reads I k e2
    obtain ⟨k1, k2⟩ := readsPairs (h := s.heap) hp
    have hl : (kvs.map fun p => keyD p.1).length = ds.length := by
      rw [List.length_map, ← k.len, List.length_map]
    refine ⟨_, .dict (as := []) (bs := as) ho hx.1 hd ?_ ?_, fun b hb => ?_⟩
    · rw [zip_fst hl, e1]
      exact k1
    · rw [zip_snd hl, k2]
      exact r1
    · rcases List.mem_cons.mp hb with rfl | hb
      · exact Rd.some h
      · exact r2 b (by simpa using hb)
  | .dT (a := a) (kvs := kvs) (ds := ds) h k, u, r => by
    cases r
    obtain ⟨_, _, xs, kv, o, es, ep, ho, hx, hd, he, _⟩ := dt_rd I.hok h
    obtain ⟨e1, e2⟩ := readsTup (h := s.heap) I.hok kv
    obtain ⟨as, r1, r2⟩ := DtAll.reads I k e2
    have hl : (kvs.map fun p => PyData.tuple (p.1.map keyD)).length = ds.length := by
      rw [List.length_map, ← k.len, List.length_map]
    refine ⟨_, .dict (as := []) (bs := as) ho hx.1 hd ?_ ?_, fun b hb => ?_⟩
    · rw [zip_fst hl, he, List.map_map]
      exact e1
    · rw [zip_snd hl, he, List.map_map]
      exact r1
    · rcases List.mem_cons.mp hb with rfl | hb
      · exact Rd.some h
      · exact r2 b (by simpa using hb)
theorem DtAll.reads (I : Inv X pins σ H s) {vs : List V} {ds : List PyData} : DtAll X.K H vs ds → ∀ {us : List Value}, Vals vs us → ∃ as, ReadsAll s.heap us ds as ∧ ∀ a ∈ as, H a ≠ none
  | .nil, us, r => by
    cases r
    exact ⟨_, .nil, by simp⟩
  | .cons a b, us, r => by
    cases r with
    | cons r1 r2 =>
      obtain ⟨as, q1, q2⟩ := Dt.reads I a r1
      obtain ⟨bs, q3, q4⟩ := DtAll.reads I b r2
      refine ⟨_, .cons q1 q3, fun c hc => ?_⟩
      rcases List.mem_append.mp hc with hc | hc
      · exact q2 c hc
      · exact q4 c hc
end
/-- no container -/
def scal1 : PyData → Bool
  | .none | .bool _ | .int _ | .str _ => true
  | _ => false
def flatD : PyData → Bool
  | .dict kvs => kvs.all fun p => scal1 p.1 && scal1 p.2
  | _ => false
theorem reads_scal {h : Heap} {v : Value} {d : PyData} {as : List Addr} (r : Reads h v d as) (e : scal1 d = true) : as = [] := by
  cases r <;> first | rfl | cases e
theorem readsAll_scal {h : Heap} : ∀ {vs : List Value} {ds : List PyData} {as : List Addr}, ReadsAll h vs ds as → (∀ d ∈ ds, scal1 d = true) → as = []
  | _, _, _, .nil, _ => rfl
  | _, _, _, .cons a b, e => by
    rw [reads_scal a (e _ (List.mem_cons_self ..)), readsAll_scal b fun d hd => e d (List.mem_cons_of_mem _ hd)]
    rfl
/-- repr(v) -/
def rRepr (K : PySem.W.Frag) : List V → Hp → VK → Prop := fun xs H Q => ∃ v d, xs = [v] ∧ Dt K H v d ∧ d.showable = true ∧ d.shown.length ≤ sizeLine ∧ d.depth ≤ 60 ∧ (d.hasDict = true → H sysModules = none ∨ flatD d = true) ∧ Q (.str d.shown) H
theorem Dt.noSys {v : V} {d : PyData} {u : Value} {as : List Addr} (I : Inv X pins σ H s) (hd : Dt X.K H v d) (r : RelV v u) (rd : Reads s.heap u d as) (hf : flatD d = true) : sysModules ∉ as := by
  cases rd with
  | @dict a o es n kvs as bs h1 h2 h3 h4 h5 =>
    have hall : ∀ p ∈ kvs, scal1 p.1 = true ∧ scal1 p.2 = true := fun p hp => by
      have := List.all_eq_true.mp (show (kvs.all fun p => scal1 p.1 && scal1 p.2) = true from hf) p hp
      exact Bool.and_eq_true_iff.mp this
    have e1 := readsAll_scal h4 fun d hd => by
      obtain ⟨p, hp, rfl⟩ := List.mem_map.mp hd
      exact (hall p hp).1
    have e2 := readsAll_scal h5 fun d hd => by
      obtain ⟨p, hp, rfl⟩ := List.mem_map.mp hd
      exact (hall p hp).2
    rw [e1, e2]
    intro hm
    have ha : sysModules = a := by simpa using hm
    generalize hq : PyData.dict kvs = dd at hd
    cases hd with
    | dK rd k =>
      injection (show Value.ref a = Value.ref _ from r) with ea
      subst ea
      have := (dk_rd I.hok rd).2.1
      rw [← ha] at this
      exact absurd this (by decide)
    | dT rd k =>
      injection (show Value.ref a = Value.ref _ from r) with ea
      subst ea
      have := (dt_rd I.hok rd).2.1
      rw [← ha] at this
      exact absurd this (by decide)
    | _ => cases hq
  | _ => cases hf
theorem call_repr (hG : X.A.guards = some []) (hu : X.A.units + 64 < cLine) : CallR X (.builtin "repr") (rRepr X.K) := by
  intro pins s σ H xs us Q I r h
  obtain ⟨v, d, rfl, hd, hs, hz, hp, hm, q⟩ := h
  cases r with
  | cons r1 r2 =>
    cases r2
    obtain ⟨as, rd, ha⟩ := Dt.reads I hd r1
    have hsm : d.hasDict = true → sysModules ∉ as := fun e => by
      rcases hm e with z | z
      · exact fun y => ha _ y z
      · exact Dt.noSys I hd r1 rd z
    cases rd with
    | none => exact P.repr_of_none ⟨.str _, H, I.tok _, ⟨_, rfl⟩, q⟩
    | bool b => exact P.repr_of_bool ⟨.str _, H, I.tok _, ⟨_, rfl⟩, q⟩
    | int i t => exact P.repr_of_int (by simpa [PyData.showable] using hs) ⟨.str _, H, I.tok _, ⟨_, rfl⟩, q⟩
    | str x t => exact P.repr_of_str ⟨.str _, H, I.tok _, ⟨_, rfl⟩, q⟩ hz
    | list h1 h2 h3 h4 => exact repr_of_reads' (.list h1 h2 h3 h4) hs hsm hG (by omega) (fun _ _ e => e) (fun h' u tk hk => ⟨.str _, H, I.kept (t' := tk) hk, ⟨_, rfl⟩, q⟩) hz
    | tuple h1 h2 h3 h4 => exact repr_of_reads' (.tuple h1 h2 h3 h4) hs hsm hG (by omega) (fun _ _ e => e) (fun h' u tk hk => ⟨.str _, H, I.kept (t' := tk) hk, ⟨_, rfl⟩, q⟩) hz
    | dict h1 h2 h3 h4 h5 => exact repr_of_reads' (.dict h1 h2 h3 h4 h5) hs hsm hG (by omega) (fun _ _ e => e) (fun h' u tk hk => ⟨.str _, H, I.kept (t' := tk) hk, ⟨_, rfl⟩, q⟩) hz
end
end FA

/-! FA4: further rules: xs[i] op= e, text * n; the bag of a law. -/
namespace FA
open PySem PySem.Spec PyProof.Rows L2
section
variable {X : Cx}
/-- xs[i], by values -/
theorem get_list : PGet X (fun o i H Q => ∃ p xs j v, o = .ref p ∧ i = .int j ∧ 0 ≤ j ∧ SqL X.K H p xs ∧ xs[j.toNat]? = some v ∧ Q v H) := by
  intro pins s σ H o i ov iv Q I ro ri h
  obtain ⟨p, xs, j, v, rfl, rfl, hj, hq, hv, q⟩ := h
  cases ro
  obtain ⟨t, rfl⟩ := ri
  obtain ⟨its, r, pl, hz⟩ := I.list hq
  obtain ⟨w, ew, rw'⟩ := r.get hv
  have hl := r.length
  have hlt : j.toNat < its.length := (List.getElem?_eq_some_iff.mp ew).1
  have hn := line63
  exact getItem_listL pl.isList hj (by omega) ew ⟨v, H, I, rw', q⟩
end
/-- the names of built-ins that the text leaves alone -/
structure Blt (mg : Str → Option Value) : Prop where
  len : mg "len" = none
  int : mg "int" = none
  abs : mg "abs" = none
  range : mg "range" = none
  repr : mg "repr" = none
  isinstance : mg "isinstance" = none
  str : mg "str" = none
  bool : mg "bool" = none
  all : mg "all" = none
/-! ### the bag -/
structure BagAt (H : Hp) (b c : Addr) : Prop where
  ex : ∃ (n0 n1 n2 : Int) (cells : List Int), H b = some (.lst [.int n0, .int n1, .int n2, .ref c]) ∧ H c = some (.lst (cells.map V.int)) ∧ 0 ≤ n0 ∧ 0 ≤ n1 ∧ n1 < 2147483647 ∧ 0 ≤ n2 ∧ cells.length ≤ 63 ∧ ∀ z ∈ cells, 0 ≤ z
/-- all but b is as it was -/
def But (b : Addr) (H H' : Hp) : Prop := ∀ a, a ≠ b → H' a = H a
theorem But.refl {b : Addr} {H : Hp} : But b H H := fun _ _ => rfl
theorem But.trans {b : Addr} {H H1 H2 : Hp} (h : But b H H1) (k : But b H1 H2) : But b H H2 := fun a n => (k a n).trans (h a n)
theorem But.upd {b : Addr} {H : Hp} {o : HO} : But b H (upd H b o) := fun _ n => upd_ne n
def spTake : Sp := fun vs H Q _ => ∃ (b c : Addr) (m : Int), vs = [.ref b, .int m] ∧ BagAt H b c ∧ 0 < m ∧ m.natAbs.log2 < 9000 ∧
  ∀ (r : Int) (H' : Hp), 0 ≤ r → r < m → BagAt H' b c → But b H H' → Q (.int r) H'
end FA

/-! FA5: types of data; small words for readings. -/
namespace FA
open PySem PySem.Spec PyProof.Rows L2
/-- the type's name -/
def tn : PyData → String
  | .none => "NoneType"
  | .bool _ => "bool"
  | .int _ => "int"
  | .str _ => "str"
  | .list _ => "list"
  | .tuple _ => "tuple"
  | .dict _ => "dict"
theorem Dt.ty {K : PySem.W.Frag} {H : Hp} {v : V} {d : PyData} (h : Dt K H v d) (hn : ∀ a o ks, H a ≠ some (.frz o (.dT ks))) : TyX K H v (.type (tn d)) := by
  cases h with
  | non => exact .base .non
  | bl b => exact .base (.bl b)
  | int i => exact .base (.int i)
  | str x => exact .base (.str x)
  | lst r k =>
    rcases r with r | ⟨o, r⟩
    · exact .base (.lst r)
    · exact .base (.frz r)
  | tup r k =>
    rcases r with (r | ⟨o, r⟩) | ⟨o, its, n, e, c, _⟩
    · exact .base (.tup r)
    · exact .fTuple r
    · exact .kTuple e c
  | dK r k =>
    rcases r with r | ⟨o, r⟩
    · exact .base (.dK r)
    · exact .fDict r
  | dT r k =>
    rcases r with r | ⟨o, r⟩
    · exact .base (.dT r)
    · exact absurd r (hn _ _ _)
/-- isinstance(v, T), T a built-in type -/
theorem isi_go {K : PySem.W.Frag} {H : Hp} {v : V} {d : PyData} {T : String} {b : Bool} {Q : VK} (h : Dt K H v d) (hn : ∀ a o ks, H a ≠ some (.frz o (.dT ks))) (hk : kitB (tn d) T = some b) (q : Q (.bl b) H) : rIsi K [v, .ty T] H Q :=
  ⟨v, .ty T, .type (tn d), .type T, b, rfl, .ty T, h.ty hn, kit_ty hk, q⟩
def isInt : PyData → Bool
  | .int _ => true
  | _ => false
def isBl : PyData → Bool
  | .bool _ => true
  | _ => false
def isTxt : PyData → Bool
  | .str _ => true
  | _ => false
def isLst : PyData → Bool
  | .list _ => true
  | _ => false
def isTup : PyData → Bool
  | .tuple _ => true
  | _ => false
def isDct : PyData → Bool
  | .dict _ => true
  | _ => false
theorem kit_int (d : PyData) : kitB (tn d) "int" = some (isInt d || isBl d) := by
  cases d <;> (first | decide +kernel | rfl)
theorem kit_bool (d : PyData) : kitB (tn d) "bool" = some (isBl d) := by
  cases d <;> (first | decide +kernel | rfl)
theorem kit_str (d : PyData) : kitB (tn d) "str" = some (isTxt d) := by
  cases d <;> (first | decide +kernel | rfl)
theorem kit_list (d : PyData) : kitB (tn d) "list" = some (isLst d) := by
  cases d <;> (first | decide +kernel | rfl)
theorem kit_tuple (d : PyData) : kitB (tn d) "tuple" = some (isTup d) := by
  cases d <;> (first | decide +kernel | rfl)
theorem kit_dict (d : PyData) : kitB (tn d) "dict" = some (isDct d) := by
  cases d <;> (first | decide +kernel | rfl)
theorem Dt.txt {K : PySem.W.Frag} {H : Hp} {v : V} {d : PyData} (h : Dt K H v d) (e : isTxt d = true) : ∃ x, v = .str x ∧ d = .str x := by
  cases h <;> first | exact ⟨_, rfl, rfl⟩ | (cases e)
/-! ### names -/
def letters : Str := "abcdefghijklmnopqrstuvwxyz"
def isNm (x : Str) : Bool := decide (1 ≤ x.length) && decide (x.length ≤ 8) && x.cps.toList.all fun c => decide (c ∈ letters.cps.toList)
def isName : PyData → Bool
  | .str x => isNm x
  | _ => false
/-- texts are not over long -/
def fitD : PyData → Prop
  | .str x => x.length ≤ 100000
  | _ => True
def spPred (K : PySem.W.Frag) (f : PyData → Bool) : Sp := fun vs H Q _ => ∃ v d, vs = [v] ∧ Dt K H v d ∧ fitD d ∧ ∀ H', Same H H' → Q (.bl (f d)) H'
theorem same_new {H : Hp} {p : Addr} {o : HO} (h : H p = none) : Same H (upd H p o) := fun b x e => by
  rw [upd_ne (ne_of_none e h)]
  exact e
theorem sz5 {n : Nat} (h : n ≤ 100000) : n ≤ sizeLine := Nat.le_trans h (by decide)
theorem sz5' {n : Nat} (h : n < 100000) : n < sizeLine := Nat.lt_of_lt_of_le h (by decide)
theorem map_take_succ {α β : Type} {f : α → β} {l : List α} {i : Nat} {x : α} (h : l[i]? = some x) : (l.take (i + 1)).map f = (l.take i).map f ++ [f x] := by
  rw [List.take_add_one, h, List.map_append]
  rfl
theorem list_of_cps {z : Str} {i c : Nat} (h : z.cps[i]? = some c) : z.cps.toList[i]? = some c := by
  rw [Array.getElem?_toList]
  exact h
end FA
namespace FA
open PySem PySem.Spec PyProof.Rows L2
theorem ifT {c : Bool} {A B : Prop} (hc : c = true) (h : A) : if c = true then A else B := by
  rw [if_pos hc]
  exact h
theorem ifF {c : Bool} {A B : Prop} (hc : c = false) (h : B) : if c = true then A else B := by
  rw [hc, if_neg Bool.false_ne_true]
  exact h
theorem ifB {c : Bool} {A B : Prop} (h1 : c = true → A) (h2 : c = false → B) : if c = true then A else B := by
  cases c with
  | true => exact ifT rfl (h1 rfl)
  | false => exact ifF rfl (h2 rfl)
end FA
namespace FA
open PySem PySem.Spec PyProof.Rows L2
/-- the def of the name x keeps sp -/
def Cl (P : Program) (w : World) (K : PySem.W.Frag) (mg : Str → Option Value) (base : Heap) (k : Nat) (x : Str) (ps : List Str) (sp : Sp) : Prop :=
  ∃ f fd, FnG P w K mg base CX0 k f fd ps sp ∧ mg x = some (.ref f) ∧ PySem.W.keepIn K (.ref f) = true ∧ Binds K fd ps []
theorem pe_cl {X : Cx} {k : Nat} {x : Str} {ps : List Str} {sp : Sp} {p pos : Pos} {e : Expr} {es : List Expr} {t : TA} (C : Cl X.prog X.w X.K X.mg X.base k x ps sp) (hr : Room k X.A) (hG : X.A.guards = some []) (ha : PA X (e :: es) t) (hg : Gl X x := by rfl)
    (hdb : (x == ("__debug__" : Str)) = false := by decide) (he : starEach (e :: es) X.env = (false, eval e X.env) :: starEach es X.env := by rfl) (hpl : (backTo pos (starEach es X.env)).any (·.1) = false := by rfl) :
    PE X (.Call (.Name x p) (e :: es) [] pos) (tCall sp [] E0 t) := by
  obtain ⟨f, fd, F, hm, hk, hb⟩ := C
  exact pe_callG F hr hG hg hm hk hb .nil pass0 ha hdb he hpl
/-- two values of one datum are alike -/
def spAlike (K : PySem.W.Frag) : Sp := fun vs H Q _ => ∃ v u d, vs = [v, u] ∧ Dt K H v d ∧ Dt K H u d ∧ d.showable = true ∧ d.shown.length ≤ sizeLine ∧ d.depth ≤ 30 ∧ SeqAt.shaped d = true ∧ d.hasDict = false ∧ Q (.bl true) H
mutual
/-- without dicts, Dt is Dp -/
theorem Dt.dp {K : PySem.W.Frag} {H : Hp} {v : V} {d : PyData} : Dt K H v d → d.hasDict = false → Dp K H v d
  | .non, _ => .non
  | .bl b, _ => .bl b
  | .int i, _ => .int i
  | .str x, _ => .str x
  | .lst r k, h => .lst (.inl r) (DtAll.dp k (by simpa [PyData.hasDict] using h))
  | .tup r k, h => .tup r (DtAll.dp k (by simpa [PyData.hasDict] using h))
  | .dK r k, h => by simp [PyData.hasDict] at h
  | .dT r k, h => by simp [PyData.hasDict] at h
theorem DtAll.dp {K : PySem.W.Frag} {H : Hp} {vs : List V} {ds : List PyData} : DtAll K H vs ds → PyData.hasDictAll ds = false → DpAll K H vs ds
  | .nil, _ => .nil
  | .cons a b, h => by
    simp only [PyData.hasDictAll, Bool.or_eq_false_iff] at h
    exact .cons (Dt.dp a h.1) (DtAll.dp b h.2)
end
end FA

/-! FA6: == and != of data without dicts. -/
namespace FA
open PySem PySem.Spec PyProof.Rows L2
section
variable {X : Cx}
def rEqP (K : PySem.W.Frag) : R2 := fun x y H Q => ∃ d e, Dt K H x d ∧ Dt K H y e ∧ d.plain = true ∧ e.plain = true ∧ d.depth ≤ 60 ∧ Q (.bl (PyData.eqv d e)) H
def rNeP (K : PySem.W.Frag) : R2 := fun x y H Q => ∃ d e, Dt K H x d ∧ Dt K H y e ∧ d.plain = true ∧ e.plain = true ∧ d.depth ≤ 60 ∧ Q (.bl (!PyData.eqv d e)) H
theorem op_eqP (hu : X.A.units + 64 < cLine) : OpR X (compareOp .Eq) (rEqP X.K) := by
  intro pins s σ H x y v u Q I rx ry h
  obtain ⟨d, e, hd, he, pd, pe, dd, q⟩ := h
  obtain ⟨as, r1, _⟩ := Dt.reads I hd rx
  obtain ⟨bs, r2, _⟩ := Dt.reads I he ry
  exact SeqAt.eq_plain r1 r2 pd pe (by have := Nat.min_le_left d.depth e.depth; omega) ⟨.bl _, H, I, rfl, q⟩
theorem op_neP (hu : X.A.units + 64 < cLine) : OpR X (compareOp .NotEq) (rNeP X.K) := by
  intro pins s σ H x y v u Q I rx ry h
  obtain ⟨d, e, hd, he, pd, pe, dd, q⟩ := h
  obtain ⟨as, r1, _⟩ := Dt.reads I hd rx
  obtain ⟨bs, r2, _⟩ := Dt.reads I he ry
  exact SeqAt.ne_plain r1 r2 pd pe (by have := Nat.min_le_left d.depth e.depth; omega) ⟨.bl _, H, I, rfl, q⟩
end
theorem dt_strs {K : PySem.W.Frag} {H : Hp} : ∀ l : List Str, DtAll K H (l.map V.str) (l.map PyData.str)
  | [] => .nil
  | x :: l => .cons (.str x) (dt_strs l)
theorem plain_strs : ∀ l : List Str, PyData.plainAll (l.map PyData.str) = true
  | [] => rfl
  | _ :: l => by
    show (true && PyData.plainAll (l.map PyData.str)) = true
    rw [plain_strs l]
    rfl
theorem inV_strs (x : Str) : ∀ l : List Str, inV (.str x) (l.map V.str) = decide (x ∈ l)
  | [] => rfl
  | y :: l => by
    have ih := inV_strs x l
    show ((y == x) || inV (.str x) (l.map V.str)) = decide (x ∈ y :: l)
    rw [ih, Bool.eq_iff_iff, Bool.or_eq_true, beq_iff_eq, decide_eq_true_iff, decide_eq_true_iff, List.mem_cons]
    exact ⟨fun h => h.elim (fun e => .inl e.symm) .inr, fun h => h.elim (fun e => .inl e.symm) .inr⟩
theorem depth_strs : ∀ l : List Str, PyData.depthAll (l.map PyData.str) = 0
  | [] => rfl
  | x :: l => by
    have ih := depth_strs l
    simp [PyData.depthAll, PyData.depth, ih]
end FA

/-! FA7: names drawn by a law: the plain part. -/
namespace FA
open PySem PySem.Spec PyProof.Rows L2
/-- the text of codes -/
def txL (l : List Nat) : Str := ⟨l.toArray⟩
theorem txL_cps (l : List Nat) : (txL l).cps.toList = l := rfl
theorem txL_len (l : List Nat) : (txL l).length = l.length := by show l.toArray.size = l.length; simp
theorem txL_inj {l m : List Nat} (h : txL l = txL m) : l = m := by
  have := congrArg (fun z : Str => z.cps.toList) h
  exact this
theorem txL_of (z : Str) : z = txL z.cps.toList := by cases z; rfl
theorem txL_app (l m : List Nat) : txL l ++ txL m = txL (l ++ m) := by
  show (⟨l.toArray ++ m.toArray⟩ : Str) = ⟨(l ++ m).toArray⟩
  simp
theorem letters_eq : letters.cps.toList = (List.range 26).map (97 + ·) := by decide +kernel
theorem mem_letters {c : Nat} : c ∈ letters.cps.toList ↔ 97 ≤ c ∧ c ≤ 122 := by
  rw [letters_eq, List.mem_map]
  constructor
  · rintro ⟨i, hi, rfl⟩
    have := List.mem_range.mp hi
    omega
  · intro h
    exact ⟨c - 97, List.mem_range.mpr (by omega), by omega⟩
theorem letter_at {i : Int} (h0 : 0 ≤ i) (h1 : i < 26) : atI letters.cps.toList i = some (97 + i.toNat) := by
  have e : letters.cps.toList[i.toNat]? = some (97 + i.toNat) := by
    rw [letters_eq, List.getElem?_map, List.getElem?_range (by omega)]
    rfl
  have := atI_nat e
  rwa [Int.toNat_of_nonneg h0] at this
theorem isNm_tx {l : List Nat} : isNm (txL l) = true ↔ 1 ≤ l.length ∧ l.length ≤ 8 ∧ ∀ c ∈ l, 97 ≤ c ∧ c ≤ 122 := by
  unfold isNm
  rw [Bool.and_eq_true, Bool.and_eq_true, decide_eq_true_iff, decide_eq_true_iff, List.all_eq_true, txL_len, txL_cps]
  constructor
  · rintro ⟨⟨a, b⟩, h⟩
    exact ⟨a, b, fun c hc => mem_letters.mp (of_decide_eq_true (h c hc))⟩
  · rintro ⟨a, b, h⟩
    exact ⟨⟨a, b⟩, fun c hc => decide_eq_true (mem_letters.mpr (h c hc))⟩
/-- m different names -/
structure Names (m : Nat) (ys : List Str) : Prop where
  len : ys.length = m
  nm : ∀ y ∈ ys, isNm y = true
  nd : ys.Nodup
def words : List Str := Txt.split ("set most least call skip run part steps first names params results places plain high" ++ " low proc wide endless never a b ab ba z") " "
theorem words_len : words.length = 25 := by decide +kernel
theorem words_nm : ∀ y ∈ words, isNm y = true := by decide +kernel
theorem words_nd : words.Nodup := by decide +kernel
theorem names_words {t m : Nat} (ht : t ≤ 25) (hm : m ≤ 8) : Names m ((words.drop t ++ words.take t).take m) := by
  have hp : (words.drop t ++ words.take t).Perm words := List.perm_append_comm.trans (by rw [List.take_append_drop])
  refine ⟨?_, fun y hy => words_nm y (hp.subset (List.mem_of_mem_take hy)), ((hp.nodup_iff).mpr words_nd).sublist (List.take_sublist _ _)⟩
  rw [List.length_take, hp.length_eq, words_len]
  omega
/-- the k-th letter -/
def lt (t k : Nat) : Nat := 97 + (t + 3 * k) % 26
theorem lt_ok (t k : Nat) : 97 ≤ lt t k ∧ lt t k ≤ 122 := by unfold lt; omega
theorem lt_inj {t j k : Nat} (hj : j < 8) (hk : k < 8) (h : lt t j = lt t k) : j = k := by unfold lt at h; omega
theorem nodup_range_map {α : Type} {m : Nat} {f : Nat → α} (h : ∀ i j, i < m → j < m → f i = f j → i = j) : ((List.range m).map f).Nodup := by
  rw [List.Nodup, List.pairwise_map]
  refine List.Pairwise.imp_of_mem ?_ (List.nodup_range (n := m))
  intro x y hx hy ne e
  exact ne (h x y (List.mem_range.mp hx) (List.mem_range.mp hy) e)
theorem names_one {t m : Nat} (hm : m ≤ 8) : Names m ((List.range m).map fun k => txL [lt t k]) := by
  refine ⟨by simp, fun y hy => ?_, nodup_range_map fun i j hi hj e => ?_⟩
  · obtain ⟨k, _, rfl⟩ := List.mem_map.mp hy
    refine isNm_tx.mpr ⟨by simp, by simp, fun c hc => ?_⟩
    obtain rfl := List.mem_singleton.mp hc
    exact lt_ok t k
  · have := txL_inj e
    injection this with e
    exact lt_inj (by omega) (by omega) e
theorem names_put {b : List Nat} {a t m : Nat} (hb : 1 ≤ b.length ∧ b.length ≤ 7) (hc : ∀ c ∈ b, 97 ≤ c ∧ c ≤ 122) (hm : m ≤ 8) : Names m ((List.range m).map fun k => txL (b.take a ++ [lt t k] ++ b.drop a)) := by
  refine ⟨by simp, fun y hy => ?_, nodup_range_map fun i j hi hj e => ?_⟩
  · obtain ⟨k, _, rfl⟩ := List.mem_map.mp hy
    have hl : (b.take a ++ [lt t k] ++ b.drop a).length = b.length + 1 := by
      have := congrArg List.length (List.take_append_drop a b)
      rw [List.length_append] at this
      rw [List.length_append, List.length_append, List.length_singleton]
      omega
    refine isNm_tx.mpr ⟨by omega, by omega, fun c h => ?_⟩
    rcases List.mem_append.mp h with h | h
    · rcases List.mem_append.mp h with h | h
      · exact hc c (List.mem_of_mem_take h)
      · obtain rfl := List.mem_singleton.mp h
        exact lt_ok t k
    · exact hc c (List.mem_of_mem_drop h)
  · have h := txL_inj e
    rw [List.append_assoc, List.append_assoc] at h
    have h2 := List.append_cancel_left h
    injection h2 with e
    exact lt_inj (by omega) (by omega) e
theorem cutS_to {l : List Nat} {a : Nat} (h : a ≤ l.length) : cutS (txL l) none (some (a : Int)) = txL (l.take a) := by
  unfold cutS
  rw [HT.sIx_nat, HT.sIx_none, txL_len, txL_cps]
  show (⟨(List.take (min a l.length - 0) (l.drop 0)).toArray⟩ : Str) = txL (l.take a)
  rw [Nat.min_eq_left h]
  rfl
theorem cutS_from {l : List Nat} {a : Nat} (h : a ≤ l.length) : cutS (txL l) (some (a : Int)) none = txL (l.drop a) := by
  unfold cutS
  rw [HT.sIx_nat, HT.sIx_none, txL_len, txL_cps, Nat.min_eq_left h]
  show (⟨(List.take (l.length - a) (l.drop a)).toArray⟩ : Str) = txL (l.drop a)
  rw [List.take_of_length_le (by rw [List.length_drop]; omega)]
  rfl
theorem cutV_to {xs : List V} {a : Nat} : cutV xs none (some (a : Int)) = xs.take a := by
  unfold cutV
  rw [HT.sIx_nat, HT.sIx_none]
  show List.take (min a xs.length - 0) (xs.drop 0) = xs.take a
  rw [Nat.sub_zero, List.drop_zero]
  rcases Nat.le_total a xs.length with h | h
  · rw [Nat.min_eq_left h]
  · rw [Nat.min_eq_right h, List.take_of_length_le (Nat.le_refl _), List.take_of_length_le h]
theorem cutV_from {xs : List V} {a : Nat} (h : a ≤ xs.length) : cutV xs (some (a : Int)) none = xs.drop a := by
  unfold cutV
  rw [HT.sIx_nat, HT.sIx_none, Nat.min_eq_left h]
  rw [List.take_of_length_le (by rw [List.length_drop]; omega)]
/-- text by text, joined by nothing -/
theorem join_nil : ∀ (ls : List (List Nat)), Txt.join "" (ls.map txL) = txL ls.flatten := by
  intro ls
  rw [TL.join_eq]
  have key : ∀ ps : List (List Nat), TL.joinL [] ps = ps.flatten := by
    intro ps
    induction ps with
    | nil => rfl
    | cons p ps ih =>
      cases ps with
      | nil =>
        show p = [p].flatten
        simp
      | cons q ps =>
        show p ++ ([] ++ TL.joinL [] (q :: ps)) = _
        rw [ih]
        simp
  have h := TL.tl_join "" (ls.map txL)
  have e : (ls.map txL).map TL.tl = ls := by
    rw [List.map_map]
    exact (List.map_congr_left fun l _ => (rfl : (TL.tl ∘ txL) l = l)).trans (List.map_id ls)
  rw [e] at h
  have h2 : TL.tl (Str.join "" (ls.map txL)) = ls.flatten := h.trans (key ls)
  rw [txL_of (Str.join "" (ls.map txL))]
  exact congrArg txL h2
end FA
namespace FA
open PySem PySem.Spec PyProof.Rows L2
/-- all that is tracked but b is as it was -/
def Sb (b : Addr) (H H' : Hp) : Prop := ∀ a o, H a = some o → a ≠ b → H' a = some o
theorem Sb.refl {b : Addr} {H : Hp} : Sb b H H := fun _ _ h _ => h
theorem Sb.trans {b : Addr} {H H1 H2 : Hp} (h : Sb b H H1) (k : Sb b H1 H2) : Sb b H H2 := fun a o e n => k a o (h a o e n) n
theorem But.sb {b : Addr} {H H' : Hp} (h : But b H H') : Sb b H H' := fun a o e n => (h a n).trans e
theorem Same.sb {b : Addr} {H H' : Hp} (h : Same H H') : Sb b H H' := fun a o e _ => h a o e
theorem Sb.new {b p : Addr} {H H' : Hp} {o : HO} (h : Sb b H H') (hp : H p = none) : Sb b H (upd H' p o) := fun a u e n => by
  rw [upd_ne (ne_of_none e hp)]
  exact h a u e n
theorem BagAt.keep {H H' : Hp} {b c : Addr} (h : BagAt H b c) (k : Same H H') : BagAt H' b c := by
  obtain ⟨n0, n1, n2, cells, hb, hc, r⟩ := h.ex
  exact ⟨n0, n1, n2, cells, k _ _ hb, k _ _ hc, r⟩
theorem BagAt.put {H : Hp} {b c p : Addr} {o : HO} (h : BagAt H b c) (hp : p ≠ b ∧ p ≠ c) : BagAt (upd H p o) b c := by
  obtain ⟨n0, n1, n2, cells, hb, hc, r⟩ := h.ex
  exact ⟨n0, n1, n2, cells, by rw [upd_ne hp.1.symm]; exact hb, by rw [upd_ne hp.2.symm]; exact hc, r⟩
theorem BagAt.neb {H : Hp} {b c p : Addr} (h : BagAt H b c) (hp : H p = none) : p ≠ b ∧ p ≠ c := by
  obtain ⟨n0, n1, n2, cells, hb, hc, r⟩ := h.ex
  exact ⟨(ne_of_none hb hp).symm, (ne_of_none hc hp).symm⟩
theorem But.none {b p : Addr} {H H' : Hp} (h : But b H H') (n : p ≠ b) (hp : H p = none) : H' p = none := (h p n).trans hp
def spNames : Sp := fun vs H Q _ => ∃ (b c : Addr) (m : Nat), vs = [.ref b, .int m] ∧ m ≤ 8 ∧ BagAt H b c ∧
  ∀ (p : Addr) (ys : List Str) (H' : Hp), Names m ys → H p = none → BagAt H' b c → Sb b H H' → H' p = some (.lst (ys.map V.str)) → Q (.ref p) H'
end FA
namespace FA
theorem flat_one : ∀ ls : List Nat, (ls.map fun z => [z]).flatten = ls
  | [] => rfl
  | z :: ls => by
    show [z] ++ (ls.map fun z => [z]).flatten = z :: ls
    rw [flat_one ls]
    rfl
theorem sum_ones : ∀ ls : List Nat, ((ls.map fun z => txL [z]).map (·.length)).sum = ls.length
  | [] => rfl
  | z :: ls => by
    have ih := sum_ones ls
    show (txL [z]).length + ((ls.map fun z => txL [z]).map (·.length)).sum = ls.length + 1
    rw [ih, txL_len]
    show 1 + ls.length = ls.length + 1
    omega
end FA

/-! FA8: one sign many times; ints of digits; the heap but the bag; odd values. -/
namespace FA
open PySem PySem.Spec PyProof.Rows L2
theorem rep_fold (c : Nat) : ∀ (n : Nat) (acc : Array Nat), ((List.replicate n #[c]).foldl (· ++ ·) acc) = acc ++ (List.replicate n c).toArray
  | 0, acc => by simp
  | n + 1, acc => by
    rw [List.replicate_succ, List.foldl_cons, rep_fold c n]
    apply Array.toList_inj.mp
    rw [Array.toList_append, Array.toList_append, Array.toList_append, List.append_assoc]
    rfl
section
variable {X : Cx}
/-- 'c' * n -/
theorem op_mul_sign : OpR X (binaryOp .Mult) (fun x y H Q => ∃ (c n : Nat), x = .str (txL [c]) ∧ y = .int n ∧ n ≤ 1000 ∧ Q (.str (txL (List.replicate n c))) H) := by
  intro pins s σ H x y v u Q I rx ry h
  obtain ⟨c, n, rfl, rfl, hn, q⟩ := h
  obtain ⟨t, rfl⟩ := rx
  obtain ⟨t', rfl⟩ := ry
  have hl : (txL [c]).length = 1 := rfl
  refine P.mul_str ?_ (fun h1 h2 => ?_) (fun h1 h2 => ?_) ?_
  · rw [decide_eq_false (by omega), decide_eq_false (by omega)]
    rfl
  · rw [hl]
    intro z
    have : (1 : Int) ≤ (2 ^ 63 - 1) / (n : Int) := by
      refine Int.le_ediv_of_mul_le (by omega) ?_
      omega
    omega
  · rw [hl]
    show decide (1 * n > sizeLine) = false
    rw [sizeLine_eq]
    exact decide_eq_false (by omega)
  · by_cases h0 : (n : Int) < 1
    · rw [if_pos h0]
      obtain rfl : n = 0 := by omega
      exact ⟨by decide, ⟨.str _, H, I.tok _, ⟨_, rfl⟩, q⟩⟩
    · rw [if_neg h0]
      by_cases h1 : ((n : Int) == 1 || (txL [c]).length == 0) = true
      · rw [if_pos h1]
        have e : n = 1 := by
          rw [hl] at h1
          simp at h1
          omega
        subst e
        exact ⟨.str _, H, I, ⟨_, rfl⟩, q⟩
      · rw [if_neg h1]
        have e : (⟨(List.replicate (n : Int).toNat (txL [c]).cps).foldl (· ++ ·) #[]⟩ : Str) = txL (List.replicate n c) := by
          show (⟨(List.replicate (n : Int).toNat #[c]).foldl (· ++ ·) #[]⟩ : Str) = _
          rw [Int.toNat_natCast, rep_fold]
          simp [txL]
        rw [e]
        refine ⟨?_, ⟨.str _, H, I.tok _, ⟨_, rfl⟩, q⟩⟩
        rw [txL_len, List.length_replicate, sizeLine_eq]
        omega
end
/-- 1 and n noughts -/
theorem int_ten : ∀ n : Nat, n < 60 → PySem.intText? (txL (49 :: List.replicate n 48)) = some ((10 : Int) ^ n) := by decide +kernel
/-! ### the heap but the bag -/
def Hb (b : Addr) (H : Hp) : Hp := fun a => if a = b then none else H a
theorem hb_ne {b a : Addr} {H : Hp} (h : a ≠ b) : Hb b H a = H a := if_neg h
theorem hb_sub {b : Addr} {H : Hp} : Same (Hb b H) H := fun a o h => by
  by_cases e : a = b
  · rw [e] at h
    have : Hb b H b = none := if_pos rfl
    rw [this] at h
    cases h
  · rw [hb_ne e] at h
    exact h
theorem Sb.same {b : Addr} {H H' : Hp} (h : Sb b H H') : Same (Hb b H) (Hb b H') := fun a o e => by
  by_cases z : a = b
  · rw [z] at e
    have : Hb b H b = none := if_pos rfl
    rw [this] at e
    cases e
  · rw [hb_ne z] at e ⊢
    exact h a o e z
theorem hb_at {b a : Addr} {H : Hp} {o : HO} (h : H a = some o) (n : a ≠ b) : Hb b H a = some o := by rw [hb_ne n]; exact h
/-! ### odd values -/
def oddMenu (x : Str) (w : Nat) : List PyData :=
  [.int 0, .int 1, .int (-1), .int ((10 : Int) ^ w), .int (-((10 : Int) ^ w)), .bool true, .bool false, .none, .str "", .str "a", .str x, .str (x ++ "z"), .str "abcdefgh"] ++
  [.str "abcdefghi", .str "A", .str "a1", .str "a b"] ++
  [.str "plain", .str "high", .str "low", .str "Plain", .list [], .tuple [], .dict [], .list [.int 1], .tuple [.int 0], .tuple [.str x], .dict [(.str x, .int 1)], .list [.str x], .tuple [.str "", .str "", .int 0]]
def spOdd (K : PySem.W.Frag) : Sp := fun vs H Q _ => ∃ (b c : Addr) (x : Str), vs = [.ref b, .str x] ∧ x.length ≤ 1000 ∧ BagAt H b c ∧
  ∀ (v : V) (d : PyData) (w : Nat) (H' : Hp), w < 40 → d ∈ oddMenu x w → Dt K (Hb b H') v d → BagAt H' b c → Sb b H H' → Q v H'
theorem DtAll.at {K : PySem.W.Frag} {H : Hp} : ∀ {vs : List V} {ds : List PyData} {i : Nat}, DtAll K H vs ds → i < ds.length → ∃ v d, vs[i]? = some v ∧ ds[i]? = some d ∧ Dt K H v d
  | _, _, _, .nil, h => absurd h (Nat.not_lt_zero _)
  | _, _, 0, .cons a _, _ => ⟨_, _, rfl, rfl, a⟩
  | _, _, i + 1, .cons _ t, h => by
    obtain ⟨v, d, h1, h2, h3⟩ := DtAll.at (i := i) t (by simpa using h)
    exact ⟨v, d, by simpa using h1, by simpa using h2, h3⟩
theorem DtAll.app {K : PySem.W.Frag} {H : Hp} : ∀ {vs us : List V} {ds es : List PyData}, DtAll K H vs ds → DtAll K H us es → DtAll K H (vs ++ us) (ds ++ es)
  | _, _, _, _, .nil, h => h
  | _, _, _, _, .cons a t, h => .cons a (DtAll.app t h)
end FA

/-! FA9: repr of data that holds dicts at any depth. -/
namespace FA
open PySem PySem.Spec PyProof.Rows L2
section
variable {X : Cx} {pins : List (Addr × Obj)} {σ : L2.St} {H : Hp} {s : Shared}
/-- what a dict of the heap is, seen from below -/
def DShape (X : Cx) (H : Hp) (s : Shared) (a : Addr) (vs : List V) (ks : List PyData) : Prop :=
  ∃ (o : Obj) (es : Array DictEntry) (n : Nat), s.heap.get? a = some o ∧ o.cls = .type "dict" ∧ o.data = .dict es n ∧ a ≠ sysModules ∧
    ReadsAll s.heap (es.toList.map (·.key)) ks [] ∧ Vals vs (es.toList.map (·.val)) ∧ ks.length = vs.length
theorem shapeK (I : Inv X pins σ H s) {a : Addr} {kvs : List (Key × V)} (h : Rd H a (.dK kvs)) : DShape X H s a (kvs.map (·.2)) (kvs.map fun p => keyD p.1) := by
  obtain ⟨_, hn, vs, kv, o, es, ep, ho, hx, hd, _, hp, _⟩ := dk_rd I.hok h
  obtain ⟨e1, e2⟩ := kv_split kv
  obtain ⟨k1, k2⟩ := readsPairs (h := s.heap) hp
  refine ⟨o, es, ep, ho, hx.1, hd, fun e => ?_, e1 ▸ k1, k2 ▸ e2, by simp⟩
  rw [e] at hn
  exact absurd hn (by decide)
theorem shapeT (I : Inv X pins σ H s) {a : Addr} {kvs : List (List Key × V)} (h : Rd H a (.dT kvs)) : DShape X H s a (kvs.map (·.2)) (kvs.map fun p => PyData.tuple (p.1.map keyD)) := by
  obtain ⟨_, hn, xs, kv, o, es, ep, ho, hx, hd, he, _⟩ := dt_rd I.hok h
  obtain ⟨e1, e2⟩ := readsTup (h := s.heap) I.hok kv
  refine ⟨o, es, ep, ho, hx.1, hd, fun e => ?_, ?_, ?_, by simp⟩
  · rw [e] at hn
    exact absurd hn (by decide)
  · rw [he, List.map_map]
    exact e1
  · rw [he, List.map_map]
    exact e2
/-- repr of one datum, at any depth -/
def RepOf (X : Cx) (s : Shared) (u : Value) (d : PyData) : Prop :=
  ∃ as bs, Reads s.heap u d as ∧ ReadAtMost s.heap d.depth bs ∧ ReprK X.prog X.w bs s.heap d.depth u d.shown
def RepAll (X : Cx) (s : Shared) (us : List Value) (ds : List PyData) : Prop :=
  ∃ as bs, ReadsAll s.heap us ds as ∧ ReadAtMost s.heap (PyData.depthAll ds) bs ∧ ReprAllK X.prog X.w bs s.heap (PyData.depthAll ds) us (PyData.shownAll ds)
theorem repLst {a : Addr} {o : Obj} {us : Array Value} {n : Nat} {ds : List PyData} (h1 : s.heap.get? a = some o) (h2 : o.cls = .type "list") (h3 : o.data = .seq us n) (k : RepAll X s us.toList ds) : RepOf X s (.ref a) (.list ds) := by
  obtain ⟨as, bs, r, hb, hk⟩ := k
  have rr : Reads s.heap (.ref a) (.list ds) _ := .list h1 h2 h3 r
  have na : a ∉ bs := not_mem_of_deeper rr (by rw [PyData.depth]; omega) hb
  refine ⟨_, a :: bs, rr, ReadAtMost.cons rr (by rw [PyData.depth]; omega) hb, ?_⟩
  rw [PyData.depth, PyData.shown]
  obtain ⟨l⟩ := us
  cases l with
  | nil =>
    have r' : ReadsAll s.heap [] ds as := r
    cases r'
    rw [PyData.shownAll, listText_nil]
    exact ReprK.listEmpty h1 h2 h3
  | cons x l => exact ReprK.list h1 h2 h3 na (by simpa using hk.length_eq) fun i y e => hk.item i y (by simpa using e)
theorem repTup {a : Addr} {o : Obj} {us : Array Value} {n : Nat} {ds : List PyData} (h1 : s.heap.get? a = some o) (h2 : o.cls = .type "tuple") (h3 : o.data = .seq us n) (k : RepAll X s us.toList ds) : RepOf X s (.ref a) (.tuple ds) := by
  obtain ⟨as, bs, r, hb, hk⟩ := k
  have rr : Reads s.heap (.ref a) (.tuple ds) _ := .tuple h1 h2 h3 r
  have na : a ∉ bs := not_mem_of_deeper rr (by rw [PyData.depth]; omega) hb
  refine ⟨_, a :: bs, rr, ReadAtMost.cons rr (by rw [PyData.depth]; omega) hb, ?_⟩
  rw [PyData.depth, PyData.shown]
  exact ReprK.tuple h1 h2 h3 na hk
theorem kv_depth {ks ds : List PyData} (e : ks.length = ds.length) : PyData.depthAll ks ≤ PyData.depthKv (ks.zip ds) ∧ PyData.depthAll ds ≤ PyData.depthKv (ks.zip ds) := by
  have h1 := PyData.depthAll_keys_le (ks.zip ds)
  have h2 := PyData.depthAll_vals_le (ks.zip ds)
  rw [zip_fst e] at h1
  rw [zip_snd e] at h2
  exact ⟨h1, h2⟩
theorem repKeys {us : List Value} {ks : List PyData} (r : ReadsAll s.heap us ks []) (hs : PyData.showableAll ks = true) (hz : ∀ t ∈ PyData.shownAll ks, t.length ≤ sizeLine) : RepAll X s us ks := by
  obtain ⟨bs, hb, hk⟩ := ReprAllK.of_readsAll (prog := X.prog) (w := X.w) r hs (fun _ => by simp) hz
  exact ⟨[], bs, r, hb, hk⟩
/-- the parts of a dict's repr -/
theorem repKv {a : Addr} {o : Obj} {es : Array DictEntry} {n : Nat} {ks ds : List PyData} (h1 : s.heap.get? a = some o) (h2 : o.cls = .type "dict") (h3 : o.data = .dict es n) (e : ks.length = ds.length)
    (k1 : RepAll X s (es.toList.map (·.key)) ks) (k2 : RepAll X s (es.toList.map (·.val)) ds) :
    ∃ as bs, Reads s.heap (.ref a) (.dict (ks.zip ds)) as ∧ ReadAtMost s.heap (PyData.depthKv (ks.zip ds)) bs ∧ a ∉ bs ∧
      ReprEntriesK X.prog X.w bs s.heap (PyData.depthKv (ks.zip ds)) es.toList (PyData.shownKv (ks.zip ds)) := by
  obtain ⟨as1, b1, r1, hb1, q1⟩ := k1
  obtain ⟨as2, b2, r2, hb2, q2⟩ := k2
  obtain ⟨l1, l2⟩ := kv_depth e
  have rr : Reads s.heap (.ref a) (.dict (ks.zip ds)) (a :: as1 ++ as2) := .dict h1 h2 h3 (by rw [zip_fst e]; exact r1) (by rw [zip_snd e]; exact r2)
  have hb := (hb1.mono l1).append (hb2.mono l2)
  refine ⟨_, b1 ++ b2, rr, hb, not_mem_of_deeper rr (by rw [PyData.depth]; omega) hb, ?_⟩
  rw [PyData.shownKv_eq, zip_fst e, zip_snd e]
  exact ReprEntriesK.of_two _ _ _ (q1.more_le (fun b hb => List.mem_append_left _ hb) l1) (q2.more_le (fun b hb => List.mem_append_right _ hb) l2)
theorem repDict {a : Addr} {vs : List V} {ks ds : List PyData} (S : DShape X H s a vs ks) (e : ks.length = ds.length) (hs : PyData.showableAll ks = true) (hz : (PyData.dict (ks.zip ds)).shown.length ≤ sizeLine)
    (k : ∀ us, Vals vs us → RepAll X s us ds) : RepOf X s (.ref a) (.dict (ks.zip ds)) := by
  obtain ⟨o, es, n, h1, h2, h3, hne, kr, hv, _⟩ := S
  have hz' : (dictText (PyData.shownKv (ks.zip ds))).length ≤ sizeLine := by simpa only [PyData.shown] using hz
  have kk : RepAll X s (es.toList.map (·.key)) ks := repKeys kr hs fun t ht => by
    obtain ⟨p, hp, hl⟩ := PyData.shownKv_key_le (ks.zip ds) t (by rw [zip_fst e]; exact ht)
    exact Nat.le_trans hl (Nat.le_trans (dictText_mem_le hp) hz')
  obtain ⟨as, bs, rr, hb, na, q⟩ := repKv h1 h2 h3 e kk (k _ hv)
  refine ⟨_, a :: bs, rr, ReadAtMost.cons rr (by rw [PyData.depth]; omega) hb, ?_⟩
  rw [PyData.depth, PyData.shown]
  exact ReprK.dict h1 h2 h3 (beq_eq_false_iff_ne.mpr hne) na q
theorem showKv {ks ds : List PyData} (e : ks.length = ds.length) (hs : (PyData.dict (ks.zip ds)).showable = true) : PyData.showableAll ks = true ∧ PyData.showableAll ds = true := by
  have := PyData.showableKv_split (ks.zip ds) (by simpa [PyData.showable] using hs)
  rw [zip_fst e, zip_snd e] at this
  exact this
theorem sizeKv {ks ds : List PyData} (e : ks.length = ds.length) (hz : (PyData.dict (ks.zip ds)).shown.length ≤ sizeLine) : ∀ t ∈ PyData.shownAll ds, t.length ≤ sizeLine := by
  intro t ht
  have hz' : (dictText (PyData.shownKv (ks.zip ds))).length ≤ sizeLine := by simpa only [PyData.shown] using hz
  obtain ⟨p, hp, hl⟩ := PyData.shownKv_val_le (ks.zip ds) t (by rw [zip_snd e]; exact ht)
  exact Nat.le_trans hl (Nat.le_trans (dictText_mem_le hp) hz')
mutual
theorem Dt.rep (I : Inv X pins σ H s) {v : V} {d : PyData} : Dt X.K H v d → d.showable = true → d.shown.length ≤ sizeLine → ∀ {u : Value}, RelV v u → RepOf X s u d
  | .non, hs, hz, u, r => by
    cases r
    exact ⟨_, [], .none, (fun _ h => nomatch h), by simp only [PyData.shown]; exact ReprK.of_is ReprIs.none _ _ _⟩
  | .bl b, hs, hz, u, r => by
    cases r
    exact ⟨_, [], .bool b, (fun _ h => nomatch h), by simp only [PyData.shown]; exact ReprK.of_is (ReprIs.bool b) _ _ _⟩
  | .int i, hs, hz, u, r => by
    obtain ⟨t, rfl⟩ := r
    exact ⟨_, [], .int i t, (fun _ h => nomatch h), by simp only [PyData.shown]; exact ReprK.of_is (ReprIs.int t (by simpa [PyData.showable] using hs)) _ _ _⟩
  | .str x, hs, hz, u, r => by
    obtain ⟨t, rfl⟩ := r
    exact ⟨_, [], .str x t, (fun _ h => nomatch h), by simp only [PyData.shown]; exact ReprK.of_is (ReprIs.str x t (by simpa only [PyData.shown] using hz)) _ _ _⟩
  | .lst (a := a) (xs := xs) (ds := ds) h k, hs, hz, u, r => by
    cases r
    obtain ⟨its, rv, ⟨o, n, ho, hc, _, hd⟩, _⟩ := I.list (.inl h)
    have hz' : (listText (PyData.shownAll ds)).length ≤ sizeLine := by simpa only [PyData.shown] using hz
    exact repLst ho hc hd (DtAll.rep I k (by simpa [PyData.showable] using hs) (fun t ht => Nat.le_trans (listText_mem_le ht) hz') rv)
  | .tup (a := a) (xs := xs) (ds := ds) h k, hs, hz, u, r => by
    cases r
    obtain ⟨its, rv, ⟨o, ho, hc, n, hd⟩, _⟩ := I.tuple h
    have hz' : (tupleText (PyData.shownAll ds)).length ≤ sizeLine := by simpa only [PyData.shown] using hz
    exact repTup ho hc hd (DtAll.rep I k (by simpa [PyData.showable] using hs) (fun t ht => Nat.le_trans (tupleText_mem_le ht) hz') rv)
  | .dK (a := a) (kvs := kvs) (ds := ds) h k, hs, hz, u, r => by
    cases r
    have e : (kvs.map fun p => keyD p.1).length = ds.length := by rw [List.length_map, ← k.len, List.length_map]
    have w := showKv e hs
    exact repDict (shapeK I h) e w.1 hz fun us rv => DtAll.rep I k w.2 (sizeKv e hz) rv
  | .dT (a := a) (kvs := kvs) (ds := ds) h k, hs, hz, u, r => by
    cases r
    have e : (kvs.map fun p => PyData.tuple (p.1.map keyD)).length = ds.length := by rw [List.length_map, ← k.len, List.length_map]
    have w := showKv e hs
    exact repDict (shapeT I h) e w.1 hz fun us rv => DtAll.rep I k w.2 (sizeKv e hz) rv
theorem DtAll.rep (I : Inv X pins σ H s) {vs : List V} {ds : List PyData} : DtAll X.K H vs ds → PyData.showableAll ds = true → (∀ t ∈ PyData.shownAll ds, t.length ≤ sizeLine) → ∀ {us : List Value}, Vals vs us → RepAll X s us ds
  | .nil, hs, hz, us, r => by
    cases r
    exact ⟨_, [], .nil, (fun _ h => nomatch h), by simp only [PyData.shownAll]; exact .nil⟩
  | .cons (d := d) (ds := ds) a b, hs, hz, us, r => by
    cases r with
    | cons r1 r2 =>
      rw [PyData.showableAll, Bool.and_eq_true] at hs
      rw [PyData.shownAll] at hz
      obtain ⟨as1, b1, q1, p1, k1⟩ := Dt.rep I a hs.1 (hz _ (List.mem_cons_self ..)) r1
      obtain ⟨as2, b2, q2, p2, k2⟩ := DtAll.rep I b hs.2 (fun t ht => hz t (List.mem_cons_of_mem _ ht)) r2
      refine ⟨_, b1 ++ b2, .cons q1 q2, ?_, ?_⟩
      · rw [PyData.depthAll]
        exact (p1.mono (Nat.le_max_left _ _)).append (p2.mono (Nat.le_max_right _ _))
      · rw [PyData.depthAll, PyData.shownAll]
        exact .cons ((k1.more fun b hb => List.mem_append_left _ hb).level_le (Nat.le_max_left _ _)) (k2.more_le (fun b hb => List.mem_append_right _ hb) (Nat.le_max_right _ _))
end
theorem DShape.ty {a : Addr} {vs : List V} {ks : List PyData} (S : DShape X H s a vs ks) : True := trivial
theorem showList {a : Addr} {o : Obj} {us : Array Value} {n : Nat} {ds : List PyData} (h1 : s.heap.get? a = some o) (h2 : o.cls = .type "list") (h3 : o.data = .seq us n) (k : RepAll X s us.toList ds)
    (hz : (PyData.list ds).shown.length ≤ sizeLine) : ShowsBy X.prog X.w s.heap a (.list ds) "list" "list.__repr__" := by
  obtain ⟨as, bs, r, hb, hk⟩ := k
  have na : a ∉ bs := not_mem_of_deeper (.list h1 h2 h3 r) (by rw [PyData.depth]; omega) hb
  have hz' : (listText (PyData.shownAll ds)).length ≤ sizeLine := by simpa only [PyData.shown] using hz
  refine ⟨F.slot_list_repr.toG, F.slot_list_str, F.slot_list_format, fun s' hk0 => ⟨o, hk0 _ _ h1, h2⟩, fun A E s' Q hg hu hk0 hQ => ?_⟩
  rw [PyData.depth] at hu
  rw [PyData.shown] at hQ
  obtain ⟨l⟩ := us
  cases l with
  | nil =>
    have r' : ReadsAll s.heap [] ds as := r
    cases r'
    rw [PyData.shownAll, listText_nil] at hQ
    exact call_list_repr_empty ⟨o, hk0 _ _ h1, h2⟩ (hk0 _ _ h1) h3 (hQ s'.heap _ _ fun _ _ e => e)
  | cons x l => exact call_list_reprK h1 h2 h3 na (by simpa using hk.length_eq) (fun i y e => hk.item i y (by simpa using e)) hg (fun b _ => Clear.nil b) hu hk0 hQ hz'
theorem showTup {a : Addr} {o : Obj} {us : Array Value} {n : Nat} {ds : List PyData} (h1 : s.heap.get? a = some o) (h2 : o.cls = .type "tuple") (h3 : o.data = .seq us n) (k : RepAll X s us.toList ds)
    (hz : (PyData.tuple ds).shown.length ≤ sizeLine) : ShowsBy X.prog X.w s.heap a (.tuple ds) "tuple" "tuple.__repr__" := by
  obtain ⟨as, bs, r, hb, hk⟩ := k
  have na : a ∉ bs := not_mem_of_deeper (.tuple h1 h2 h3 r) (by rw [PyData.depth]; omega) hb
  have hz' : (tupleText (PyData.shownAll ds)).length ≤ sizeLine := by simpa only [PyData.shown] using hz
  refine ⟨F.slot_tuple_repr, F.slot_tuple_str, F.slot_tuple_format, fun s' hk0 => ⟨o, hk0 _ _ h1, h2⟩, fun A E s' Q hg hu hk0 hQ => ?_⟩
  rw [PyData.depth] at hu
  rw [PyData.shown] at hQ
  exact call_tuple_reprK h1 h2 h3 na hk hg (fun b _ => Clear.nil b) hu hk0 hQ hz'
theorem showDict {a : Addr} {vs : List V} {ks ds : List PyData} (S : DShape X H s a vs ks) (e : ks.length = ds.length) (hs : PyData.showableAll ks = true) (hz : (PyData.dict (ks.zip ds)).shown.length ≤ sizeLine)
    (k : ∀ us, Vals vs us → RepAll X s us ds) : ShowsBy X.prog X.w s.heap a (.dict (ks.zip ds)) "dict" "dict.__repr__" := by
  obtain ⟨o, es, n, h1, h2, h3, hne, kr, hv, _⟩ := S
  have hz' : (dictText (PyData.shownKv (ks.zip ds))).length ≤ sizeLine := by simpa only [PyData.shown] using hz
  have kk : RepAll X s (es.toList.map (·.key)) ks := repKeys kr hs fun t ht => by
    obtain ⟨p, hp, hl⟩ := PyData.shownKv_key_le (ks.zip ds) t (by rw [zip_fst e]; exact ht)
    exact Nat.le_trans hl (Nat.le_trans (dictText_mem_le hp) hz')
  obtain ⟨as, bs, rr, hb, na, q⟩ := repKv h1 h2 h3 e kk (k _ hv)
  refine ⟨F.slot_dict_repr, F.slot_dict_str, F.slot_dict_format, fun s' hk0 => ⟨o, hk0 _ _ h1, h2⟩, fun A E s' Q hg hu hk0 hQ => ?_⟩
  rw [PyData.depth] at hu
  rw [PyData.shown] at hQ
  exact call_dict_reprK h1 h2 h3 (beq_eq_false_iff_ne.mpr hne) na q hg (fun b _ => Clear.nil b) hu hk0 hQ hz'
/-- repr(v), dicts at any depth -/
def rReprD (K : PySem.W.Frag) : List V → Hp → VK → Prop := fun xs H Q => ∃ v d, xs = [v] ∧ Dt K H v d ∧ d.showable = true ∧ d.shown.length ≤ sizeLine ∧ d.depth ≤ 60 ∧ Q (.str d.shown) H
theorem call_reprD (hG : X.A.guards = some []) (hu : X.A.units + 64 < cLine) : CallR X (.builtin "repr") (rReprD X.K) := by
  intro pins s σ H xs us Q I r h
  obtain ⟨v, d, rfl, hd, hs, hz, hp, q⟩ := h
  cases r with
  | cons r1 r2 =>
    cases r2
    have fin : ∀ {a : Addr} {T idr : String}, d.depth ≤ 60 → ShowsBy X.prog X.w s.heap a d T idr → wpAny (model X.prog X.w) X.A (call (.builtin "repr") [.ref a]) (EP X pins σ Q) X.xe s := by
      intro a T idr hp S
      refine call_repr_slot (by omega) (S.typeIs s fun _ _ e => e) S.slotRepr (S.call X.A.in1 X.xe s _ hG (by show X.A.units + 1 + d.depth < cLine; omega) (fun _ _ e => e) fun h' u tk hk => ⟨_, _, rfl, ?_⟩)
      exact ⟨.str _, H, I.kept (t' := tk) hk, ⟨_, rfl⟩, q⟩
    cases hd with
    | non =>
      cases r1
      exact P.repr_of_none ⟨.str _, H, I.tok _, ⟨_, rfl⟩, q⟩
    | bl b =>
      cases r1
      exact P.repr_of_bool ⟨.str _, H, I.tok _, ⟨_, rfl⟩, q⟩
    | int i =>
      obtain ⟨t, rfl⟩ := r1
      exact P.repr_of_int (by simpa [PyData.showable] using hs) ⟨.str _, H, I.tok _, ⟨_, rfl⟩, q⟩
    | str x =>
      obtain ⟨t, rfl⟩ := r1
      exact P.repr_of_str ⟨.str _, H, I.tok _, ⟨_, rfl⟩, q⟩ hz
    | @lst a xs ds h k =>
      cases r1
      obtain ⟨its, rv, ⟨o, n, ho, hc, _, hd⟩, _⟩ := I.list (.inl h)
      have hz' : (listText (PyData.shownAll ds)).length ≤ sizeLine := by simpa only [PyData.shown] using hz
      exact fin hp (showList ho hc hd (DtAll.rep I k (by simpa [PyData.showable] using hs) (fun t ht => Nat.le_trans (listText_mem_le ht) hz') rv) hz)
    | @tup a xs ds h k =>
      cases r1
      obtain ⟨its, rv, ⟨o, ho, hc, n, hd⟩, _⟩ := I.tuple h
      have hz' : (tupleText (PyData.shownAll ds)).length ≤ sizeLine := by simpa only [PyData.shown] using hz
      exact fin hp (showTup ho hc hd (DtAll.rep I k (by simpa [PyData.showable] using hs) (fun t ht => Nat.le_trans (tupleText_mem_le ht) hz') rv) hz)
    | @dK a kvs ds h k =>
      cases r1
      have e : (kvs.map fun p => keyD p.1).length = ds.length := by rw [List.length_map, ← k.len, List.length_map]
      have w := showKv e hs
      exact fin hp (showDict (shapeK I h) e w.1 hz fun us rv => DtAll.rep I k w.2 (sizeKv e hz) rv)
    | @dT a kvs ds h k =>
      cases r1
      have e : (kvs.map fun p => PyData.tuple (p.1.map keyD)).length = ds.length := by rw [List.length_map, ← k.len, List.length_map]
      have w := showKv e hs
      exact fin hp (showDict (shapeT I h) e w.1 hz fun us rv => DtAll.rep I k w.2 (sizeKv e hz) rv)
end
end FA

/-! FA10: own errors whose __init__ hands its fields on to super() and keeps them. -/
namespace FA
open PySem PySem.W PySem.Calls PyProof.Rows PySem.HandSPX
abbrev PP := Pos × Pos × Pos × Pos
def eA (p0 : Pos) (fs : List (Str × Pos)) : Arguments := { posonlyargs := [], args := { arg := "self", annotation := none, pos := p0 } :: fs.map fun p => { arg := p.1, annotation := none, pos := p.2 }, vararg := none, kwonlyargs := [], kw_defaults := [], kwarg := none, defaults := [] }
def eS (fs : List Str) : Scope := { kind := .function, names := (PySem.Str.ofString "self", .local) :: (fs.map fun f => (f, .local)) ++ [(PySem.Str.ofString "__class__", .free), (PySem.Str.ofString "super", .globalImplicit)], isGenerator := false, isCoroutine := false, more := [] }
def eSup (a0 a1 a2 a3 a4 : Pos) (es : List Expr) : Stmt := .Expr (.Call (.Attribute (.Call (.Name "super" a0) [] [] a1) "__init__" a2) es [] a3) a4
def eSto (f : Str) (c : PP) : Stmt := .Assign [.Attribute (.Name "self" c.1) f c.2.1] (.Name f c.2.2.1) c.2.2.2
def eB (a0 a1 a2 a3 a4 : Pos) (fs : List (Str × Pos × PP)) : List Stmt := eSup a0 a1 a2 a3 a4 (fs.map fun p => .Name p.1 p.2.1) :: fs.map fun p => eSto p.1 p.2.2
/-- a field's name -/
def fOk (f : Str) : Bool := f != "self" && f != "__class__" && f != "super" && f != "__debug__"
/-- what the written part says of an own error class -/
structure ErrTxt (P : Program) (K : Frag) (mg : Str → Option Value) (x : Str) (fs : List Str) (C fI : Addr) : Prop where
  gC : mg x = some (.ref C)
  gS : mg "super" = none
  cls : ∃ nm q N bs bm sn sub ab col dd k0 k1 k2 k3 k5, K.lookup C = some (excClassObj nm q C N bs bm true sn sub ab col dd k0 k1 k2 k3 k5 "ValueError.__new__") ∧ refsVE bm = true
  sup : ks_superIn K C C "__init__" = some (some (.builtin "ValueError.__init__"))
  subV : subIn K (.ref C) (.type "ValueError") = some true
  mroC : mroIn K C (.ref C) = some true
  opq : nsIn K cStatics "thirdparty.any" = some none
  sa : findIn K (.ref C) "__setattr__" = some (some (.builtin "object.__setattr__"))
  noN : ∀ f ∈ fs, findIn K (.ref C) f = some none
  iC : findIn K (.ref C) "__init__" = some (some (.ref fI))
  tC : typeIn K (.ref fI) = some (.type "function")
  kC : keepIn K (.ref C) = true
  tyC : typeIn K (.ref C) = some (.type "type")
  xf : L2.XfC K C
  fnm : ∀ f ∈ fs, fOk f = true
  nd : fs.Nodup
  top : (P.main.scope.names.lookup ("super" : Str)).isSome = false
  fn : ∃ (oc : Value) (od : Option Addr) (doc pm : Value) (an : Option Addr) (cda : Addr) (ct : Value) (osl : Array (Option Value)) (cc : Addr) (qn : Str) (p0 a0 a1 a2 a3 a4 : Pos) (ap : List Pos) (bp : List (Pos × PP)),
    (a2.endLine == a3.line) = true ∧ ap.length = fs.length ∧ bp.length = fs.length ∧ K.lookup fI = some ⟨oc, od, .func (ksFn "__init__" qn (eA p0 (fs.zip ap)) (eB a0 a1 a2 a3 a4 (fs.zip bp)) (eS fs) .none .none doc pm an (.ref cda) ct cc), osl⟩ ∧ codeIn K (.ref cda) qn = true ∧
    (∀ (s : Shared) (x : Value) (us : List Value), us.length = fs.length → BindsTo s (ksFn "__init__" qn (eA p0 (fs.zip ap)) (eB a0 a1 a2 a3 a4 (fs.zip bp)) (eS fs) .none .none doc pm an (.ref cda) ct cc) ⟨x :: us, []⟩ (("self", x) :: fs.zip us)) ∧
    (∃ (ccl : Value) (cdd : Option Addr) (vs : Array Value) (ccs : Array (Option Value)) (file : Str) (tf : Tok), K.lookup cda = some ⟨ccl, cdd, .fields vs, ccs⟩ ∧ vs[2]? = some (.str file tf) ∧ ((P.main.file : Str) == file) = true) ∧
    ∃ (cl : Value) (cld : Option Addr) (csl : Array (Option Value)), K.lookup cc = some ⟨cl, cld, .cell (some (.ref C)), csl⟩
theorem ns_keep {h h' : Heap} {L : Addr} {m : Str → Option Value} (n : h.Ns L m) (k : ∀ o, h.get? L = some o → h'.get? L = some o) : h'.Ns L m := by
  obtain ⟨oL, es, ep, hL, r⟩ := n
  exact ⟨oL, es, ep, k _ hL, r⟩
section
variable {P : Program} {w : World} {A : Around} {E : Value → Shared → Prop} {K : Frag} {mg mb : Str → Option Value} {x0 : Str} {fs : List Str} {C fI : Addr}
variable {hp : Heap} {g : Array GenState} {dr : Drawn} {t : Nat} {os : OsState}
/-- the built-in __init__, bound, called -/
theorem call_mw (T : ErrTxt P K mg x0 fs C fI) {u e t0 : Addr} {rest : List Value} {Q : Value → Shared → Prop} (X : K.In hp) (he : hp.get? e = some (excO C t0)) (hu : hp.get? u = some (kxs_mw "ValueError.__init__" e)) (hz : rest.length ≤ sizeLine)
    (hq : ∀ h' t1, (∀ b o, b ≠ e → hp.get? b = some o → h'.get? b = some o) → h'.get? e = some (excO C t1) → Q .none ⟨h', g, dr, t, os⟩) :
    wpAny (model P w) A (call (.ref u) rest) Q E ⟨hp, g, dr, t, os⟩ := by
  obtain ⟨nm, q, N, bs, bm, sn, sub, ab, col, dd, k0, k1, k2, k3, k5, hC, hbm⟩ := T.cls
  refine wpAny_call (codeAny_of_tree ?_)
  show wpAny _ A.in1 (callAny (.ref u) ⟨rest, []⟩) _ _ _
  simp only [callAny]
  refine wpAny_bind (wpAny_load hu ?_)
  simp only [kxs_mw, show (Value.type "method-wrapper" == Value.type "method" || Value.type "method-wrapper" == Value.type "builtin_function_or_method" || Value.type "method-wrapper" == Value.type "method-wrapper") = true by decide, if_true]
  refine KFB.if_so (by decide) ?_
  refine wpAny_bind (check_bound_init F.excBase_ValueError.toExcCallFacts (X _ _ hC) he rfl ?_)
  refine wpAny_bind (wpAny_pure (wpAny_pure ?_))
  refine ⟨plainId_quiet F.excBase_ValueError.init.plain _, codeAny_builtin F.excBase_ValueError.initEntry ?_⟩
  exact exc_init_tree (cls := .ref C) (t0 := t0) (dv := none) (c2 := .none) (c3 := .none) (b4 := .bool false) he hz fun h' k e' _ => hq h' _ k e'
/-- names handed on -/
theorem spl_names {M : Model} {s : Shared} {env : Env} {m : Str → Option Value} {pos : Pos} (hk : env.scope.kind = .function) (hn : s.heap.Ns env.locals m) :
    ∀ {l : List (Str × Pos)} {us : List Value} {Q : List Value → Shared → Prop}, Paired (fun (p : Str × Pos) (u : Value) => m p.1 = some u ∧ env.kindOf p.1 = some .local ∧ (p.1 == ("__debug__" : Str)) = false) l us → Q us s →
    wpAny M A (spliced (backTo pos (starEach (l.map fun p => Expr.Name p.1 p.2) env))) Q E s
  | _, _, _, .nil, h => spliced_none h
  | _, _, _, .cons r tl, h => spliced_more (wpAny_Name (wpAny_loadName_local hk r.2.1 hn r.1 (spl_names hk hn tl h)) r.2.2)
theorem cls_mro {cd : ClassData} {h : Heap} (X : K.In h) (hc : clsIn K C = some cd) : Looks (model P w) h (mroOf (.ref C)) cd.mro :=
  fun A Q E s k q => wpAny_bind ((looks_clsIn X hc) A _ E s k (wpAny_pure q))
def SupEv (qn : Str) (fs : List Str) (L fI cda cc : Addr) (a0 a1 a2 a3 : Pos) (l : List (Str × Pos)) : Prop :=
  ∃ pl : Sem Bool, eval (.Call (.Attribute (.Call (.Name "super" a0) [] [] a1) "__init__" a2) (l.map fun p => Expr.Name p.1 p.2) [] a3) (ksEnv qn (eS fs) L fI (.ref cda) cc) = (do
      let ov ← attributeBase (.Call (.Name "super" a0) [] [] a1) "__init__" (ksEnv qn (eS fs) L fI (.ref cda) cc) (eval (.Call (.Name "super" a0) [] [] a1) (ksEnv qn (eS fs) L fI (.ref cda) cc))
      standAt a2.atName
      let (f, first) ← holding [ov] (getMethod ov "__init__" pl)
      callWith a3 f first (backTo a3 (starEach (l.map fun p => Expr.Name p.1 p.2) (ksEnv qn (eS fs) L fI (.ref cda) cc))) [])
/-- super().__init__(..) -/
theorem sup_exec (T : ErrTxt P K mg x0 fs C fI) {body : List Stmt} {qn : Str} {L x t0 cda cc : Addr} {m : Str → Option Value} {oc ccl cl : Value} {od cdd cld : Option Addr} {osl ccs csl : Array (Option Value)} {vs : Array Value} {file : Str} {tf : Tok} {fd : FuncData} {ar : Arg}
    {a0 a1 a2 a3 a4 : Pos} {l : List (Str × Pos)} {us : List Value} {Q : Flow → Shared → Prop}
    (X : K.In hp) (hG : hp.Ns mainGlobals mg) (hB : hp.Ns builtinsNs mb) (hb : mb "super" = some (.type "super")) (hL : hp.Ns L m) (hx : hp.get? x = some (excO C t0)) (hself : m "self" = some (.ref x)) (har : ar.arg = "self")
    (hf : K.lookup fI = some ⟨oc, od, .func fd, osl⟩) (hpr : (fd.params.posonlyargs ++ fd.params.args).head? = some ar)
    (hcode : K.lookup cda = some ⟨ccl, cdd, .fields vs, ccs⟩) (hvs : vs[2]? = some (.str file tf)) (hfile : ((P.main.file : Str) == file) = true) (hcell : K.lookup cc = some ⟨cl, cld, .cell (some (.ref C)), csl⟩)
    (hks : (eS fs).names.lookup ("super" : Str) = some .globalImplicit) (hkc : (eS fs).names.lookup ("__class__" : Str) = some .free)
    (hes : Paired (fun (p : Str × Pos) (u : Value) => m p.1 = some u ∧ (ksEnv qn (eS fs) L fI (.ref cda) cc).kindOf p.1 = some .local ∧ (p.1 == ("__debug__" : Str)) = false) l us) (hz : us.length ≤ sizeLine) (he : SupEv qn fs L fI cda cc a0 a1 a2 a3 l)
    (hq : ∀ h' t' t1, (∀ b o, b ≠ x → hp.get? b = some o → h'.get? b = some o) → h'.get? x = some (excO C t1) → Q .next ⟨h', g, dr, t', os⟩) :
    _root_.PySem.wpAt (model P w) A (.func body (ksEnv qn (eS fs) L fI (.ref cda) cc)) (exec (eSup a0 a1 a2 a3 a4 (l.map fun p => .Name p.1 p.2)) (ksEnv qn (eS fs) L fI (.ref cda) cc)) Q E ⟨hp, g, dr, t, os⟩ := by
  obtain ⟨nm, q, N, bs, bm, sn, sub, ab, col, dd, k0, k1, k2, k3, k5, hC, hbm⟩ := T.cls
  have hcl : clsIn K C = some { name := nm, bases := bs, mro := .ref C :: bm, ns := N, qualname := q, hasDict := true, slotNames := sn, subclasses := sub, abstract := ab, collection := col, hasDel := false } := by unfold clsIn; rw [hC] <;> rfl
  unfold eSup
  obtain ⟨pl, he⟩ := he
  refine ks_wpAt_Expr_any (ks_wpAt_MethodCall ?_ he)
  refine ks_wpAt_super_base (env := ksEnv qn (eS fs) L fI (.ref cda) cc) hks hkc (by decide) rfl (X _ _ hf) rfl hpr rfl (X _ _ hcode) rfl hvs hfile T.top ?_
  refine ks_loadName_global rfl hks (loadGlobal_builtin (env := ksEnv qn (eS fs) L fI (.ref cda) cc) hG T.gS hB hb ⟨rfl, ?_⟩)
  refine wpAny_loadName_free rfl hkc rfl ⟨_, X _ _ hcell, rfl⟩ ?_
  refine wpAny_loadName_local rfl (by rw [har]; rfl) hL (by rw [har]; exact hself) ?_
  have I : InstAt hp x (excO C t0) C none := ⟨hx, rfl, rfl, trivial⟩
  refine ks_wpAny_isType_cls (X _ _ hC) rfl ⟨rfl, ?_⟩
  refine ks_wpAny_call_super (X _ _ hC) rfl hx rfl (fun c e => by cases e) (looks_mroIn X T.mroC) fun h1 so1 kk1 => ?_
  have X1 : K.In h1 := X.keeps kk1
  have hx1 := kk1 _ _ hx
  have hm := T.sup
  unfold ks_superIn at hm
  rw [hcl] at hm
  refine kxs_getMethod kxs_ValueError so1 (looks_opaque X1 T.opq) (cls_mro X1 hcl) rfl X1 hm (InstAt.type (od := none) ⟨hx1, rfl, rfl, trivial⟩ |>.andThen (looks_subIn X1 T.subV)) (ks_ne X I hcl) (by decide) ?_
  have kk2 : ∀ b o, hp.get? b = some o → (h1.push (kxs_mw "ValueError.__init__" x)).get? b = some o := fun b o e => Heap.get?_push_of_some _ (kk1 b o e)
  have hu2 : (h1.push (kxs_mw "ValueError.__init__" x)).get? h1.objs.size = some (kxs_mw "ValueError.__init__" x) := Heap.get?_push_at rfl rfl
  have fin : ∀ t', wpAny (model P w) A (call (.ref h1.objs.size) us) (fun _ => Q .next) E ⟨h1.push (kxs_mw "ValueError.__init__" x), g, dr, t', os⟩ := fun t' =>
    call_mw T (X.keeps kk2) (kk2 _ _ hx) hu2 hz fun h' t1 k e => hq h' t' t1 (fun b o hb ho => k b o hb (kk2 b o ho)) e
  cases hes with
  | nil => exact kxs_callWith (i := "ValueError.__init__") (x := x) rfl (evalArgs_empty ⟨hu2, fin _⟩)
  | @cons p u ps us' r tl =>
    have hpl : ∀ (l' : List (Str × Pos)), (backTo a3 (starEach (l'.map fun p => Expr.Name p.1 p.2) (ksEnv qn (eS fs) L fI (.ref cda) cc))).any (·.1) = false := by
      intro l'
      induction l' with
      | nil => rfl
      | cons b l' ih => exact ih
    refine kxs_callWith (i := "ValueError.__init__") (x := x) (hpl (p :: ps)) (evalArgs_plain ?_)
    exact spl_names (l := p :: ps) (us := u :: us') (m := m) (env := ksEnv qn (eS fs) L fI (.ref cda) cc) (pos := a3) rfl (hL.keeps kk2) (.cons r tl) ⟨hu2, fin _⟩
/-- what __init__ leaves of a fresh error at x: its dict d, none without fields -/
structure InitEnd (h h' : Heap) (x C : Addr) (fs : List Str) (vs : List Value) (d : Option Addr) : Prop where
  keep : ∀ b o, b ≠ x → h.get? b = some o → h'.get? b = some o
  obj : ∃ t1 : Addr, h'.get? x = some { cls := .ref C, dict := d, data := .fields #[.ref t1, .none, .none, .none, .bool false, .none] }
  fld : (d = none ∧ fs = []) ∨ fs ≠ [] ∧ ∃ dx, d = some dx ∧ h.objs.size ≤ dx ∧ dx ≠ x ∧ ∃ mm : Str → Option Value, h'.Ns1 dx mm ∧ ∀ y, mm y = (fs.zip vs).lookup y
theorem fok_ne {f : Str} (h : fOk f = true) : (f == ("self" : Str)) = false ∧ (f == ("__class__" : Str)) = false ∧ (f == ("super" : Str)) = false ∧ (f == ("__debug__" : Str)) = false := by
  unfold fOk at h
  simp only [Bool.and_eq_true, bne_iff_ne, ne_eq] at h
  obtain ⟨⟨⟨h1, h2⟩, h3⟩, h4⟩ := h
  exact ⟨beq_eq_false_iff_ne.mpr h1, beq_eq_false_iff_ne.mpr h2, beq_eq_false_iff_ne.mpr h3, beq_eq_false_iff_ne.mpr h4⟩
theorem beq_sym {f g : Str} (h : (f == g) = false) : (g == f) = false := by
  rw [beq_eq_false_iff_ne] at h ⊢
  exact fun e => h e.symm
theorem ldS {M : Model} {s : Shared} {env : Env} {m : Str → Option Value} {y : Str} {pos : Pos} {v : Value} {Q : Value → Shared → Prop} (hn : s.heap.Ns env.locals m) (hv : m y = some v) (hl : env.kindOf y = some .local) (hd : (y == ("__debug__" : Str)) = false) (hk : env.scope.kind = .function) (h : Q v s) :
    wpAny M A (eval (.Name y pos) env) Q E s := wpAny_Name (wpAny_loadName_local hk hl hn hv h) hd
theorem supEv_of {qn : Str} {fs : List Str} {L fI cda cc : Addr} {a0 a1 a2 a3 : Pos} {l : List (Str × Pos)} (hl : (a2.endLine == a3.line) = true)
    (hf : methodCallForm ((l.map fun p => Expr.Name p.1 p.2).length + ([] : List Keyword).length) (backTo a3 (starEach (l.map fun p => Expr.Name p.1 p.2) (ksEnv qn (eS fs) L fI (.ref cda) cc))) (backToKw a3 (keywordEach [] (ksEnv qn (eS fs) L fI (.ref cda) cc))) = true) : SupEv qn fs L fI cda cc a0 a1 a2 a3 l := by
  refine ⟨(do return (← importBound (.Call (.Name "super" a0) [] [] a1) (ksEnv qn (eS fs) L fI (.ref cda) cc)).getD true), ?_⟩
  rw [arm_eval_Call]
  unfold methodCall
  rw [hf]
  unfold methodCallPos calleeOf
  rw [hl]
  simp only [Bool.not_true, Bool.or_true, if_true, pure_bind, Bool.false_or]
  rfl
theorem eS_cell (fs : List Str) : ∀ y ∈ (eS fs).names, y.2 ≠ .cell := by
  intro y hy
  unfold eS at hy
  simp only [List.mem_append, List.mem_cons, List.mem_map, List.not_mem_nil, or_false] at hy
  rcases hy with (rfl | ⟨f, _, rfl⟩) | rfl | rfl <;> intro e <;> cases e
theorem eS_self (fs : List Str) : (eS fs).names.lookup ("self" : Str) = some .local := rfl
theorem look_skip {α : Type} {y : Str} : ∀ {l : List Str} {c : α} {r : List (Str × α)}, (∀ f ∈ l, (f == y) = false) → ((l.map fun f => (f, c)) ++ r).lookup y = r.lookup y
  | [], _, _, _ => rfl
  | f :: l, c, r, h => by
    show (match y == f with | true => some c | false => ((l.map fun f => (f, c)) ++ r).lookup y) = r.lookup y
    rw [beq_sym (h f List.mem_cons_self)]
    exact look_skip fun f' h' => h f' (List.mem_cons_of_mem _ h')
theorem eS_class {fs : List Str} (h : ∀ f ∈ fs, fOk f = true) : (eS fs).names.lookup ("__class__" : Str) = some .free := by
  show (((fs.map fun f => (f, NameKind.local)) ++ [(PySem.Str.ofString "__class__", NameKind.free), (PySem.Str.ofString "super", NameKind.globalImplicit)]).lookup ("__class__" : Str)) = some .free
  rw [look_skip fun f hf => (fok_ne (h f hf)).2.1]
  rfl
theorem eS_super {fs : List Str} (h : ∀ f ∈ fs, fOk f = true) : (eS fs).names.lookup ("super" : Str) = some .globalImplicit := by
  show (((fs.map fun f => (f, NameKind.local)) ++ [(PySem.Str.ofString "__class__", NameKind.free), (PySem.Str.ofString "super", NameKind.globalImplicit)]).lookup ("super" : Str)) = some .globalImplicit
  rw [look_skip fun f hf => (fok_ne (h f hf)).2.2.1]
  rfl
theorem eS_fld {fs : List Str} (h : ∀ f ∈ fs, fOk f = true) {f : Str} (hf : f ∈ fs) : (eS fs).names.lookup f = some .local := by
  show (match f == ("self" : Str) with | true => some NameKind.local | false => ((fs.map fun f => (f, NameKind.local)) ++ [(PySem.Str.ofString "__class__", NameKind.free), (PySem.Str.ofString "super", NameKind.globalImplicit)]).lookup f) = some .local
  rw [(fok_ne (h f hf)).1]
  show ((fs.map fun f => (f, NameKind.local)) ++ _).lookup f = some .local
  clear h
  induction fs with
  | nil => cases hf
  | cons a l ih =>
    show (match f == a with | true => some NameKind.local | false => ((l.map fun f => (f, NameKind.local)) ++ [(PySem.Str.ofString "__class__", NameKind.free), (PySem.Str.ofString "super", NameKind.globalImplicit)]).lookup f) = some .local
    cases e : f == a with
    | true => rfl
    | false =>
      rcases List.mem_cons.mp hf with rfl | hf
      · simp at e
      · exact ih hf
theorem look1 (y f : Str) (v : Value) : (if y = f then some v else none) = (match y == f with | true => some v | false => none) := by
  by_cases e : y = f
  · rw [if_pos e, e, beq_self_eq_true]
  · rw [if_neg e, beq_eq_false_iff_ne.mpr e]
theorem look_within (f : Str) (v : Value) : Within (fun y => if y = f then some v else none) [f] := by
  intro y hy
  by_cases e : y = f
  · exact e ▸ List.mem_cons_self
  · simp [e] at hy
section
variable {R : Result → Shared → Prop} {x t0 : Addr}
theorem own_init0 (T : ErrTxt P K mg x0 [] C fI) (X : K.In hp) (hlim : hp.NoLimit) (hG : hp.Ns mainGlobals mg) (hB : hp.Ns builtinsNs mb) (hb : mb "super" = some (.type "super")) (hx : hp.get? x = some (excO C t0)) (hnx : K.lookup x = none) (hroom : A.depth < recursionLimit)
    (hq : ∀ h' tk d, InitEnd hp h' x C [] [] d → R (.ok (.ret .none)) ⟨h', g, dr, tk, os⟩) :
    codeAny (model P w) A (.call (.ref fI) ⟨[.ref x], []⟩) R ⟨hp, g, dr, t, os⟩ := by
  obtain ⟨oc, od, doc, pm, an, cda, ct, osl, cc, qn, p0, a0, a1, a2, a3, a4, ap, bp, hl, la, lb, ho, hcd, hbt, ⟨ccl, cdd, vs, ccs, file, tf, c1, c2, c3⟩, cl, cld, csl, hcell⟩ := T.fn
  cases List.eq_nil_of_length_eq_zero la
  cases List.eq_nil_of_length_eq_zero lb
  refine ks_codeAny_call_defAt (binds := [("self", .ref x)]) hroom (X _ _ ho) rfl hlim (codeRec_of X hcd) rfl (hbt _ _ _ rfl) (eS_cell _) (fun y hy => ?_) (fun h₁ hn k => ?_)
  · cases List.mem_singleton.mp hy
    exact eS_self _
  refine ks_wpAt_execs_cons (sup_exec (l := []) (us := []) (fs := []) T (X.keeps k) (hG.keeps k) (hB.keeps k) hb hn (k _ _ hx) rfl rfl ho rfl c1 c2 c3 hcell (eS_super T.fnm) (eS_class T.fnm) .nil (Nat.zero_le _) (supEv_of hl rfl) fun h' t' t1 k2 hx2 => ?_)
  exact wpAt_of_wpAny (wpAny_execs_nil (hq h' t' none ⟨fun b o hb e => k2 b o hb (k b o e), ⟨t1, hx2⟩, .inl ⟨rfl, rfl⟩⟩))
theorem sz_two {α : Type} {l : List α} (h : l.length ≤ 2) : l.length ≤ sizeLine := Nat.le_trans h (by rw [sizeLine_eq]; decide)
theorem own_init1 {f : Str} {v : Value} (T : ErrTxt P K mg x0 [f] C fI) (X : K.In hp) (hlim : hp.NoLimit) (hG : hp.Ns mainGlobals mg) (hB : hp.Ns builtinsNs mb) (hb : mb "super" = some (.type "super")) (hx : hp.get? x = some (excO C t0)) (hnx : K.lookup x = none) (hroom : A.depth < recursionLimit)
    (hq : ∀ h' tk d, InitEnd hp h' x C [f] [v] d → R (.ok (.ret .none)) ⟨h', g, dr, tk, os⟩) :
    codeAny (model P w) A (.call (.ref fI) ⟨[.ref x, v], []⟩) R ⟨hp, g, dr, t, os⟩ := by
  obtain ⟨oc, od, doc, pm, an, cda, ct, osl, cc, qn, p0, a0, a1, a2, a3, a4, ap, bp, hl, la, lb, ho, hcd, hbt, ⟨ccl, cdd, vs, ccs, file, tf, c1, c2, c3⟩, cl, cld, csl, hcell⟩ := T.fn
  obtain ⟨nm, q, N, bs, bm, sn, sub, ab, col, dd, k0, k1, k2, k3, k5, hC, hbm⟩ := T.cls
  have hcl : clsIn K C = some { name := nm, bases := bs, mro := .ref C :: bm, ns := N, qualname := q, hasDict := true, slotNames := sn, subclasses := sub, abstract := ab, collection := col, hasDel := false } := by unfold clsIn; rw [hC] <;> rfl
  obtain ⟨p1, rfl⟩ := List.length_eq_one_iff.mp la
  obtain ⟨⟨b1, bc⟩, rfl⟩ := List.length_eq_one_iff.mp lb
  obtain ⟨f1, f2, f3, f4⟩ := fok_ne (T.fnm f List.mem_cons_self)
  have mS : ([("self", .ref x), (f, v)] : List (Str × Value)).reverse.lookup ("self" : Str) = some (.ref x) := by
    show (match ("self" : Str) == f with | true => some v | false => List.lookup ("self" : Str) [("self", Value.ref x)]) = _
    rw [beq_sym f1]
    rfl
  have mF : ([("self", .ref x), (f, v)] : List (Str × Value)).reverse.lookup f = some v := by
    show (match f == f with | true => some v | false => List.lookup f [("self", Value.ref x)]) = _
    rw [beq_self_eq_true]
  refine ks_codeAny_call_defAt (binds := [("self", .ref x), (f, v)]) hroom (X _ _ ho) rfl hlim (codeRec_of X hcd) rfl (hbt _ _ _ rfl) (eS_cell _) (fun y hy => ?_) (fun h₁ hn k => ?_)
  · rcases List.mem_cons.mp hy with rfl | hy
    · exact eS_self _
    · cases List.mem_singleton.mp hy
      exact eS_fld T.fnm List.mem_cons_self
  refine ks_wpAt_execs_cons (sup_exec (l := [(f, b1)]) (us := [v]) (fs := [f]) T (X.keeps k) (hG.keeps k) (hB.keeps k) hb hn (k _ _ hx) mS rfl ho rfl c1 c2 c3 hcell (eS_super T.fnm) (eS_class T.fnm) (.cons ⟨mF, eS_fld T.fnm List.mem_cons_self, f4⟩ .nil) (sz_two (by show 1 ≤ 2; decide)) (supEv_of hl rfl) fun h2 t2 t1 kk2 hx2 => ?_)
  have xL : x ≠ hp.objs.size := Nat.ne_of_lt (Heap.lt_size hx)
  have hn2 := ns_keep hn (fun o e => kk2 _ o xL.symm e)
  have X2 : K.In h2 := fun a o e => kk2 a o (fun z => by rw [z, hnx] at e; cases e) (k a o (X a o e))
  refine wpAt_of_wpAny (wpAny_execs_cons (plainObj_wpAny_Assign_Attribute ?_))
  refine ldS hn2 mF (eS_fld T.fnm List.mem_cons_self) f4 rfl (ldS hn2 mS (eS_self _) (by decide) rfl ?_)
  refine set_plain X2 (ox := excO C t1) (od := none) ⟨hx2, rfl, rfl, trivial⟩ T.sa ?_
  refine exc_osa X2 hx2 hcl (show refsVE (.ref C :: bm) = true from hbm) rfl (T.noN f List.mem_cons_self) (fun h3 t3 dx k3 dn dne hx3 hn3 => ?_)
  show wpAny _ _ (execs _ _) _ _ _
  exact wpAny_execs_nil (hq h3 t3 (some dx) ⟨fun b o hb e => k3 b o hb (kk2 b o hb (k b o e)), ⟨t1, hx3⟩, .inr ⟨by simp, dx, rfl, Nat.le_of_lt (Nat.lt_of_lt_of_le hn2.lt dn), dne, _, hn3, fun y => look1 y f v⟩⟩)
theorem len_two {α : Type} : ∀ {l : List α}, l.length = 2 → ∃ a b, l = [a, b]
  | [a, b], _ => ⟨a, b, rfl⟩
theorem own_init2 {f f' : Str} {v v' : Value} (T : ErrTxt P K mg x0 [f, f'] C fI) (X : K.In hp) (hlim : hp.NoLimit) (hG : hp.Ns mainGlobals mg) (hB : hp.Ns builtinsNs mb) (hb : mb "super" = some (.type "super")) (hx : hp.get? x = some (excO C t0)) (hnx : K.lookup x = none) (hroom : A.depth < recursionLimit)
    (hq : ∀ h' tk d, InitEnd hp h' x C [f, f'] [v, v'] d → R (.ok (.ret .none)) ⟨h', g, dr, tk, os⟩) :
    codeAny (model P w) A (.call (.ref fI) ⟨[.ref x, v, v'], []⟩) R ⟨hp, g, dr, t, os⟩ := by
  obtain ⟨oc, od, doc, pm, an, cda, ct, osl, cc, qn, p0, a0, a1, a2, a3, a4, ap, bp, hl, la, lb, ho, hcd, hbt, ⟨ccl, cdd, vs, ccs, file, tf, c1, c2, c3⟩, cl, cld, csl, hcell⟩ := T.fn
  obtain ⟨nm, q, N, bs, bm, sn, sub, ab, col, dd, k0, k1, k2, k3, k5, hC, hbm⟩ := T.cls
  have hcl : clsIn K C = some { name := nm, bases := bs, mro := .ref C :: bm, ns := N, qualname := q, hasDict := true, slotNames := sn, subclasses := sub, abstract := ab, collection := col, hasDel := false } := by unfold clsIn; rw [hC] <;> rfl
  obtain ⟨p1, p2, rfl⟩ := len_two la
  obtain ⟨⟨b1, bc⟩, ⟨b2, bc'⟩, rfl⟩ := len_two lb
  have m1 : f ∈ [f, f'] := List.mem_cons_self
  have m2 : f' ∈ [f, f'] := List.mem_cons_of_mem _ List.mem_cons_self
  obtain ⟨f1, f2, f3, f4⟩ := fok_ne (T.fnm f m1)
  obtain ⟨g1, g2, g3, g4⟩ := fok_ne (T.fnm f' m2)
  have hff : (f == f') = false := beq_eq_false_iff_ne.mpr fun e => by
    have := T.nd
    rw [e] at this
    simp at this
  have mS : ([("self", .ref x), (f, v), (f', v')] : List (Str × Value)).reverse.lookup ("self" : Str) = some (.ref x) := by
    show (match ("self" : Str) == f' with | true => some v' | false => (match ("self" : Str) == f with | true => some v | false => List.lookup ("self" : Str) [("self", Value.ref x)])) = _
    rw [beq_sym f1, beq_sym g1]
    rfl
  have mF : ([("self", .ref x), (f, v), (f', v')] : List (Str × Value)).reverse.lookup f = some v := by
    show (match f == f' with | true => some v' | false => (match f == f with | true => some v | false => List.lookup f [("self", Value.ref x)])) = _
    rw [beq_self_eq_true, hff]
  have mG : ([("self", .ref x), (f, v), (f', v')] : List (Str × Value)).reverse.lookup f' = some v' := by
    show (match f' == f' with | true => some v' | false => (match f' == f with | true => some v | false => List.lookup f' [("self", Value.ref x)])) = _
    rw [beq_self_eq_true]
  refine ks_codeAny_call_defAt (binds := [("self", .ref x), (f, v), (f', v')]) hroom (X _ _ ho) rfl hlim (codeRec_of X hcd) rfl (hbt _ _ _ rfl) (eS_cell _) (fun y hy => ?_) (fun h₁ hn k => ?_)
  · rcases List.mem_cons.mp hy with rfl | hy
    · exact eS_self _
    rcases List.mem_cons.mp hy with rfl | hy
    · exact eS_fld T.fnm m1
    · cases List.mem_singleton.mp hy
      exact eS_fld T.fnm m2
  refine ks_wpAt_execs_cons (sup_exec (l := [(f, b1), (f', b2)]) (us := [v, v']) (fs := [f, f']) T (X.keeps k) (hG.keeps k) (hB.keeps k) hb hn (k _ _ hx) mS rfl ho rfl c1 c2 c3 hcell (eS_super T.fnm) (eS_class T.fnm) (.cons ⟨mF, eS_fld T.fnm m1, f4⟩ (.cons ⟨mG, eS_fld T.fnm m2, g4⟩ .nil)) (sz_two (by show 2 ≤ 2; decide)) (supEv_of hl rfl) fun h2 t2 t1 kk2 hx2 => ?_)
  have xL : x ≠ hp.objs.size := Nat.ne_of_lt (Heap.lt_size hx)
  have hn2 := ns_keep hn (fun o e => kk2 _ o xL.symm e)
  have X2 : K.In h2 := fun a o e => kk2 a o (fun z => by rw [z, hnx] at e; cases e) (k a o (X a o e))
  refine wpAt_of_wpAny (wpAny_execs_cons (plainObj_wpAny_Assign_Attribute ?_))
  refine ldS hn2 mF (eS_fld T.fnm m1) f4 rfl (ldS hn2 mS (eS_self _) (by decide) rfl ?_)
  refine set_plain X2 (ox := excO C t1) (od := none) ⟨hx2, rfl, rfl, trivial⟩ T.sa ?_
  refine exc_osa X2 hx2 hcl (show refsVE (.ref C :: bm) = true from hbm) rfl (T.noN f m1) (fun h3 t3 dx k3 dn dne hx3 hn3 => ?_)
  have hL3 := ns_keep hn2 (fun o e => k3 _ o xL.symm e)
  have X3 : K.In h3 := fun a o e => k3 a o (fun z => by rw [z, hnx] at e; cases e) (X2 a o e)
  have dL : hp.objs.size < dx := Nat.lt_of_lt_of_le hn2.lt dn
  show wpAny _ _ (execs _ _) _ _ _
  refine wpAny_execs_cons (plainObj_wpAny_Assign_Attribute ?_)
  refine ldS hL3 mG (eS_fld T.fnm m2) g4 rfl (ldS hL3 mS (eS_self _) (by decide) rfl ?_)
  obtain ⟨oD, esD, epD, hoD, hdD, _⟩ := hn3.count (look_within f v)
  refine set_plain X3 (ox := { cls := .ref C, dict := some dx, data := .fields #[.ref t1, .none, .none, .none, .bool false, .none] }) (od := some oD) ⟨hx3, rfl, rfl, hoD⟩ T.sa ?_
  refine OEX.osa_old X3 hx3 hn3 (look_within f v) (by show 1 ≤ 1000; decide) hcl (show refsVE (.ref C :: bm) = true from hbm) rfl (T.noN f' m2) (fun h4 t4 k4 hn4 => ?_)
  show wpAny _ _ (execs _ _) _ _ _
  refine wpAny_execs_nil (hq h4 t4 (some dx) ⟨fun b o hb e => k4 b o (fun z => ?_) (k3 b o hb (kk2 b o hb (k b o e))), ⟨t1, k4 _ _ dne.symm hx3⟩, .inr ⟨by simp, dx, rfl, Nat.le_of_lt dL, dne, _, hn4, fun y => ?_⟩⟩)
  · exact absurd (Heap.lt_size e) (by rw [z]; exact Nat.not_lt_of_lt dL)
  · show (if y = f' then some v' else if y = f then some v else none) = (match y == f with | true => some v | false => (match y == f' with | true => some v' | false => none))
    by_cases e : y = f'
    · rw [if_pos e, e, beq_sym hff, beq_self_eq_true]
    · rw [if_neg e, beq_eq_false_iff_ne.mpr e]
      exact look1 y f v
end
end
end FA

/-! FA11: own errors raised (with L2N: the context is None). -/
namespace FA
open PySem PySem.W PySem.Calls PyProof.Rows PySem.HandSPX
/-- a made error -/
structure OwnMade (h h' : Heap) (e C : Addr) (fs : List Str) (vs : List Value) (d : Option Addr) : Prop where
  keep : ∀ b o, h.get? b = some o → h'.get? b = some o
  new : h.objs.size ≤ e
  obj : ∃ t1 : Addr, h'.get? e = some { cls := .ref C, dict := d, data := .fields #[.ref t1, .none, .none, .none, .bool false, .none] }
  fld : (d = none ∧ fs = []) ∨ fs ≠ [] ∧ ∃ dx, d = some dx ∧ h.objs.size ≤ dx ∧ dx ≠ e ∧ ∃ mm : Str → Option Value, h'.Ns1 dx mm ∧ ∀ y, mm y = (fs.zip vs).lookup y
section
variable {P : Program} {w : World} {A : Around} {R : Result → Shared → Prop} {K : Frag} {mg mb : Str → Option Value} {x0 : Str} {fs : List Str} {C fI : Addr} {vs : List Value}
variable {hp : Heap} {g : Array GenState} {dr : Drawn} {t : Nat} {os : OsState}
theorem own_init (T : ErrTxt P K mg x0 fs C fI) (hv : vs.length = fs.length) (hf : fs.length ≤ 2) {x t0 : Addr} (X : K.In hp) (hlim : hp.NoLimit) (hG : hp.Ns mainGlobals mg) (hB : hp.Ns builtinsNs mb) (hb : mb "super" = some (.type "super")) (hx : hp.get? x = some (excO C t0)) (hnx : K.lookup x = none) (hroom : A.depth < recursionLimit)
    (hq : ∀ h' tk d, InitEnd hp h' x C fs vs d → R (.ok (.ret .none)) ⟨h', g, dr, tk, os⟩) :
    codeAny (model P w) A (.call (.ref fI) ⟨.ref x :: vs, []⟩) R ⟨hp, g, dr, t, os⟩ := by
  match fs, vs, hv, hf, T, hq with
  | [], [], _, _, T, hq => exact own_init0 T X hlim hG hB hb hx hnx hroom hq
  | [f], [v], _, _, T, hq => exact own_init1 T X hlim hG hB hb hx hnx hroom hq
  | [f, f'], [v, v'], _, _, T, hq => exact own_init2 T X hlim hG hB hb hx hnx hroom hq
  | _ :: _ :: _ :: _, _, _, hf, _, _ => exact absurd hf (by simp)
theorem own_made (T : ErrTxt P K mg x0 fs C fI) (hv : vs.length = fs.length) (hf : fs.length ≤ 2) (X : K.In hp) (hlim : hp.NoLimit) (hG : hp.Ns mainGlobals mg) (hB : hp.Ns builtinsNs mb) (hb : mb "super" = some (.type "super")) (hroom : A.depth + 1 < recursionLimit)
    (hq : ∀ h' tk e d, OwnMade hp h' e C fs vs d → R (.ok (.ret (.ref e))) ⟨h', g, dr, tk, os⟩) :
    codeAny (model P w) A (.call (.ref C) ⟨vs, []⟩) R ⟨hp, g, dr, t, os⟩ := by
  obtain ⟨nm, q, N, bs, bm, sn, sub, ab, col, dd, k0, k1, k2, k3, k5, hC, hbm⟩ := T.cls
  have k : ∀ b o, hp.get? b = some o → ((hp.push (kdv_tup vs)).push (excO C hp.objs.size)).get? b = some o := fun b o e => Heap.get?_push_of_some _ (Heap.get?_push_of_some _ e)
  have hget : ((hp.push (kdv_tup vs)).push (excO C hp.objs.size)).get? (hp.objs.size + 1) = some (excO C hp.objs.size) := by heap_get
  have hnx : K.lookup (hp.objs.size + 1) = none := by
    cases e : K.lookup (hp.objs.size + 1) with
    | none => rfl
    | some o =>
      have z : hp.get? (hp.objs.size + 1) = some o := X _ _ e
      exact absurd (Nat.lt_of_succ_lt (Heap.lt_size z)) (Nat.lt_irrefl _)
  refine call_own F.excBase_ValueError (fun X => refsVE_contains X bm hbm) (X _ _ hC) (looks_findIn X T.iC) (fun self => bind_fn X self T.tC) (sz_two (by rw [hv]; exact hf)) ?_
  refine own_init T hv hf (X.keeps k) (hlim.keeps k) (hG.keeps k) (hB.keeps k) hb hget hnx (by show A.depth + 1 < recursionLimit; exact hroom) fun h' tk' d I => ?_
  have old : ∀ b o, hp.get? b = some o → h'.get? b = some o := fun b o e => I.keep b o (Nat.ne_of_lt (Nat.lt_succ_of_lt (Heap.lt_size e))) (k b o e)
  refine ⟨rfl, hq h' tk' (hp.objs.size + 1) d ⟨old, Nat.le_succ _, I.obj, ?_⟩⟩
  rcases I.fld with z | ⟨e0, dx, e1, e2, e3, e4⟩
  · exact .inl z
  · refine .inr ⟨e0, dx, e1, ?_, e3, e4⟩
    have q := e2
    rw [Heap.size_push, Heap.size_push] at q
    exact Nat.le_trans (Nat.le_trans (Nat.le_succ _) (Nat.le_succ _)) q
end
open L2
theorem relO_zip : ∀ {fs : List Str} {vs : List V} {us : List Value}, Vals vs us → ∀ y : Str, RelO ((fs.zip vs).lookup y) ((fs.zip us).lookup y)
  | [], _, _, _, _ => trivial
  | _ :: _, _, _, .nil, _ => trivial
  | f :: fs, _, _, .cons (a := v) (b := u) (l₁ := vs) (l₂ := us) r t, y => by
    show RelO (match y == f with | true => some v | false => (fs.zip vs).lookup y) (match y == f with | true => some u | false => (fs.zip us).lookup y)
    cases y == f with
    | true => exact r
    | false => exact relO_zip t y
/-- C(e, ..): the class, the dict that holds the fields -/
def tMkE (C : Addr) (fs : List Str) (ta : TA) : L2.St → Hp → XK → Prop := fun σ H Q => ta σ H fun vs H1 => vs.length = fs.length ∧ (if fs = [] then Q (.ref C) none H1 else ∀ d, H1 d = none → Q (.ref C) (some d) (upd H1 d (.xd (fs.zip vs))))
section
variable {X : Cx} {x : Str} {fs : List Str} {C fI : Addr} {k : Nat}
theorem made_end {pins : List (Addr × Obj)} {σ : L2.St} {H1 : Hp} {Q : XK} {hp : Heap} {g : Array GenState} {dr : Drawn} {t : Nat} {os : OsState} {vs : List V} {us : List Value} (T : ErrTxt X.prog X.K X.mg x fs C fI) (hr : Room k X.A) (hf : fs.length ≤ 2)
    (I1 : Inv X pins σ H1 ⟨hp, g, dr, t, os⟩) (r : Vals vs us) (hl : vs.length = fs.length) (q : if fs = [] then Q (.ref C) none H1 else ∀ d, H1 d = none → Q (.ref C) (some d) (upd H1 d (.xd (fs.zip vs)))) :
    wpAny (model X.prog X.w) X.A (call (.ref C) us) (L2N.MkP X pins σ Q) X.xe ⟨hp, g, dr, t, os⟩ := by
  obtain ⟨mb, hB, hb⟩ := I1.mod.blt
  have hG := I1.mod.glob.keeps I1.bk
  refine wpAny_call (own_made T (by rw [← hl]; exact (Paired.length r).symm) hf I1.kIn I1.nolimit hG (hB.keeps I1.bk) ((hb "super" (by decide)).trans rfl) (by have := hr.dp; omega) fun h' tk' e d M => ?_)
  show L2N.MkP X pins σ Q (.ref e) ⟨h', g, dr, tk', os⟩
  obtain ⟨t1, hoe⟩ := M.obj
  obtain ⟨G', g1, g2⟩ := restrict h' fun b => decide (b ≠ e)
  have gk : ∀ b, b ≠ e → G'.get? b = h'.get? b := fun b hb => g1 b (decide_eq_true hb)
  have ge : G'.get? e = none := g2 e (by simp)
  have old : ∀ b o, hp.get? b = some o → G'.get? b = some o := fun b o q => (gk b (Nat.ne_of_lt (Nat.lt_of_lt_of_le (Heap.lt_size q) M.new))).trans (M.keep b o q)
  have back : ∀ b o, G'.get? b = some o → h'.get? b = some o := fun b o q => by
    by_cases hb : b = e
    · rw [hb, ge] at q; cases q
    · exact (gk b hb).symm.trans q
  have zn : L2N.Zn (.ref C) d { cls := .ref C, dict := d, data := .fields #[.ref t1, .none, .none, .none, .bool false, .none] } := ⟨rfl, rfl, fun vs e => by cases e; rfl⟩
  rcases M.fld with ⟨rfl, rfl⟩ | ⟨hfs, dx, rfl, dn, dne, mm, hns, hmm⟩
  · rw [if_pos rfl] at q
    exact ⟨e, _, _, ⟨G', g, dr, tk', os⟩, H1, .ref C, none, rfl, I1.kept (t' := tk') old, back, ge, hoe, zn, rfl, rfl, I1.hok.fresh M.new, rfl, I1.bare, raises_own T.xf.exC T.tyC, q⟩
  · rw [if_neg hfs] at q
    have ob : ObjOk X.prog X.w (upd H1 dx (.xd (fs.zip vs))) G' dx (.xd (fs.zip vs)) := ⟨_, hns.at (fun o q => (gk dx dne).trans q), fun f => by rw [hmm]; exact relO_zip r f⟩
    have J : Inv X pins σ (upd H1 dx (.xd (fs.zip vs))) ⟨G', g, dr, tk', os⟩ := I1.laid (t' := tk') old dn ob
    refine ⟨e, _, _, ⟨G', g, dr, tk', os⟩, _, .ref C, some dx, rfl, J, back, ge, hoe, zn, rfl, rfl, ?_, rfl, I1.bare, raises_own T.xf.exC T.tyC, q dx (I1.hok.fresh dn)⟩
    rw [upd_ne (Ne.symm dne)]
    exact I1.hok.fresh M.new
/-- C(e, ..) -/
theorem pmk_err {e : Expr} {es : List Expr} {ta : TA} {p pos : Pos} (T : ErrTxt X.prog X.K X.mg x fs C fI) (hr : Room k X.A) (hf : fs.length ≤ 2) (ha : PA X (e :: es) ta) (hg : Gl X x := by rfl) (hdb : (x == ("__debug__" : Str)) = false := by decide)
    (he : starEach (e :: es) X.env = (false, eval e X.env) :: starEach es X.env := by rfl) (hpl : (backTo pos (starEach es X.env)).any (·.1) = false := by rfl) :
    L2N.PMk X (.Call (.Name x p) (e :: es) [] pos) (tMkE C fs ta) := by
  intro pins s σ H Q I h
  refine wpAny_Call_Name_kw (ld_glob I hg T.gC ?_ hdb)
  refine PySem.W.callWith_K (h₀ := X.base) I.ok.mod.kin T.kC (thn (ha.run pos pins s σ H _ I h) fun us s1 hh => ?_) he hpl
  obtain ⟨vs, H1, I1, r1, hl, q1⟩ := hh
  exact ⟨I1.kIn, made_end T hr hf I1 r1 hl q1⟩
/-- C() -/
theorem pmk_err0 {p pos : Pos} (T : ErrTxt X.prog X.K X.mg x [] C fI) (hr : Room k X.A) (hg : Gl X x := by rfl) (hdb : (x == ("__debug__" : Str)) = false := by decide) : L2N.PMk X (.Call (.Name x p) [] [] pos) (fun _ H Q => Q (.ref C) none H) := by
  intro pins s σ H Q I h
  refine wpAny_Call_Name_kw (ld_glob I hg T.gC ?_ hdb)
  exact PySem.W.callWith_K0 I.kIn T.kC (made_end T hr (by decide) I .nil rfl (by rw [if_pos rfl]; exact h))
end
end FA

/-! FA12: the caught error handed to defs within the suite: isinstance, its fields, the defs' promises. -/
namespace FA
open PySem PySem.Spec PyProof.Rows L2 L2H
/-- what a class says for isinstance of its errors -/
structure ErrIs (K : PySem.W.Frag) (D : Addr) : Prop where
  xf : XfC K D
  ha : PySem.W.findIn K (.ref D) "__class__" = some (some (.builtin "object.__class__"))
  hn : PySem.W.specialIn K (.builtin "object.__class__") "__get__" = some (some (.builtin "getset_descriptor.__get__"))
  ht : PySem.W.takesIn K (.builtin "object.__class__") = some true
  hm : PySem.W.mroIn K D (.type "object") = some true
/-- the error's dict is tracked -/
def XdOk (H : Hp) (d : Option Addr) : Prop := d = none ∨ ∃ dd fs, d = some dd ∧ H dd = some (.xd fs)
section
variable {X : Cx} {a : Addr} {oe : Obj} {cls : Value} {d : Option Addr}
/-- isinstance(e, c) -/
def rIsX (K : PySem.W.Frag) (a : Addr) (cls : Value) (d : Option Addr) : List V → Hp → VK → Prop := fun xs H Q => ∃ (c : V) (cv : Value) (b : Bool) (D : Addr), xs = [.ref a, c] ∧ (∀ u, RelV c u → u = cv) ∧ cls = .ref D ∧ ErrIs K D ∧ XdOk H d ∧ PySem.W.kitOne K (.ref D) cv = some b ∧ Q (.bl b) H
theorem call_isX (hp : (a, oe) ∈ X.pn) (hz : L2N.Zn cls d oe) (hf : ∃ vs, oe.data = .fields vs) : CallR X (.builtin "isinstance") (rIsX X.K a cls d) := by
  intro pins s σ H xs us Q I r h
  obtain ⟨c, cv, b, D, rfl, hcv, rfl, C, hx, e, q⟩ := h
  cases r with
  | cons rx rr =>
    cases rr with
    | cons rt rr =>
      cases rr
      cases rx
      have ec := hcv _ rt
      subst ec
      obtain ⟨hget, _⟩ := I.pin (a, oe) (List.mem_append.mpr (.inl hp))
      obtain ⟨vs, hv⟩ := hf
      have hcl : (PySem.W.clsIn X.K D).isSome = true := by
        obtain ⟨cd, hc, _⟩ := PySem.W.any_some C.xf.hdC
        rw [hc]
        rfl
      have J : ∃ od, PySem.W.InstAt s.heap a oe D od := by
        obtain ⟨h1, h2, _⟩ := hz
        rcases hx with rfl | ⟨dd, fs, rfl, hd⟩
        · exact ⟨none, hget, h1, by unfold PySem.W.notCls; rw [hv] <;> rfl, by rw [h2]; trivial⟩
        · obtain ⟨mA, hns, hr⟩ := (show ObjOk X.prog X.w H s.heap dd (.xd fs) from I.hok dd _ hd)
          obtain ⟨od, ho, hl⟩ := lookIn_ns hns
          exact ⟨some od, hget, h1, by unfold PySem.W.notCls; rw [hv] <;> rfl, by rw [h2]; exact ho⟩
      obtain ⟨od, J⟩ := J
      exact PySem.W.kia_one (PySem.W.kitx_exc hcl C.xf.ga C.xf.gg C.xf.exC C.ha C.hn C.ht C.hm) I.kIn J e (fun z => nomatch z) fun tk => ⟨.bl b, H, I.kept (t' := tk) fun _ _ z => z, rfl, q⟩
/-- e.f -/
def tXfl (K : PySem.W.Frag) (a : Addr) (cls : Value) (d : Option Addr) (f : Str) (te : TE) : TE := fun σ H Q => te σ H fun x H1 => x = .ref a ∧ ∃ (D dd : Addr) (fs : List (Str × V)) (v : V), cls = .ref D ∧ XfC K D ∧ PySem.W.findIn K (.ref D) f = some none ∧ d = some dd ∧ H1 dd = some (.xd fs) ∧ fs.lookup f = some v ∧ Q v H1
theorem pe_xfl {e : Expr} {te : TE} {pos : Pos} {n : Str} (hp : (a, oe) ∈ X.pn) (hz : L2N.Zn cls d oe) (hf : ∃ vs, oe.data = .fields vs) (he : PE X e te) (hb : attributeBase e n X.env (eval e X.env) = eval e X.env := by rfl) :
    PE X (.Attribute e n pos) (tXfl X.K a cls d n te) := by
  refine ⟨fun pins s σ H Q I h => ?_⟩
  refine attr_of hb (thn (he.run pins s σ H _ I h) fun u s1 hh => ?_)
  obtain ⟨x, H1, I1, rx, ex, D, dd, fs, v, ec, T, hno, ed, ea, l, q⟩ := hh
  subst ex
  obtain rfl : u = Value.ref a := rx
  subst ec
  subst ed
  obtain ⟨ha, _⟩ := I1.pin (a, oe) (List.mem_append_left _ hp)
  obtain ⟨vs, hd⟩ := hf
  obtain ⟨mA, hns, hr⟩ := (show ObjOk X.prog X.w H1 s1.heap dd (.xd fs) from I1.hok dd _ ea)
  obtain ⟨od, ho, hl⟩ := lookIn_ns hns
  obtain ⟨u, hu, ru⟩ := RelO.some_of (v := v) (o := mA n) (by rw [← l]; exact hr n)
  have J : PySem.W.InstAt s1.heap a oe D (some od) := ⟨ha, hz.1, by unfold PySem.W.notCls; rw [hd] <;> rfl, by rw [hz.2.1]; exact ho⟩
  exact HandSPX.exc_get I1.kIn J T.ga T.gg T.exC (PySem.W.findObj_own T.hdC hno rfl (by rw [hl, hu])) (handed_of ru) ⟨v, H1, I1.tok _, ru, q⟩
end
/-- what a def promises that is handed the caught error -/
structure FnE (P : Program) (w : World) (K : PySem.W.Frag) (mg : Str → Option Value) (base : Heap) (CX : CXT) (k : Nat) (f : Addr) (fd : FuncData) (ps : List Str) (sp : Addr → Value → Option Addr → Sp) : Prop where
  len : ∀ a c d vs H Q E, sp a c d vs H Q E → vs.length = ps.length
  run : ∀ (A : Around) (outer : List Env) (s : Shared) (H : Hp) (args : Args) (us : List Value) (vs : List V) (Q : VK) (E : XK) (p : Addr × Obj) (cls : Value) (d : Option Addr), RoomH k A → Hot1 A p → PinOk outer H s p → L2N.Zn cls d p.2 → Env0 P w K mg base A outer s H → BindsTo s fd args (ps.zip us) → Vals vs us → sp p.1 cls d vs H Q E →
    codeAny (model P w) A (.call (.ref f) args) (CR CX outer P w H s Q E) s
section
variable {P : Program} {w : World} {K : PySem.W.Frag} {mg : Str → Option Value} {base : Heap} {CX : CXT}
theorem okE {x qual : Str} {st : Stmt} {f : Addr} {fd : FuncData} {N ps : List Str} {k : Nat} {sp : Addr → Value → Option Addr → Sp} (F : Fun K x qual st f fd) (S : FnScope N ps (defScope st)) (len : ∀ a c d vs H Q E, sp a c d vs H Q E → vs.length = ps.length)
    (hb : ∀ (cdv : Value) (A : Around) (outer : List Env) (s : Shared) (H : Hp) (vs : List V) (Q : VK) (E : XK) (p : Addr × Obj) (cls : Value) (d : Option Addr), Hot1 A p → L2N.Zn cls d p.2 → RoomH k (A.deeper (envOfC qual (defScope st) s.heap.objs.size f cdv)) → sp p.1 cls d vs H Q E →
      WSs (cxH CX P w K mg base N qual (defScope st) f cdv A outer s H E p) (defBody st) { nx := fun _ H' => Q .non H', rt := Q } (L2.start N vs) H) :
    FnE P w K mg base CX (k + 1) f fd ps sp := by
  obtain ⟨oc, od, kV, doc, pm, an, cdv, ct, osl, rfl, lk, hcd⟩ := F.ex
  refine ⟨len, fun A outer s H args us vs Q E p cls d hr hot hpin hz e0 hbi r hsp => ?_⟩
  have hl := len _ _ _ _ _ _ _ hsp
  have KX : K.In s.heap := e0.mod.kin.keeps fun b o e => (e0.bs b o e).1
  have lim : s.heap.NoLimit := e0.mod.nolimit.keeps fun b o e => (e0.bs b o e).1
  have kinds : ∀ y ∈ ps.zip us, (defScope st).names.lookup y.1 = some .local ∨ ((defScope st).names.lookup y.1 = some .cell ∧ ((cellsFrom (s.heap.objs.size + 1) (defScope st).names []).lookup y.1).isSome = true) := by
    rintro ⟨n, v⟩ hy
    rcases S.par n (List.of_mem_zip hy).1 with z | z
    · exact .inl z
    · exact .inr ⟨z, PySem.W.cellsFrom_some _ _ _ (.inl z)⟩
  refine codeAny_call_function hr.depth (KX _ _ lk) rfl S.co S.gen rfl (PySem.W.codeRec_of KX hcd) (hbi _ _ _ _ (wpAny_newFunctionEnv_cells S.kind kinds fun env he s1 x => ?_))
  subst he
  refine ⟨lim.keeps x.toInCall.keep, codeAny_func ?_⟩
  have I : Inv (cxH CX P w K mg base N qual (defScope st) f cdv A outer s H E p) [] (L2.start N vs) H s1 := inv_startH S hpin e0 hl r x
  refine wpAny_mono (hb cdv A outer s H vs Q E p cls d hot hz (hr.deeper _) hsp [] s1 I) (fun fl s' z => ?_) fun e s' z => z
  match fl, z with
  | .ret u, z =>
    obtain ⟨v, _, H', J, rv, y⟩ := z
    exact ⟨v, H', J.os, J.bare, J.base, J.hok, rv, y⟩
  | .next, z =>
    obtain ⟨_, H', J, y⟩ := z
    exact ⟨V.non, H', J.os, J.bare, J.base, J.hok, rfl, y⟩
  | .brk, z =>
    obtain ⟨_, _, _, y⟩ := z
    exact y.elim
  | .cont, z =>
    obtain ⟨_, _, _, y⟩ := z
    exact y.elim
end
section
variable {X : Cx} {CX : CXT} {k : Nat} {f : Addr} {fd : FuncData} {ps : List Str} {sp : Addr → Value → Option Addr → Sp} {E : L2.St → XK} {x : Str} {q pos : Pos} {e : Expr} {es : List Expr} {t : TA} {a : Addr} {oe : Obj} {cls : Value} {d : Option Addr}
/-- f(.., e, ..) within the suite -/
theorem pe_callE (F : FnE X.prog X.w X.K X.mg X.base CX k f fd ps sp) (hr : RoomH k X.A) (hh : Hot1 X.A (a, oe)) (hp : (a, oe) ∈ X.pn) (hz : L2N.Zn cls d oe) (hg : Gl X x) (hm : X.mg x = some (.ref f)) (hk : PySem.W.keepIn X.K (.ref f) = true) (hb : Binds X.K fd ps []) (hx : ∀ σ, PassesAt CX X σ (E σ))
    (ha : PA X (e :: es) t) (hdb : (x == ("__debug__" : Str)) = false := by decide) (he : starEach (e :: es) X.env = (false, eval e X.env) :: starEach es X.env := by rfl) (hpl : (backTo pos (starEach es X.env)).any (·.1) = false := by rfl) :
    PE X (.Call (.Name x q) (e :: es) [] pos) (tCallS (sp a cls d) E t) := by
  refine ⟨fun pins s σ H Q I h => ?_⟩
  refine wpAny_Call_Name_kw (ld_glob I hg hm ?_ hdb)
  refine PySem.W.callWith_K (h₀ := X.base) I.ok.mod.kin hk (thn (ha.run pos pins s σ H _ I h) fun us s1 ⟨vs, H1, I1, r, q⟩ => ⟨I1.kIn, ?_⟩) he hpl
  have hl : us.length = ps.length := by rw [← r.length]; exact F.len _ _ _ _ _ _ _ q
  have b := hb s1 us I1.kIn (by rw [List.append_nil]; exact hl)
  rw [List.append_nil] at b
  have P1 := I1.pin (a, oe) (List.mem_append_left _ hp)
  have hpin : PinOk X.stack H1 s1 (a, oe) := ⟨P1.1, P1.2.1, fun hm => (List.mem_cons.mp (I1.stkSub a hm)).elim P1.2.2.1 P1.2.2.2.1, P1.2.2.2.2⟩
  refine wpAny_call (codeAny_mono (F.run X.A X.stack s1 H1 ⟨us, []⟩ us vs Q (E σ) (a, oe) cls d hr hh hpin hz I1.env0 b r q) fun r s' hq => ?_)
  match r, hq with
  | .error e, hq => exact hx σ pins H1 s1 e s' I1 hq
  | .ok (.ret u), hq => exact I1.after hq
end
section
variable {P : Program} {w : World} {K : PySem.W.Frag} {mg : Str → Option Value} {base : Heap}
/-- a def of the text that may raise (the context of what it raises is None) -/
theorem okGN {x qual : Str} {st : Stmt} {f : Addr} {fd : FuncData} {N ps : List Str} {k : Nat} {sp : Sp} (F : Fun K x qual st f fd) (S : FnScope N ps (defScope st)) (len : ∀ vs H Q E, sp vs H Q E → vs.length = ps.length)
    (hb : ∀ (cdv : Value) (A : Around) (outer : List Env) (s : Shared) (H : Hp) (vs : List V) (Q : VK) (E : XK), Room k (A.deeper (envOfC qual (defScope st) s.heap.objs.size f cdv)) → (A.deeper (envOfC qual (defScope st) s.heap.objs.size f cdv)).guards = some [] →
      sp vs H Q E → WSs (cxOf (L2N.CX P w) P w K mg base N qual (defScope st) f cdv A outer s H E) (defBody st) { nx := fun _ H' => Q .non H', rt := Q } (start N vs) H) : FnG P w K mg base (L2N.CX P w) (k + 1) f fd ps sp := by
  obtain ⟨oc, od, kV, doc, pm, an, cdv, ct, osl, rfl, lk, hcd⟩ := F.ex
  exact fn_g lk hcd S len fun A outer s H vs Q E hr hG hsp => hb cdv A outer s H vs Q E hr hG hsp
end
end FA

/-! FA13: == of values that stand for the same datum, dicts within. -/
namespace FA
open PySem PySem.Spec PyProof.Rows L2
mutual
/-- no dict with tuples as keys -/
def noT : PyData → Bool
  | .list xs | .tuple xs => noTAll xs
  | .dict kvs => noTKv kvs
  | _ => true
def noTAll : List PyData → Bool
  | [] => true
  | x :: xs => noT x && noTAll xs
def noTKv : List (PyData × PyData) → Bool
  | [] => true
  | (k, v) :: r => scal1 k && noT v && noTKv r
end
theorem noTKv_vals : ∀ {ks ds : List PyData}, ks.length = ds.length → noTKv (ks.zip ds) = true → noTAll ds = true
  | [], [], _, _ => rfl
  | k :: ks, d :: ds, e, h => by
    rw [List.zip_cons_cons, noTKv, Bool.and_eq_true, Bool.and_eq_true] at h
    rw [noTAll, Bool.and_eq_true]
    exact ⟨h.1.2, noTKv_vals (by simpa using e) h.2⟩
theorem keyD_inj {a b : Key} (h : keyD a = keyD b) : a = b := by
  cases a <;> cases b <;> simp [keyD] at h <;> rw [h]
theorem map_keyD_inj : ∀ {as bs : List Key}, as.map keyD = bs.map keyD → as = bs
  | [], [], _ => rfl
  | [], _ :: _, h => by cases h
  | _ :: _, [], h => by cases h
  | a :: as, b :: bs, h => by
    rw [List.map_cons, List.map_cons, List.cons.injEq] at h
    rw [keyD_inj h.1, map_keyD_inj h.2]
section
variable {X : Cx} {pins : List (Addr × Obj)} {σ : L2.St} {H : Hp} {s : Shared}
/-- a dict with plain keys -/
def DView (X : Cx) (H : Hp) (s : Shared) (a : Addr) (kvs : List (Key × V)) : Prop := (a == sysModules) = false ∧ ∃ va, KV kvs va ∧ s.heap.DictOf (mixKind X.prog X.w) a va
theorem viewK (I : Inv X pins σ H s) {a : Addr} {kvs : List (Key × V)} (h : Rd H a (.dK kvs)) : DView X H s a kvs := (dk_rd I.hok h).2
theorem viewT (I : Inv X pins σ H s) {a : Addr} (h : Rd H a (.dT [])) : DView X H s a [] := by
  obtain ⟨_, hn, xs, kv, o, es, ep, ho, hx, hd, he, _⟩ := dt_rd I.hok h
  cases kv
  have e0 : es = #[] := by
    have : es.toList = [] := by rw [he]; rfl
    exact Array.toList_eq_nil_iff.mp this
  subst e0
  exact ⟨hn, [], .nil, o, #[], ep, ho, hx, hd, fun e he => absurd he (by simp), .nil, .nil⟩
/-- the view of what stands for a dict -/
theorem Dt.view (I : Inv X pins σ H s) {v : V} {dd : PyData} (h : Dt X.K H v dd) {kvs : List (PyData × PyData)} (e : dd = .dict kvs) (hn : noTKv kvs = true) :
    ∃ (a : Addr) (ks : List (Key × V)) (ds : List PyData), v = .ref a ∧ kvs = (ks.map fun p => keyD p.1).zip ds ∧ DtAll X.K H (ks.map (·.2)) ds ∧ DView X H s a ks := by
  cases h with
  | @dK a ks ds h k =>
    injection e with e
    exact ⟨a, ks, ds, rfl, e.symm, k, viewK I h⟩
  | @dT a ks ds h k =>
    injection e with e
    cases ks with
    | nil =>
      cases k
      exact ⟨a, [], [], rfl, e.symm, .nil, viewT I h⟩
    | cons p ks =>
      subst e
      cases k with
      | cons k1 k2 =>
        rw [List.map_cons, List.zip_cons_cons, noTKv] at hn
        cases hn
  | _ => cases e
theorem same_zip {ks ls : List Key} {ds es : List PyData} (h1 : ks.length = ds.length) (h2 : ls.length = es.length) (e : (ks.map keyD).zip ds = (ls.map keyD).zip es) : ks = ls ∧ ds = es := by
  have a := congrArg (List.map (·.1)) e
  have b := congrArg (List.map (·.2)) e
  rw [zip_fst (by simpa using h1), zip_fst (by simpa using h2)] at a
  rw [zip_snd (by simpa using h1), zip_snd (by simpa using h2)] at b
  exact ⟨map_keyD_inj a, b⟩
theorem all_true (n : Nat) : ((List.range n).all fun _ => true) = true := by simp
theorem leafT {d : PyData} {u u' : Value} {as bs : List Addr} {n : Nat} (r1 : Reads s.heap u d as) (r2 : Reads s.heap u' d bs) (hp : d.plain = true) (hn : d.depth ≤ n) : PySem.W.EqTree X.prog X.w s n u u' true :=
  .leaf fun A hu => by
    have := SeqAt.eqAt_plain d d A s u u' as bs r1 r2 hp hp (by rw [Nat.min_self]; omega)
    rwa [SeqAt.eqv_refl_plain d hp] at this
/-- two dicts entry by entry -/
theorem dictT {a b : Addr} {ks ls : List (Key × V)} {n : Nat} (hk : ks.map (·.1) = ls.map (·.1)) (va vb : List (Key × Value)) (ra : KV ks va) (rb : KV ls vb) (db : s.heap.DictOf (mixKind X.prog X.w) b vb)
    (t : ∀ j (h1 : j < (va.map (·.2)).length) (h2 : j < (vb.map (·.2)).length), PySem.W.EqTree X.prog X.w s n (va.map (·.2))[j] (vb.map (·.2))[j] true) :
    (∀ k v y, (k, v) ∈ va → valueAt vb k = some y → PySem.W.EqTree X.prog X.w s n v y ((fun _ => true) k)) ∧ (va.length == vb.length && va.all fun p => (valueAt vb p.1).isSome && (fun _ => true) p.1) = true := by
  have kk : va.map (·.1) = vb.map (·.1) := by rw [← ra.keys, ← rb.keys]; exact hk
  have hl : va.length = vb.length := by simpa using congrArg List.length kk
  obtain ⟨_, _, _, _, _, _, _, _, hnd⟩ := db
  refine ⟨fun k v y hm hy => ?_, ?_⟩
  · obtain ⟨i, hi, e⟩ := List.mem_iff_getElem.mp hm
    have hi' : i < vb.length := hl ▸ hi
    have e2 : vb[i].1 = k := by
      have : (va.map (·.1))[i]'(by simpa using hi) = (vb.map (·.1))[i]'(by simpa using hi') := by simp only [kk]
      rw [List.getElem_map, List.getElem_map, e] at this
      exact this.symm
    have hv := valueAt_of_get hnd (i := i) (k := k) (v := vb[i].2) (by rw [List.getElem?_eq_getElem hi', ← e2])
    rw [hv] at hy
    cases hy
    have q := t i (by simpa using hi) (by simpa using hi')
    rw [List.getElem_map, List.getElem_map, e] at q
    exact q
  · rw [Bool.and_eq_true]
    refine ⟨by simpa using hl, List.all_eq_true.mpr fun p hp => ?_⟩
    rw [Bool.and_true]
    refine valueAt_isSome.mpr ?_
    rw [← kk]
    exact List.mem_map_of_mem hp
mutual
theorem Dt.tree (I : Inv X pins σ H s) {v : V} {d : PyData} : Dt X.K H v d → ∀ {v' : V}, Dt X.K H v' d → noT d = true → ∀ {n : Nat}, d.depth ≤ n → ∀ {u u' : Value}, RelV v u → RelV v' u' → PySem.W.EqTree X.prog X.w s n u u' true
  | .non, v', h', ht, n, hn, u, u', r, r' => by
    obtain ⟨_, r1, _⟩ := Dt.reads I (.non (K := X.K) (H := H)) r
    obtain ⟨_, r2, _⟩ := Dt.reads I h' r'
    exact leafT r1 r2 rfl hn
  | .bl b, v', h', ht, n, hn, u, u', r, r' => by
    obtain ⟨_, r1, _⟩ := Dt.reads I (.bl (K := X.K) (H := H) b) r
    obtain ⟨_, r2, _⟩ := Dt.reads I h' r'
    exact leafT r1 r2 rfl hn
  | .int i, v', h', ht, n, hn, u, u', r, r' => by
    obtain ⟨_, r1, _⟩ := Dt.reads I (.int (K := X.K) (H := H) i) r
    obtain ⟨_, r2, _⟩ := Dt.reads I h' r'
    exact leafT r1 r2 rfl hn
  | .str x, v', h', ht, n, hn, u, u', r, r' => by
    obtain ⟨_, r1, _⟩ := Dt.reads I (.str (K := X.K) (H := H) x) r
    obtain ⟨_, r2, _⟩ := Dt.reads I h' r'
    exact leafT r1 r2 rfl hn
  | .lst (a := a) (xs := xs) (ds := ds) h k, v', h', ht, n, hn, u, u', r, r' => by
    cases h' with
    | @lst b ys _ h2 k2 =>
      cases r
      cases r'
      obtain ⟨its, rv, pl, _⟩ := I.list (.inl h)
      obtain ⟨its', rv', pl', _⟩ := I.list (.inl h2)
      by_cases hab : a = b
      · subst hab
        exact .same
      · obtain ⟨m, rfl⟩ : ∃ m, n = m + 1 := ⟨n - 1, by rw [PyData.depth] at hn; omega⟩
        have t := DtAll.tree I k k2 (by simpa [noT] using ht) (n := m) (by rw [PyData.depth] at hn; omega) rv rv'
        have q := PySem.W.EqTree.lists (e := fun _ => true) hab pl.isList pl'.isList (by rw [List.size_toArray, List.size_toArray, ← rv.length, ← rv'.length, k.len, k2.len]) fun j h1 h2 => t j (by simpa using h1) (by simpa using h2)
        rwa [all_true] at q
  | .tup (a := a) (xs := xs) (ds := ds) h k, v', h', ht, n, hn, u, u', r, r' => by
    cases h' with
    | @tup b ys _ h2 k2 =>
      cases r
      cases r'
      obtain ⟨its, rv, pl, _⟩ := I.tuple h
      obtain ⟨its', rv', pl', _⟩ := I.tuple h2
      by_cases hab : a = b
      · subst hab
        exact .same
      · obtain ⟨m, rfl⟩ : ∃ m, n = m + 1 := ⟨n - 1, by rw [PyData.depth] at hn; omega⟩
        have t := DtAll.tree I k k2 (by simpa [noT] using ht) (n := m) (by rw [PyData.depth] at hn; omega) rv rv'
        have q := PySem.W.EqTree.tuples (e := fun _ => true) hab pl pl' fun j h1 h2 => t j (by simpa using h1) (by simpa using h2)
        have hz : its.toArray.size = its'.toArray.size := by rw [List.size_toArray, List.size_toArray, ← rv.length, ← rv'.length, k.len, k2.len]
        rw [all_true, hz] at q
        simpa using q
  | .dK (a := a) (kvs := kvs) (ds := ds) h k, v', h', ht, n, hn, u, u', r, r' => by
    cases r
    obtain ⟨b, ls, es, rfl, ez, k2, vb⟩ := Dt.view I h' rfl ht
    cases r'
    have l1 : (kvs.map (·.1)).length = ds.length := by rw [List.length_map, ← k.len, List.length_map]
    have l2 : (ls.map (·.1)).length = es.length := by rw [List.length_map, ← k2.len, List.length_map]
    have ez' : ((kvs.map (·.1)).map keyD).zip ds = ((ls.map (·.1)).map keyD).zip es := by rw [List.map_map, List.map_map]; exact ez
    obtain ⟨ek, rfl⟩ := same_zip l1 l2 ez'
    by_cases hab : a = b
    · subst hab
      exact .same
    · obtain ⟨ya, va, ra, da⟩ := viewK I h
      obtain ⟨yb, vb, rb, db⟩ := vb
      obtain ⟨m, rfl⟩ : ∃ m, n = m + 1 := ⟨n - 1, by rw [PyData.depth] at hn; omega⟩
      have hl : (kvs.map fun p => keyD p.1).length = ds.length := by rw [List.length_map, ← k.len, List.length_map]
      have t := DtAll.tree I k k2 (noTKv_vals hl (by simpa [noT] using ht)) (n := m) (by rw [PyData.depth] at hn; have := (kv_depth hl).2; omega) (kv_split ra).2 (kv_split rb).2
      obtain ⟨t1, t2⟩ := dictT (X := X) (a := a) ek va vb ra rb db t
      have q := PySem.W.EqTree.dicts (e := fun _ => true) hab ya yb da db t1
      rwa [t2] at q
  | .dT (a := a) (kvs := kvs) (ds := ds) h k, v', h', ht, n, hn, u, u', r, r' => by
    cases kvs with
    | cons p kvs =>
      cases k with
      | cons k1 k2 =>
        rw [List.map_cons, List.zip_cons_cons, noT, noTKv] at ht
        cases ht
    | nil =>
      cases k
      cases r
      obtain ⟨b, ls, es, rfl, ez, k2, vb⟩ := Dt.view I h' rfl ht
      cases r'
      have l2 : (ls.map (·.1)).length = es.length := by rw [List.length_map, ← k2.len, List.length_map]
      have ez' : (([] : List Key).map keyD).zip [] = ((ls.map (·.1)).map keyD).zip es := by rw [List.map_map]; exact ez
      obtain ⟨ek, rfl⟩ := same_zip rfl l2 ez'
      by_cases hab : a = b
      · subst hab
        exact .same
      · obtain ⟨ya, va, ra, da⟩ := viewT I h
        obtain ⟨yb, vb, rb, db⟩ := vb
        obtain ⟨m, rfl⟩ : ∃ m, n = m + 1 := ⟨n - 1, by rw [PyData.depth] at hn; omega⟩
        cases ra
        obtain ⟨t1, t2⟩ := dictT (X := X) (s := s) (a := a) (b := b) (n := m) (ks := []) ek [] vb .nil rb db fun j h1 => absurd h1 (Nat.not_lt_zero _)
        have q := PySem.W.EqTree.dicts (e := fun _ => true) hab ya yb da db t1
        rwa [t2] at q
theorem DtAll.tree (I : Inv X pins σ H s) {vs : List V} {ds : List PyData} : DtAll X.K H vs ds → ∀ {vs' : List V}, DtAll X.K H vs' ds → noTAll ds = true → ∀ {n : Nat}, PyData.depthAll ds ≤ n → ∀ {us us' : List Value}, Vals vs us → Vals vs' us' →
    ∀ j (h1 : j < us.length) (h2 : j < us'.length), PySem.W.EqTree X.prog X.w s n us[j] us'[j] true
  | .nil, vs', h', ht, n, hn, us, us', r, r' => by
    cases r
    exact fun j h1 => absurd h1 (Nat.not_lt_zero _)
  | .cons a b, vs', h', ht, n, hn, us, us', r, r' => by
    cases h' with
    | cons a' b' =>
      cases r with
      | cons r1 r2 =>
        cases r' with
        | cons q1 q2 =>
          rw [noTAll, Bool.and_eq_true] at ht
          rw [PyData.depthAll] at hn
          intro j h1 h2
          cases j with
          | zero => exact Dt.tree I a a' ht.1 (by omega) r1 q1
          | succ j => exact DtAll.tree I b b' ht.2 (by omega) r2 q2 j (Nat.lt_of_succ_lt_succ h1) (Nat.lt_of_succ_lt_succ h2)
end
/-- x == y: both stand for the same datum -/
def rEqS (K : PySem.W.Frag) : R2 := fun x y H Q => ∃ d, Dt K H x d ∧ Dt K H y d ∧ noT d = true ∧ d.depth ≤ 60 ∧ Q (.bl true) H
theorem op_eqS (hu : X.A.units + 64 < cLine) : OpR X (compareOp .Eq) (rEqS X.K) := by
  intro pins s σ H x y v u Q I rx ry h
  obtain ⟨d, hx, hy, ht, hd, q⟩ := h
  have fin : EP X pins σ Q (.bool true) s := ⟨.bl _, H, I, rfl, q⟩
  have plainCase : d.plain = true → wpAny (model X.prog X.w) X.A (compareOp .Eq v u) (EP X pins σ Q) X.xe s := fun hp => by
    obtain ⟨as, r1, _⟩ := Dt.reads I hx rx
    obtain ⟨bs, r2, _⟩ := Dt.reads I hy ry
    exact SeqAt.eq_plain r1 r2 hp hp (by rw [Nat.min_self]; omega) (by rw [SeqAt.eqv_refl_plain d hp]; exact fin)
  cases hx with
  | non => exact plainCase rfl
  | bl b => exact plainCase rfl
  | int i => exact plainCase rfl
  | str z => exact plainCase rfl
  | @lst a xs ds h k =>
    cases hy with
    | @lst b ys _ h2 k2 =>
      cases rx
      cases ry
      obtain ⟨its, rv, pl, _⟩ := I.list (.inl h)
      obtain ⟨its', rv', pl', _⟩ := I.list (.inl h2)
      rw [PyData.depth] at hd
      have t := DtAll.tree I k k2 (by simpa [noT] using ht) (n := PyData.depthAll ds) (Nat.le_refl _) rv rv'
      exact PySem.W.eq_listsT (e := fun _ => true) pl.isList pl'.isList (by rw [List.size_toArray, List.size_toArray, ← rv.length, ← rv'.length, k.len, k2.len]) (fun j h1 h2 => t j (by simpa using h1) (by simpa using h2)) (by omega) (by rw [all_true]; exact fin)
  | @tup a xs ds h k =>
    cases hy with
    | @tup b ys _ h2 k2 =>
      cases rx
      cases ry
      obtain ⟨its, rv, pl, _⟩ := I.tuple h
      obtain ⟨its', rv', pl', _⟩ := I.tuple h2
      rw [PyData.depth] at hd
      have t := DtAll.tree I k k2 (by simpa [noT] using ht) (n := PyData.depthAll ds) (Nat.le_refl _) rv rv'
      have hz : its.toArray.size = its'.toArray.size := by rw [List.size_toArray, List.size_toArray, ← rv.length, ← rv'.length, k.len, k2.len]
      exact PySem.W.eq_tuplesT (e := fun _ => true) pl pl' (fun j h1 h2 => t j (by simpa using h1) (by simpa using h2)) (by omega) (by rw [all_true, hz]; simpa using fin)
  | @dK a kvs ds h k =>
    cases rx
    obtain ⟨b, ls, es, rfl, ez, k2, vb⟩ := Dt.view I hy rfl ht
    cases ry
    have l1 : (kvs.map (·.1)).length = ds.length := by rw [List.length_map, ← k.len, List.length_map]
    have l2 : (ls.map (·.1)).length = es.length := by rw [List.length_map, ← k2.len, List.length_map]
    have ez' : ((kvs.map (·.1)).map keyD).zip ds = ((ls.map (·.1)).map keyD).zip es := by rw [List.map_map, List.map_map]; exact ez
    obtain ⟨ek, rfl⟩ := same_zip l1 l2 ez'
    obtain ⟨ya, va, ra, da⟩ := viewK I h
    obtain ⟨yb, vb, rb, db⟩ := vb
    rw [PyData.depth] at hd
    have hl : (kvs.map fun p => keyD p.1).length = ds.length := by rw [List.length_map, ← k.len, List.length_map]
    have t := DtAll.tree I k k2 (noTKv_vals hl (by simpa [noT] using ht)) (n := PyData.depthAll ds) (Nat.le_refl _) (kv_split ra).2 (kv_split rb).2
    obtain ⟨t1, t2⟩ := dictT (X := X) (a := a) ek va vb ra rb db t
    exact PySem.W.eq_dictsT (e := fun _ => true) ya yb da db t1 (by have := (kv_depth hl).2; omega) (by rw [t2]; exact fin)
  | @dT a kvs ds h k =>
    cases kvs with
    | cons p kvs =>
      cases k with
      | cons k1 k2 =>
        rw [List.map_cons, List.zip_cons_cons, noT, noTKv] at ht
        cases ht
    | nil =>
      cases k
      cases rx
      obtain ⟨b, ls, es, rfl, ez, k2, vb⟩ := Dt.view I hy rfl ht
      cases ry
      have l2 : (ls.map (·.1)).length = es.length := by rw [List.length_map, ← k2.len, List.length_map]
      have ez' : (([] : List Key).map keyD).zip [] = ((ls.map (·.1)).map keyD).zip es := by rw [List.map_map]; exact ez
      obtain ⟨ek, rfl⟩ := same_zip rfl l2 ez'
      obtain ⟨ya, va, ra, da⟩ := viewT I h
      obtain ⟨yb, vb, rb, db⟩ := vb
      cases ra
      obtain ⟨t1, t2⟩ := dictT (X := X) (s := s) (a := a) (b := b) (n := 0) (ks := []) ek [] vb .nil rb db fun j h1 => absurd h1 (Nat.not_lt_zero _)
      exact PySem.W.eq_dictsT (e := fun _ => true) ya yb da db t1 (by omega) (by rw [t2]; exact fin)
/-- x != y: two lists of the same objects -/
def rNeO : R2 := fun x y H Q => ∃ a b xs, x = .ref a ∧ y = .ref b ∧ Rd H a (.lst xs) ∧ Rd H b (.lst xs) ∧ (∀ v ∈ xs, ∃ p, v = V.ref p) ∧ Q (.bl false) H
theorem refs_same : ∀ {xs : List V} {us us' : List Value}, (∀ v ∈ xs, ∃ p, v = V.ref p) → Vals xs us → Vals xs us' → us = us'
  | [], _, _, _, .nil, .nil => rfl
  | _ :: _, _, _, h, .cons r1 r2, .cons q1 q2 => by
    obtain ⟨p, rfl⟩ := h _ List.mem_cons_self
    cases r1
    cases q1
    rw [refs_same (fun v hv => h v (List.mem_cons_of_mem _ hv)) r2 q2]
theorem op_neO (hu : X.A.units + 64 < cLine) : OpR X (compareOp .NotEq) rNeO := by
  intro pins s σ H x y v u Q I rx ry h
  obtain ⟨a, b, xs, rfl, rfl, ha, hb, hr, q⟩ := h
  cases rx
  cases ry
  obtain ⟨its, rv, pl, _⟩ := I.list (.inl ha)
  obtain ⟨its', rv', pl', _⟩ := I.list (.inl hb)
  have e := refs_same hr rv rv'
  subst e
  refine (SeqAt.RcNeAt.lists (e := fun _ => true) pl.isList pl'.isList rfl (by omega) fun j h1 h2 => SeqAt.EqAt.same _) X.prog X.w X.xe _ ?_
  rw [all_true]
  exact ⟨.bl _, H, I, rfl, q⟩
end
end FA

/-! FA14: try .. except C as e, by W; calls of defs that may raise, within it. -/
namespace FA
open PySem PySem.Spec PyProof.Rows L2 L2H
section
variable {X : Cx} {CX : CXT} {k : Nat} {f : Addr} {fd : FuncData} {ps : List Str} {sp : Sp} {E : L2.St → XK} {x : Str} {p pos : Pos} {e : Expr} {es : List Expr} {t : TA}
/-- f(e, ..), what it may raise told by the state -/
theorem pe_callGS (F : FnG X.prog X.w X.K X.mg X.base CX k f fd ps sp) (hr : Room k X.A) (hG : X.A.guards = some []) (hg : Gl X x) (hm : X.mg x = some (.ref f)) (hk : PySem.W.keepIn X.K (.ref f) = true) (hb : Binds X.K fd ps []) (hx : ∀ σ, PassesAt CX X σ (E σ))
    (ha : PA X (e :: es) t) (hdb : (x == ("__debug__" : Str)) = false := by decide) (he : starEach (e :: es) X.env = (false, eval e X.env) :: starEach es X.env := by rfl) (hpl : (backTo pos (starEach es X.env)).any (·.1) = false := by rfl) :
    PE X (.Call (.Name x p) (e :: es) [] pos) (tCallS sp E t) := by
  refine ⟨fun pins s σ H Q I h => ?_⟩
  refine wpAny_Call_Name_kw (ld_glob I hg hm ?_ hdb)
  refine PySem.W.callWith_K (h₀ := X.base) I.ok.mod.kin hk (thn (ha.run pos pins s σ H _ I h) fun us s1 ⟨vs, H1, I1, r, q⟩ => ⟨I1.kIn, ?_⟩) he hpl
  have hl : us.length = ps.length := by rw [← r.length]; exact F.len _ _ _ _ q
  have b := hb s1 us I1.kIn (by rw [List.append_nil]; exact hl)
  rw [List.append_nil] at b
  refine wpAny_call (codeAny_mono (F.go X.A X.stack s1 H1 ⟨us, []⟩ us vs Q (E σ) hr hG I1.env0 b r q) fun r s' hq => ?_)
  match r, hq with
  | .error e, hq => exact hx σ pins H1 s1 e s' I1 hq
  | .ok (.ret u), hq => exact I1.after hq
theorem passF {σ : L2.St} {E' : XK} : PassesAt CX0 X σ E' := fun _ _ _ _ _ _ h => h.elim
theorem takesF : L2N.Takes X (fun _ _ _ _ => False) := fun u s' ⟨a, B, sI, pins, σ, H, cls, d, _, _, _, _, _, _, _, _, z⟩ => z.elim
end
/-- a def of the text that may raise -/
structure ClN (P : Program) (w : World) (K : PySem.W.Frag) (mg : Str → Option Value) (base : Heap) (k : Nat) (x : Str) (ps : List Str) (sp : Sp) : Prop where
  ex : ∃ (f : Addr) (fd : FuncData), FnG P w K mg base (L2N.CX P w) k f fd ps sp ∧ mg x = some (.ref f) ∧ PySem.W.keepIn K (.ref f) = true ∧ Binds K fd ps []
/-- a def that is handed the caught error -/
structure ClE (P : Program) (w : World) (K : PySem.W.Frag) (mg : Str → Option Value) (base : Heap) (k : Nat) (x : Str) (ps : List Str) (sp : Addr → Value → Option Addr → Sp) : Prop where
  ex : ∃ (f : Addr) (fd : FuncData), FnE P w K mg base CX0 k f fd ps sp ∧ mg x = some (.ref f) ∧ PySem.W.keepIn K (.ref f) = true ∧ Binds K fd ps []
section
variable {X : Cx} {k j : Nat} {ps : List Str} {sp : Sp} {x : Str} {p pos : Pos} {e : Expr} {es : List Expr} {t : TA} {W : WX}
theorem pe_clN (C : ClN X.prog X.w X.K X.mg X.base k x ps sp) (hr : Room j X.A) (hG : X.A.guards = some []) (tk : L2N.Takes X W) (ha : PA X (e :: es) t) (hkj : k ≤ j := by decide) (hg : Gl X x := by rfl) (hdb : (x == ("__debug__" : Str)) = false := by decide)
    (he : starEach (e :: es) X.env = (false, eval e X.env) :: starEach es X.env := by rfl) (hpl : (backTo pos (starEach es X.env)).any (·.1) = false := by rfl) : PE X (.Call (.Name x p) (e :: es) [] pos) (tCallS sp (L2.WE W) t) := by
  obtain ⟨f, fd, F, hm, hk, hb⟩ := C.ex
  exact pe_callGS F (hr.mono hkj) hG hg hm hk hb (fun σ => L2N.passAt tk σ) ha hdb he hpl
theorem pe_clE {spE : Addr → Value → Option Addr → Sp} {a : Addr} {oe : Obj} {cls : Value} {d : Option Addr} (C : ClE X.prog X.w X.K X.mg X.base k x ps spE) (hr : RoomH j X.A) (hh : Hot1 X.A (a, oe)) (hp : (a, oe) ∈ X.pn) (hz : L2N.Zn cls d oe) (ha : PA X (e :: es) t) (hkj : k ≤ j := by decide) (hg : Gl X x := by rfl) (hdb : (x == ("__debug__" : Str)) = false := by decide)
    (he : starEach (e :: es) X.env = (false, eval e X.env) :: starEach es X.env := by rfl) (hpl : (backTo pos (starEach es X.env)).any (·.1) = false := by rfl) : PE X (.Call (.Name x p) (e :: es) [] pos) (tCallS (spE a cls d) (fun _ _ _ _ => False) t) := by
  obtain ⟨f, fd, F, hm, hk, hb⟩ := C.ex
  exact pe_callE F (hr.mono hkj) hh hp hz hg hm hk hb (fun σ => passF) ha hdb he hpl
end
def tbW (X : Cx) (body : List Stmt) (W : WX) : TS := fun D σ H => ∀ (pn : List (Addr × Obj)) (xe : Value → Shared → Prop), L2N.Takes (X.tr pn xe) W → PassesOwn (model X.prog X.w) X.A X.env xe → WSs (X.tr pn xe) body D σ H
def tsW (X : Cx) (suite : List Stmt) (a : Addr) (cls : Value) (d : Option Addr) : TS := fun D σ H => ∀ (oe : Obj) (pn : List (Addr × Obj)), L2N.Zn cls d oe → (∃ vs, oe.data = .fields vs) → WSs (X.suite a ((a, oe) :: pn)) suite D σ H
section
variable {X : Cx} {x n : Str} {c : Value} {i : Nat} {body suite : List Stmt} {b₀ : Stmt} {np pos pos' : Pos} {Wout : WX}
/-- try: .. except x as n: .. -/
theorem ps_tryW (hs : X.stack = X.env :: X.outer) (hf : X.env.frame = some X.env.locals) (hN : X.N.Nodup) (hi : X.N[i]? = some n) (hln : X.env.kindOf n = some .local) (hc : L2.Names X x c) (tk : L2N.Takes X Wout) :
    PS X (.Try body [.ExceptHandler (some (.Name x np)) (some n) (b₀ :: suite) pos'] [] [] pos) (fun D σ H => tbW X body (wAs X.K c i (tsW X (b₀ :: suite)) Wout D) D σ H) :=
  L2N.ps_try_as hs hf hN hi hln hc tk (fun W pn xe tk po => ⟨fun pins s σ H D I h => h pn xe tk po pins s I⟩) (fun a oe cls d pn hz hv => ⟨fun pins s σ H D I h => h oe pn hz hv pins s I⟩)
end
end FA

/-! IP1: data as trees, what of the heap stands for them, the state of a def. -/
namespace IP
open PySem PySem.Spec PyProof.Rows L2 FA
inductive D where
  | non | bl (b : Bool) | int (i : Int) | str (x : Str) | lst (xs : List D) | tup (xs : List D) | dct (kvs : List (D × D)) | ins (c : Str) (fs : List (Option D)) | obj (c : Str) (ns : List Str) (fs : List D) | bag
instance : Inhabited D := ⟨.non⟩
def kD : Key → D
  | .inl i => .int i
  | .inr x => .str x
/-- what is fixed through a run: the written part, the bag, the classes -/
structure Gx where
  K : PySem.W.Frag
  b : Addr
  c : Addr
  cl : Str → Option Addr
  fl : Str → List Str
mutual
inductive Dt (G : Gx) (B : Hp) : V → D → Prop
  | non : Dt G B .non .non
  | bl (x : Bool) : Dt G B (.bl x) (.bl x)
  | int (i : Int) : Dt G B (.int i) (.int i)
  | str (x : Str) : Dt G B (.str x) (.str x)
  | lst {a : Addr} {xs : List V} {ds : List D} : B a = some (.lst xs) → DtAll G B xs ds → Dt G B (.ref a) (.lst ds)
  | tup {a : Addr} {xs : List V} {ds : List D} : B a = some (.tup xs) → DtAll G B xs ds → Dt G B (.ref a) (.tup ds)
  | tup0 {a : Addr} : SqT G.K (fun _ => none) a [] → Dt G B (.ref a) (.tup [])
  | dK {a : Addr} {kvs : List (Key × V)} {es : List (D × D)} : Rd B a (.dK kvs) → DtK G B kvs es → Dt G B (.ref a) (.dct es)
  | dT {a : Addr} {kvs : List (List Key × V)} {es : List (D × D)} : Rd B a (.dT kvs) → DtT G B kvs es → Dt G B (.ref a) (.dct es)
  | ins {a C dx : Addr} {c : Str} {xs : List (Option V)} {ds : List (Option D)} : G.cl c = some C → B a = some (SlX.SlO a C dx xs) → B dx = some (.xd []) → DtSl G B xs ds → Dt G B (.ref a) (.ins c ds)
  | obj {a C dx : Addr} {c : Str} {ns : List Str} {xs : List V} {ds : List D} : G.cl c = some C → B a = some (.ins C dx (ns.zip xs)) → B dx = some (.own a) → ns.length = xs.length → DtAll G B xs ds → Dt G B (.ref a) (.obj c ns ds)
  | bag : Dt G B (.ref G.b) .bag
inductive DtAll (G : Gx) (B : Hp) : List V → List D → Prop
  | nil : DtAll G B [] []
  | cons {v : V} {vs : List V} {d : D} {ds : List D} : Dt G B v d → DtAll G B vs ds → DtAll G B (v :: vs) (d :: ds)
inductive DtK (G : Gx) (B : Hp) : List (Key × V) → List (D × D) → Prop
  | nil : DtK G B [] []
  | cons {k : Key} {v : V} {kvs : List (Key × V)} {d : D} {es : List (D × D)} : Dt G B v d → DtK G B kvs es → DtK G B ((k, v) :: kvs) ((kD k, d) :: es)
inductive DtT (G : Gx) (B : Hp) : List (List Key × V) → List (D × D) → Prop
  | nil : DtT G B [] []
  | cons {k : List Key} {v : V} {kvs : List (List Key × V)} {d : D} {es : List (D × D)} : Dt G B v d → DtT G B kvs es → DtT G B ((k, v) :: kvs) ((.tup (k.map kD), d) :: es)
inductive DtSl (G : Gx) (B : Hp) : List (Option V) → List (Option D) → Prop
  | nil : DtSl G B [] []
  | none {vs : List (Option V)} {ds : List (Option D)} : DtSl G B vs ds → DtSl G B (Option.none :: vs) (Option.none :: ds)
  | some {v : V} {vs : List (Option V)} {d : D} {ds : List (Option D)} : Dt G B v d → DtSl G B vs ds → DtSl G B (Option.some v :: vs) (Option.some d :: ds)
end
/-- what Dt reads, stays -/
structure Keeps (B B' : Hp) : Prop where
  lst : ∀ a xs, B a = some (.lst xs) → B' a = some (.lst xs)
  tup : ∀ a xs, B a = some (.tup xs) → B' a = some (.tup xs)
  dK : ∀ a xs, Rd B a (.dK xs) → Rd B' a (.dK xs)
  dT : ∀ a xs, Rd B a (.dT xs) → Rd B' a (.dT xs)
  sl : ∀ a C dx vs, B a = some (SlX.SlO a C dx vs) → B' a = some (SlX.SlO a C dx vs)
  xd : ∀ a fs, B a = some (.xd fs) → B' a = some (.xd fs)
  own : ∀ a x, B a = some (.own x) → B' a = some (.own x)
  ins : ∀ a C dx fs, B a = some (.ins C dx fs) → B' a = some (.ins C dx fs)
theorem Keeps.of {B B' : Hp} (e : Same B B') : Keeps B B' :=
  ⟨fun _ _ h => e _ _ h, fun _ _ h => e _ _ h, fun _ _ h => Same.rd e h, fun _ _ h => Same.rd e h, fun _ _ _ _ h => e _ _ h, fun _ _ h => e _ _ h, fun _ _ h => e _ _ h, fun _ _ _ _ h => e _ _ h⟩
mutual
theorem Dt.keep {G : Gx} {B B' : Hp} (e : Keeps B B') {v : V} {d : D} : Dt G B v d → Dt G B' v d
  | .non => .non
  | .bl b => .bl b
  | .int i => .int i
  | .str x => .str x
  | .lst r k => .lst (e.lst _ _ r) (DtAll.keep e k)
  | .tup r k => .tup (e.tup _ _ r) (DtAll.keep e k)
  | .tup0 r => .tup0 r
  | .dK r k => .dK (e.dK _ _ r) (DtK.keep e k)
  | .dT r k => .dT (e.dT _ _ r) (DtT.keep e k)
  | .ins h r x k => .ins h (e.sl _ _ _ _ r) (e.xd _ _ x) (DtSl.keep e k)
  | .obj h r x l k => .obj h (e.ins _ _ _ _ r) (e.own _ _ x) l (DtAll.keep e k)
  | .bag => .bag
theorem DtAll.keep {G : Gx} {B B' : Hp} (e : Keeps B B') {vs : List V} {ds : List D} : DtAll G B vs ds → DtAll G B' vs ds
  | .nil => .nil
  | .cons a b => .cons (Dt.keep e a) (DtAll.keep e b)
theorem DtK.keep {G : Gx} {B B' : Hp} (e : Keeps B B') {vs : List (Key × V)} {ds : List (D × D)} : DtK G B vs ds → DtK G B' vs ds
  | .nil => .nil
  | .cons a b => .cons (Dt.keep e a) (DtK.keep e b)
theorem DtT.keep {G : Gx} {B B' : Hp} (e : Keeps B B') {vs : List (List Key × V)} {ds : List (D × D)} : DtT G B vs ds → DtT G B' vs ds
  | .nil => .nil
  | .cons a b => .cons (Dt.keep e a) (DtT.keep e b)
theorem DtSl.keep {G : Gx} {B B' : Hp} (e : Keeps B B') {vs : List (Option V)} {ds : List (Option D)} : DtSl G B vs ds → DtSl G B' vs ds
  | .nil => .nil
  | .none b => .none (DtSl.keep e b)
  | .some a b => .some (Dt.keep e a) (DtSl.keep e b)
end
section
variable {G : Gx} {B B' H H' : Hp}
theorem Dt.same (e : Same B B') {v : V} {d : D} (h : Dt G B v d) : Dt G B' v d := h.keep (.of e)
theorem DtAll.same (e : Same B B') {v : List V} {d : List D} (h : DtAll G B v d) : DtAll G B' v d := h.keep (.of e)
theorem DtAll.len : ∀ {vs : List V} {ds : List D}, DtAll G B vs ds → vs.length = ds.length
  | _, _, .nil => rfl
  | _, _, .cons _ b => by rw [List.length_cons, List.length_cons, DtAll.len b]
theorem DtAll.app : ∀ {vs us : List V} {ds es : List D}, DtAll G B vs ds → DtAll G B us es → DtAll G B (vs ++ us) (ds ++ es)
  | _, _, _, _, .nil, k => k
  | _, _, _, _, .cons a b, k => .cons a (b.app k)
theorem DtAll.one {v : V} {d : D} (h : Dt G B v d) : DtAll G B [v] [d] := .cons h .nil
theorem DtAll.at : ∀ {vs : List V} {ds : List D} {i : Nat} {d : D}, DtAll G B vs ds → ds[i]? = some d → ∃ v, vs[i]? = some v ∧ Dt G B v d
  | _, _, _, _, .nil, h => by simp at h
  | _, _, 0, _, .cons a b, h => by
    simp at h
    subst h
    exact ⟨_, rfl, a⟩
  | _, _, i + 1, _, .cons a b, h => by
    obtain ⟨v, h1, h2⟩ := DtAll.at (i := i) b (by simpa using h)
    exact ⟨v, by simpa using h1, h2⟩
theorem DtAll.at' : ∀ {vs : List V} {ds : List D} {i : Nat} {v : V}, DtAll G B vs ds → vs[i]? = some v → ∃ d, ds[i]? = some d ∧ Dt G B v d
  | _, _, _, _, .nil, h => by simp at h
  | _, _, 0, _, .cons a b, h => by
    simp at h
    subst h
    exact ⟨_, rfl, a⟩
  | _, _, i + 1, _, .cons a b, h => by
    obtain ⟨v, h1, h2⟩ := DtAll.at' (i := i) b (by simpa using h)
    exact ⟨v, by simpa using h1, h2⟩
theorem DtAll.take : ∀ {vs : List V} {ds : List D} (n : Nat), DtAll G B vs ds → DtAll G B (vs.take n) (ds.take n)
  | _, _, 0, _ => .nil
  | _, _, _ + 1, .nil => .nil
  | _, _, n + 1, .cons r t => .cons r (t.take n)
theorem DtAll.drop : ∀ {vs : List V} {ds : List D} (n : Nat), DtAll G B vs ds → DtAll G B (vs.drop n) (ds.drop n)
  | _, _, 0, r => r
  | _, _, _ + 1, .nil => .nil
  | _, _, n + 1, .cons _ t => t.drop n
theorem DtAll.set {v : V} {d : D} (r : Dt G B v d) : ∀ {vs : List V} {ds : List D} (i : Nat), DtAll G B vs ds → DtAll G B (vs.set i v) (ds.set i d)
  | _, _, _, .nil => .nil
  | _, _, 0, .cons _ t => .cons r t
  | _, _, i + 1, .cons q t => .cons q (t.set r i)
end
/-- the content of a list or a dict at a, its parts standing in B -/
def Cont (G : Gx) (B : Hp) (o : HO) : D → Prop
  | .lst ds => ∃ xs, o = .lst xs ∧ DtAll G B xs ds
  | .dct es => (∃ ks, o = .dK ks ∧ DtK G B ks es) ∨ ∃ ks, o = .dT ks ∧ DtT G B ks es
  | _ => False
theorem Cont.keep {G : Gx} {B B' : Hp} (e : Keeps B B') {o : HO} {d : D} (h : Cont G B o d) : Cont G B' o d := by
  match d, h with
  | .lst ds, ⟨xs, e1, k⟩ => exact ⟨xs, e1, k.keep e⟩
  | .dct es, .inl ⟨xs, e1, k⟩ => exact .inl ⟨xs, e1, k.keep e⟩
  | .dct es, .inr ⟨xs, e1, k⟩ => exact .inr ⟨xs, e1, k.keep e⟩
theorem Cont.dt {G : Gx} {B : Hp} {a : Addr} {o : HO} {d : D} (h : Cont G B o d) (e : B a = some o) : Dt G B (.ref a) d := by
  match d, h with
  | .lst ds, ⟨xs, e1, k⟩ => exact .lst (e1 ▸ e) k
  | .dct es, .inl ⟨xs, e1, k⟩ => exact .dK (.inl (e1 ▸ e)) k
  | .dct es, .inr ⟨xs, e1, k⟩ => exact .dT (.inl (e1 ▸ e)) k
theorem Cont.tup {G : Gx} {B : Hp} {o : HO} {d : D} (h : Cont G B o d) : ∀ xs, o ≠ .tup xs := by
  intro xs z
  subst z
  match d, h with
  | .lst ds, ⟨xs, e1, k⟩ => cases e1
  | .dct es, .inl ⟨xs, e1, k⟩ => cases e1
  | .dct es, .inr ⟨xs, e1, k⟩ => cases e1
def isDc : HO → Bool
  | .dK _ | .dT _ => true
  | _ => false
/-- what is in the base is in the heap (a dict may be locked there) -/
def SubL (B H : Hp) : Prop := ∀ a o, B a = some o → H a = some o ∨ (isDc o = true ∧ ∃ od, H a = some (.frz od o))
theorem SubL.ne {B H : Hp} (h : SubL B H) {a : Addr} {o : HO} (e : B a = some o) : H a ≠ none := by
  rcases h a o e with q | ⟨_, od, q⟩ <;> rw [q] <;> simp
theorem SubL.free {B H : Hp} (h : SubL B H) {a : Addr} (e : H a = none) : B a = none := by
  cases q : B a with
  | none => rfl
  | some o => exact absurd e (h.ne q)
theorem SubL.ex {B H : Hp} (h : SubL B H) {a : Addr} {o : HO} (e : B a = some o) (n : isDc o = false) : H a = some o := by
  rcases h a o e with q | ⟨q, _⟩
  · exact q
  · rw [n] at q
    cases q
theorem SubL.rd {B H : Hp} (h : SubL B H) {a : Addr} {o : HO} (e : B a = some o) : Rd H a o := by
  rcases h a o e with q | ⟨_, od, q⟩
  · exact .inl q
  · exact .inr ⟨od, q⟩
/-- the base holds nothing locked -/
def NoF (B : Hp) : Prop := ∀ a od o, B a ≠ some (.frz od o)
theorem Keeps.sub {B H : Hp} (h : SubL B H) (n : NoF B) : Keeps B H := by
  have un : ∀ {a : Addr} {o : HO}, Rd B a o → B a = some o := fun {a o} r => by
    rcases r with r | ⟨od, r⟩
    · exact r
    · exact absurd r (n _ _ _)
  exact ⟨fun _ _ e => h.ex e rfl, fun _ _ e => h.ex e rfl, fun _ _ e => h.rd (un e), fun _ _ e => h.rd (un e), fun _ _ _ _ e => h.ex e rfl, fun _ _ e => h.ex e rfl, fun _ _ e => h.ex e rfl, fun _ _ _ _ e => h.ex e rfl⟩
/-- no instance, no dict of one -/
theorem Cont.noI {G : Gx} {B : Hp} {o : HO} {d : D} (h : Cont G B o d) : (∀ C dx fs, o ≠ .ins C dx fs) ∧ (∀ a C dx vs, o ≠ SlX.SlO a C dx vs) ∧ (∀ a, o ≠ .own a) ∧ ∀ fs, o ≠ .xd fs := by
  match d, h with
  | .lst ds, ⟨xs, e1, k⟩ => subst e1; exact ⟨(fun _ _ _ z => nomatch z), (fun _ _ _ _ z => nomatch z), (fun _ z => nomatch z), (fun _ z => nomatch z)⟩
  | .dct es, .inl ⟨xs, e1, k⟩ => subst e1; exact ⟨(fun _ _ _ z => nomatch z), (fun _ _ _ _ z => nomatch z), (fun _ z => nomatch z), (fun _ z => nomatch z)⟩
  | .dct es, .inr ⟨xs, e1, k⟩ => subst e1; exact ⟨(fun _ _ _ z => nomatch z), (fun _ _ _ _ z => nomatch z), (fun _ z => nomatch z), (fun _ z => nomatch z)⟩
/-- from (B, H) to (B', H'): only the bag has changed, what is new in B is new or a tuple -/
structure Ext (G : Gx) (B H B' H' : Hp) : Prop where
  kp : ∀ a o, a ≠ G.b → H a = some o → H' a = some o
  bb : Same B B'
  sub : SubL B' H'
  nf : NoF B'
  new : ∀ a o, B' a = some o → B a = some o ∨ H a = none ∨ ∃ xs, H a = some (.tup xs)
  bag : BagAt H' G.b G.c
/-- the base below the heap -/
structure Wf (G : Gx) (B H : Hp) : Prop where
  sub : SubL B H
  nf : NoF B
  nb : B G.b = none
  nc : B G.c = none
  bag : BagAt H G.b G.c
section
variable {G : Gx} {B B1 B2 H H1 H2 : Hp}
theorem bag_b {b c : Addr} (h : BagAt H b c) : ∃ xs, H b = some (.lst xs) := let ⟨_, _, _, _, e, _⟩ := h.ex; ⟨_, e⟩
theorem bag_c {b c : Addr} (h : BagAt H b c) : ∃ xs, H c = some (.lst xs) := let ⟨_, _, _, _, _, e, _⟩ := h.ex; ⟨_, e⟩
theorem bag_ne {b c : Addr} (h : BagAt H b c) : c ≠ b := by
  obtain ⟨n0, n1, n2, cells, e1, e2, _⟩ := h.ex
  intro z
  rw [z, e1] at e2
  have e3 := Option.some.inj e2
  injection e3 with e4
  have q : V.ref c ∈ cells.map V.int := by rw [← e4]; simp
  obtain ⟨_, _, e⟩ := List.mem_map.mp q
  cases e
theorem Ext.refl (w : Wf G B H) : Ext G B H B H := ⟨fun _ _ _ h => h, Same.refl _, w.sub, w.nf, fun _ _ h => .inl h, w.bag⟩
theorem Ext.free (e : Ext G B H B1 H1) {a : Addr} (h : H1 a = none) : H a = none := by
  cases q : H a with
  | none => rfl
  | some o =>
    by_cases z : a = G.b
    · obtain ⟨xs, hx⟩ := bag_b e.bag
      rw [z, hx] at h
      cases h
    · rw [e.kp a o z q] at h
      cases h
theorem Ext.trans (e : Ext G B H B1 H1) (f : Ext G B1 H1 B2 H2) : Ext G B H B2 H2 := by
  refine ⟨fun a o n h => f.kp a o n (e.kp a o n h), e.bb.trans f.bb, f.sub, f.nf, fun a o h => ?_, f.bag⟩
  rcases f.new a o h with h1 | h1 | ⟨xs, h1⟩
  · exact e.new a o h1
  · exact .inr (.inl (e.free h1))
  · cases q : H a with
    | none => exact .inr (.inl rfl)
    | some u =>
      have n : a ≠ G.b := by
        intro z
        obtain ⟨ys, hy⟩ := bag_b e.bag
        rw [z, hy] at h1
        cases h1
      have z := e.kp a u n q
      rw [h1] at z
      exact .inr (.inr ⟨xs, (Option.some.inj z).symm ▸ rfl⟩)
theorem Wf.ext (w : Wf G B H) (e : Ext G B H B1 H1) : Wf G B1 H1 := by
  refine ⟨e.sub, e.nf, ?_, ?_, e.bag⟩
  · cases q : B1 G.b with
    | none => rfl
    | some o =>
      obtain ⟨xs, hx⟩ := bag_b w.bag
      rcases e.new _ _ q with h | h | ⟨ys, h⟩
      · rw [w.nb] at h; cases h
      · rw [hx] at h; cases h
      · rw [hx] at h; cases h
  · cases q : B1 G.c with
    | none => rfl
    | some o =>
      obtain ⟨xs, hx⟩ := bag_c w.bag
      rcases e.new _ _ q with h | h | ⟨ys, h⟩
      · rw [w.nc] at h; cases h
      · rw [hx] at h; cases h
      · rw [hx] at h; cases h
theorem SubL.put (h : SubL B H) {p : Addr} (o : HO) (hp : H p = none ∨ B p = none) : SubL (upd B p o) (upd H p o) := fun a u q => by
  by_cases z : a = p
  · subst z; rw [upd_same] at q ⊢; exact .inl q
  · rw [upd_ne z] at q ⊢; exact h a u q
theorem NoF.put (h : NoF B) {p : Addr} {o : HO} (ho : ∀ od u, o ≠ .frz od u) : NoF (upd B p o) := fun a od u q => by
  by_cases z : a = p
  · subst z; rw [upd_same] at q; exact ho _ _ (Option.some.inj q)
  · rw [upd_ne z] at q; exact h _ _ _ q
/-- a new object, in B too -/
theorem Ext.put (w : Wf G B H) {p : Addr} (o : HO) (hp : H p = none) (ho : ∀ od u, o ≠ .frz od u) : Ext G B H (upd B p o) (upd H p o) := by
  refine ⟨fun a u _ h => ?_, fun a u h => ?_, w.sub.put o (.inl hp), w.nf.put ho, fun a u h => ?_, ?_⟩
  · rw [upd_ne (ne_of_none h hp)]; exact h
  · rw [upd_ne]
    · exact h
    · intro z
      subst z
      exact w.sub.ne h hp
  · by_cases z : a = p
    · subst z; exact .inr (.inl hp)
    · rw [upd_ne z] at h; exact .inl h
  · exact w.bag.put (w.bag.neb hp)
/-- a new object, outside of B -/
theorem Ext.lay (w : Wf G B H) {p : Addr} (o : HO) (hp : H p = none) : Ext G B H B (upd H p o) := by
  refine ⟨fun a u _ h => ?_, Same.refl _, fun a u h => ?_, w.nf, fun a u h => .inl h, ?_⟩
  · rw [upd_ne (ne_of_none h hp)]; exact h
  · rw [upd_ne]
    · exact w.sub a u h
    · intro z
      subst z
      exact w.sub.ne h hp
  · exact w.bag.put (w.bag.neb hp)
/-- an object that the heap has comes into B -/
theorem Ext.into (w : Wf G B H) {p : Addr} {o : HO} (hp : H p = some o) (hn : B p = none) (hb : p ≠ G.b) (hc : p ≠ G.c) (ho : ∀ od u, o ≠ .frz od u) : Same B (upd B p o) ∧ Wf G (upd B p o) H := by
  refine ⟨fun a u h => ?_, fun a u h => ?_, w.nf.put ho, ?_, ?_, w.bag⟩
  · rw [upd_ne (ne_of_none h hn)]; exact h
  · by_cases z : a = p
    · subst z; rw [upd_same] at h; rw [← h]; exact .inl hp
    · rw [upd_ne z] at h; exact w.sub a u h
  · rw [upd_ne hb.symm]; exact w.nb
  · rw [upd_ne hc.symm]; exact w.nc
theorem Cont.nof {o : HO} {d : D} (h : Cont G B o d) : ∀ od u, o ≠ .frz od u := by
  intro od u z
  subst z
  match d, h with
  | .lst ds, ⟨xs, e1, k⟩ => cases e1
  | .dct es, .inl ⟨xs, e1, k⟩ => cases e1
  | .dct es, .inr ⟨xs, e1, k⟩ => cases e1
end
/-! ### results -/
/-- sh: in the base; ow: new, held by no one else; bw: held by a name of the def -/
inductive R where
  | sh (d : D) | ow (d : D) | bw (d : D)
def R.d : R → D
  | .sh d | .ow d | .bw d => d
/-- what may be read: the root in H, its parts in B -/
def View (G : Gx) (B H : Hp) (v : V) (d : D) : Prop := Dt G B v d ∨ ∃ a o, v = .ref a ∧ a ≠ G.b ∧ H a = some o ∧ Cont G B o d
def RelR (G : Gx) (H B' H' : Hp) (v : V) : R → Prop
  | .sh d => Dt G B' v d
  | .ow d => ∃ a o, v = .ref a ∧ H a = none ∧ B' a = none ∧ H' a = some o ∧ Cont G B' o d
  | .bw d => ∃ a o, v = .ref a ∧ a ≠ G.b ∧ H' a = some o ∧ Cont G B' o d
section
variable {G : Gx} {B B1 B2 H H1 H2 : Hp} {v : V} {d : D} {r : R}
theorem View.ext (h : View G B H v d) (e : Ext G B H B1 H1) : View G B1 H1 v d := by
  rcases h with h | ⟨a, o, e1, n, e2, k⟩
  · exact .inl (h.same e.bb)
  · exact .inr ⟨a, o, e1, n, e.kp a o n e2, k.keep (.of e.bb)⟩
theorem RelR.view (w : Wf G B H) (e : Ext G B H B1 H1) (h : RelR G H B1 H1 v r) : View G B1 H1 v r.d := by
  match r, h with
  | .sh d, h => exact .inl h
  | .ow d, ⟨a, o, e1, n, _, e2, k⟩ => exact .inr ⟨a, o, e1, (w.bag.neb n).1, e2, k⟩
  | .bw d, ⟨a, o, e1, n, e2, k⟩ => exact .inr ⟨a, o, e1, n, e2, k⟩
/-- what is seen, is in the whole heap -/
theorem View.dt (w : Wf G B H) (h : View G B H v d) : Dt G H v d := by
  rcases h with h | ⟨a, o, rfl, n, e2, k⟩
  · exact h.keep (.sub w.sub w.nf)
  · exact (k.keep (.sub w.sub w.nf)).dt e2
end
end IP

/-! IP2: outcomes, the state of a def over its slots, readings of expressions and statements by outcomes. -/
namespace IP
open PySem PySem.Spec PyProof.Rows L2 FA
/-- an own error: its class, its fields -/
structure Xn where
  cls : Str
  args : List D
/-- what may come: wished for by Q of a value, by E of an error -/
def M (α : Type) := (α → Prop) → (Xn → Prop) → Prop
namespace M
def ret {α : Type} (a : α) : M α := fun Q _ => Q a
def bnd {α β : Type} (m : M α) (f : α → M β) : M β := fun Q E => m (fun a => f a Q E) E
def fail {α : Type} : M α := fun _ _ => False
def throw {α : Type} (x : Xn) : M α := fun _ E => E x
def draw (n : Int) : M Int := fun Q _ => ∀ r, 0 ≤ r → r < n → Q r
def opt {α : Type} (o : Option α) : M α := fun Q _ => ∃ a, o = some a ∧ Q a
def need (c : Prop) : M Unit := fun Q _ => c ∧ Q ()
end M
instance : Monad M where
  pure := M.ret
  bind := M.bnd
theorem M.pure_run {α : Type} (a : α) (Q : α → Prop) (E : Xn → Prop) : (pure a : M α) Q E = Q a := rfl
theorem M.bind_run {α β : Type} (m : M α) (f : α → M β) (Q : β → Prop) (E : Xn → Prop) : (m >>= f) Q E = m (fun a => f a Q E) E := rfl
theorem M.pure_bind {α β : Type} (a : α) (f : α → M β) : (pure a >>= f) = f a := rfl
theorem M.bind_assoc {α β γ : Type} (m : M α) (f : α → M β) (g : β → M γ) : ((m >>= f) >>= g) = (m >>= fun a => f a >>= g) := rfl
theorem M.bind_pure {α : Type} (m : M α) : (m >>= fun a => pure a) = m := rfl
theorem M.fail_bind {α β : Type} (f : α → M β) : ((M.fail : M α) >>= f) = M.fail := rfl
theorem M.throw_bind {α β : Type} (x : Xn) (f : α → M β) : ((M.throw x : M α) >>= f) = M.throw x := rfl
/-- a name's slot: not there, shared, or held alone -/
inductive Sl where
  | sh (d : D) | ow (d : D) | ini (a : Addr) (c : Str) (fs : List (Option D))
abbrev Env := List (Option Sl)
def ownedAt (env : Env) (σ : L2.St) (i : Nat) (a : Addr) : Prop := ∃ d, env[i]? = some (some (.ow d)) ∧ σ[i]? = some (some (.ref a))
/-- an instance that is being made: no one else knows it -/
structure Ini (G : Gx) (H0 B H : Hp) (c : Str) (a C dx : Addr) (ws : List (Option V)) : Prop where
  cl : G.cl c = some C
  a0 : H0 a = none
  d0 : H0 dx = none
  ab : a ≠ G.b
  db : dx ≠ G.b
  aB : B a = none
  dB : B dx = none
  slt : SlX.Slt H a C dx ws
  dH : H dx = some (.own a) ∨ H dx = some (.xd [])
  ne : dx ≠ a
theorem Ini.at {G : Gx} {H0 B H : Hp} {c : Str} {a C dx : Addr} {ws : List (Option V)} (h : Ini G H0 B H c a C dx ws) : (∃ o, H a = some o ∧ (∀ xs, o ≠ .tup xs) ∧ ∀ B d, ¬ Cont G B o d) ∧ ∃ o, H dx = some o ∧ (∀ xs, o ≠ .tup xs) ∧ ∀ B d, ¬ Cont G B o d := by
  constructor
  · rcases h.slt with ⟨e, _⟩ | ⟨e, _⟩
    · exact ⟨_, e, fun _ z => (nomatch z), fun B d k => k.noI.1 _ _ _ rfl⟩
    · exact ⟨_, e, fun _ z => (nomatch z), fun B d k => k.noI.2.1 _ _ _ _ rfl⟩
  · rcases h.dH with e | e
    · exact ⟨_, e, fun _ z => (nomatch z), fun B d k => k.noI.2.2.1 _ rfl⟩
    · exact ⟨_, e, fun _ z => (nomatch z), fun B d k => k.noI.2.2.2 _ rfl⟩
/-- where both heaps are alike at it -/
theorem Ini.move {G : Gx} {H0 B B' H H' : Hp} {c : Str} {a C dx : Addr} {ws : List (Option V)} (h : Ini G H0 B H c a C dx ws) (h1 : H' a = H a) (h2 : H' dx = H dx) (b1 : B' a = none) (b2 : B' dx = none) : Ini G H0 B' H' c a C dx ws := by
  refine ⟨h.cl, h.a0, h.d0, h.ab, h.db, b1, b2, ?_, by rw [h2]; exact h.dH, h.ne⟩
  rcases h.slt with ⟨e, z⟩ | ⟨e, z⟩
  · exact .inl ⟨by rw [h1]; exact e, z⟩
  · exact .inr ⟨by rw [h1]; exact e, by rw [h2]; exact z⟩
def RelL (G : Gx) (H0 B H : Hp) (v : V) : Sl → Prop
  | .sh d => Dt G B v d
  | .ow d => ∃ a o, v = .ref a ∧ B a = none ∧ H a = some o ∧ Cont G B o d
  | .ini a c fs => ∃ C dx ws, v = .ref a ∧ Ini G H0 B H c a C dx ws ∧ DtSl G B ws fs
/-- a def that was entered at (B0, H0) stands at (B, H) -/
structure Sf (G : Gx) (B0 H0 B H : Hp) (σ : L2.St) (env : Env) : Prop where
  w0 : Wf G B0 H0
  ext : Ext G B0 H0 B H
  len : σ.length = env.length
  val : ∀ (i : Nat) (sl : Sl), env[i]? = some (some sl) → ∃ v, σ[i]? = some (some v) ∧ RelL G H0 B H v sl
  own : ∀ (i : Nat) (a : Addr), ownedAt env σ i a → H0 a = none
  sep : ∀ (i j : Nat) (a : Addr), ownedAt env σ i a → ownedAt env σ j a → i = j
  i0 : ∀ (i : Nat) (a : Addr) (c : Str) (fs : List (Option D)), env[i]? = some (some (.ini a c fs)) → i = 0
section
variable {G : Gx} {B0 H0 B B1 B2 H H1 H2 : Hp} {σ : L2.St} {env : Env}
theorem Sf.wf (s : Sf G B0 H0 B H σ env) : Wf G B H := s.w0.ext s.ext
theorem Sf.ownB (s : Sf G B0 H0 B H σ env) {i : Nat} {a : Addr} (h : ownedAt env σ i a) : B a = none ∧ ∃ o d, H a = some o ∧ env[i]? = some (some (.ow d)) ∧ Cont G B o d := by
  obtain ⟨d, e1, e2⟩ := h
  obtain ⟨v, e3, a', o, rfl, n, ha, k⟩ := s.val i _ e1
  rw [e2] at e3
  obtain rfl : a = a' := by
    have := Option.some.inj (Option.some.inj e3)
    injection this
  exact ⟨n, o, d, ha, e1, k⟩
theorem Sf.ext1 (s : Sf G B0 H0 B H σ env) (e : Ext G B H B1 H1) : Sf G B0 H0 B1 H1 σ env := by
  have w := s.wf
  refine ⟨s.w0, s.ext.trans e, s.len, fun i sl h => ?_, s.own, s.sep, s.i0⟩
  obtain ⟨v, hv, r⟩ := s.val i sl h
  refine ⟨v, hv, ?_⟩
  match sl, r, h with
  | .sh d, r, _ => exact Dt.same e.bb r
  | .ow d, ⟨a, o, e1, n, ha, k⟩, h =>
    have nb : a ≠ G.b := by
      intro z
      have := s.own i a ⟨d, h, by rw [hv, e1]⟩
      obtain ⟨xs, hx⟩ := bag_b s.w0.bag
      rw [z, hx] at this
      cases this
    refine ⟨a, o, e1, ?_, e.kp a o nb ha, k.keep (.of e.bb)⟩
    cases q : B1 a with
    | none => rfl
    | some u =>
      rcases e.new _ _ q with h | h | ⟨ys, h⟩
      · rw [n] at h; cases h
      · rw [ha] at h; cases h
      · rw [ha] at h; exact absurd (Option.some.inj h) (k.tup ys)
  | .ini a c fs, ⟨C, dx, ws, e1, ii, kk⟩, h =>
    obtain ⟨⟨o1, p1, p2, _⟩, ⟨o2, q1, q2, _⟩⟩ := ii.at
    have out : ∀ {p : Addr} {o : HO}, H p = some o → (∀ xs, o ≠ .tup xs) → B p = none → B1 p = none := fun {p o} hp nt hb => by
      cases q : B1 p with
      | none => rfl
      | some u =>
        rcases e.new p u q with z | z | ⟨ys, z⟩
        · rw [hb] at z; cases z
        · rw [hp] at z; cases z
        · rw [hp] at z; exact absurd (Option.some.inj z) (nt ys)
    refine ⟨C, dx, ws, e1, ii.move ?_ ?_ (out p1 p2 ii.aB) (out q1 q2 ii.dB), kk.keep (.of e.bb)⟩
    · rw [p1]; exact e.kp a o1 ii.ab p1
    · rw [q1]; exact e.kp dx o2 ii.db q1
theorem own_ne {j : Nat} {a : Addr} {v : V} {d : D} {i : Nat} {σ : L2.St} {env : Env} (hj : ownedAt (env.set i (some (.sh d))) (σ.set i (some v)) j a) : ownedAt env σ j a := by
  obtain ⟨d', e1, e2⟩ := hj
  by_cases z : i = j
  · subst z
    by_cases q : i < env.length
    · rw [List.getElem?_set_self q] at e1; cases e1
    · rw [List.getElem?_eq_none (by simpa using q)] at e1; cases e1
  · rw [List.getElem?_set_ne z] at e1 e2
    exact ⟨d', e1, e2⟩
theorem ini_ne {env : Env} {i j : Nat} {sl : Sl} (n : ∀ a c fs, sl ≠ .ini a c fs) {a : Addr} {c : Str} {fs : List (Option D)} (h : (env.set i (some sl))[j]? = some (some (.ini a c fs))) : env[j]? = some (some (.ini a c fs)) := by
  by_cases z : i = j
  · subst z
    by_cases q : i < env.length
    · rw [List.getElem?_set_self q] at h
      exact absurd (Option.some.inj (Option.some.inj h)) (n a c fs)
    · rw [List.getElem?_eq_none (by simpa using q)] at h; cases h
  · rw [List.getElem?_set_ne z] at h
    exact h
/-- a slot stored with what is shared -/
theorem Sf.setSh (s : Sf G B0 H0 B H σ env) {i : Nat} {v : V} {d : D} (h : Dt G B v d) : Sf G B0 H0 B H (σ.set i (some v)) (env.set i (some (.sh d))) := by
  refine ⟨s.w0, s.ext, by simp [s.len], fun j sl hj => ?_, fun j a hj => ?_, fun j k a hj hk => ?_, fun j a c fs hj => s.i0 j a c fs (ini_ne (fun _ _ _ z => by cases z) hj)⟩
  · by_cases z : i = j
    · subst z
      have hlt : i < env.length := by
        by_cases q : i < env.length
        · exact q
        · rw [List.getElem?_eq_none (by simpa using q)] at hj; cases hj
      rw [List.getElem?_set_self hlt] at hj
      cases hj
      exact ⟨v, List.getElem?_set_self (by rw [s.len]; exact hlt), h⟩
    · rw [List.getElem?_set_ne z] at hj ⊢
      exact s.val j sl hj
  · exact s.own j a (own_ne hj)
  · exact s.sep j k a (own_ne hj) (own_ne hk)
/-- a slot stored with what is held by no one -/
theorem Sf.setOw (s : Sf G B0 H0 B H σ env) {i : Nat} {a : Addr} {o : HO} {d : D} (h0 : H0 a = none) (hb : B a = none) (ha : H a = some o) (k : Cont G B o d) (nw : ∀ j, ¬ ownedAt env σ j a) : Sf G B0 H0 B H (σ.set i (some (.ref a))) (env.set i (some (.ow d))) := by
  have own_ne : ∀ {j : Nat} {x : Addr}, ownedAt (env.set i (some (.ow d))) (σ.set i (some (.ref a))) j x → (j = i ∧ x = a) ∨ (j ≠ i ∧ ownedAt env σ j x) := by
    rintro j x ⟨d', e1, e2⟩
    by_cases z : i = j
    · subst z
      by_cases q : i < σ.length
      · rw [List.getElem?_set_self q] at e2
        have := Option.some.inj (Option.some.inj e2)
        injection this with this
        exact .inl ⟨rfl, this.symm⟩
      · rw [List.getElem?_eq_none (by simpa using q)] at e2; cases e2
    · rw [List.getElem?_set_ne z] at e1 e2
      exact .inr ⟨fun y => z y.symm, d', e1, e2⟩
  refine ⟨s.w0, s.ext, by simp [s.len], fun j sl hj => ?_, fun j x hj => ?_, fun j l x hj hl => ?_, fun j a c fs hj => s.i0 j a c fs (ini_ne (fun _ _ _ z => by cases z) hj)⟩
  · by_cases z : i = j
    · subst z
      have hlt : i < env.length := by
        by_cases q : i < env.length
        · exact q
        · rw [List.getElem?_eq_none (by simpa using q)] at hj; cases hj
      rw [List.getElem?_set_self hlt] at hj
      cases hj
      exact ⟨_, List.getElem?_set_self (by rw [s.len]; exact hlt), a, o, rfl, hb, ha, k⟩
    · rw [List.getElem?_set_ne z] at hj ⊢
      exact s.val j sl hj
  · rcases own_ne hj with ⟨_, rfl⟩ | ⟨_, h⟩
    · exact h0
    · exact s.own j x h
  · rcases own_ne hj with ⟨rfl, rfl⟩ | ⟨n1, h1⟩
    · rcases own_ne hl with ⟨e, _⟩ | ⟨_, h⟩
      · exact e.symm
      · exact absurd h (nw l)
    · rcases own_ne hl with ⟨rfl, rfl⟩ | ⟨n2, h2⟩
      · exact absurd h1 (nw j)
      · exact s.sep j l x h1 h2
/-- what is held is let go into the base -/
theorem Sf.freeze (s : Sf G B0 H0 B H σ env) {i : Nat} {d : D} (h : env[i]? = some (some (.ow d))) : ∃ B', Same B B' ∧ Sf G B0 H0 B' H σ (env.set i (some (.sh d))) := by
  obtain ⟨v, hv, a, o, rfl, n, ha, k⟩ := s.val i _ h
  have oa : ownedAt env σ i a := ⟨d, h, hv⟩
  have h0 := s.own i a oa
  obtain ⟨nb, nc⟩ := s.w0.bag.neb h0
  obtain ⟨e1, w1⟩ := Ext.into s.wf ha n nb nc k.nof
  have hlt : i < env.length := (List.getElem?_eq_some_iff.mp h).1
  have own_ne : ∀ {j : Nat} {x : Addr}, ownedAt (env.set i (some (.sh d))) σ j x → ownedAt env σ j x ∧ j ≠ i := by
    rintro j x ⟨d', q1, q2⟩
    by_cases z : i = j
    · subst z
      rw [List.getElem?_set_self hlt] at q1; cases q1
    · rw [List.getElem?_set_ne z] at q1
      exact ⟨⟨d', q1, q2⟩, fun y => z y.symm⟩
  refine ⟨upd B a o, e1, s.w0, ⟨s.ext.kp, s.ext.bb.trans e1, w1.sub, w1.nf, fun x u hx => ?_, s.ext.bag⟩, by simp [s.len], fun j sl hj => ?_, fun j x hj => s.own j x (own_ne hj).1, fun j l x hj hl => s.sep j l x (own_ne hj).1 (own_ne hl).1, fun j a c fs hj => s.i0 j a c fs (ini_ne (fun _ _ _ z => by cases z) hj)⟩
  · by_cases z : x = a
    · subst z; exact .inr (.inl h0)
    · rw [upd_ne z] at hx; exact s.ext.new x u hx
  · by_cases z : i = j
    · subst z
      rw [List.getElem?_set_self hlt] at hj
      cases hj
      exact ⟨_, hv, (k.keep (.of e1)).dt upd_same⟩
    · rw [List.getElem?_set_ne z] at hj
      obtain ⟨w, hw, r⟩ := s.val j sl hj
      refine ⟨w, hw, ?_⟩
      match sl, r, hj with
      | .sh d', r, _ => exact Dt.same e1 r
      | .ow d', ⟨a', o', q1, q2, q3, q4⟩, hj =>
        refine ⟨a', o', q1, ?_, q3, q4.keep (.of e1)⟩
        rw [upd_ne ?_]
        · exact q2
        · intro y
          subst y
          exact z (s.sep i j a' oa ⟨d', hj, by rw [hw, q1]⟩)
      | .ini a' c fs, ⟨C, dx, ws, q1, ii, kk⟩, hj =>
        obtain ⟨⟨o1, p1, _, p3⟩, ⟨o2, r1, _, r3⟩⟩ := ii.at
        have n1 : a' ≠ a := fun y => by
          subst y
          rw [ha] at p1
          cases Option.some.inj p1
          exact p3 _ _ k
        have n2 : dx ≠ a := fun y => by
          subst y
          rw [ha] at r1
          cases Option.some.inj r1
          exact r3 _ _ k
        exact ⟨C, dx, ws, q1, ii.move rfl rfl (by rw [upd_ne n1]; exact ii.aB) (by rw [upd_ne n2]; exact ii.dB), kk.keep (.of e1)⟩
/-- a slot stored with a result that has come from (B, H) -/
theorem Sf.setR (s : Sf G B0 H0 B H σ env) (e : Ext G B H B1 H1) {i : Nat} {a : Addr} {o : HO} {d : D} (h : H a = none) (hb : B1 a = none) (ha : H1 a = some o) (k : Cont G B1 o d) : Sf G B0 H0 B1 H1 (σ.set i (some (.ref a))) (env.set i (some (.ow d))) := by
  refine (s.ext1 e).setOw (s.ext.free h) hb ha k fun j hj => ?_
  obtain ⟨_, o', d', q, _⟩ := s.ownB hj
  rw [h] at q
  cases q
end
end IP

/-! IP3: readings by outcomes; names, constants, operators, tests. -/
namespace IP
open PySem PySem.Spec PyProof.Rows L2 FA
/-- a caught or flying error -/
def ExnR (G : Gx) (B H : Hp) (x : Xn) (cls : Value) (d : Option Addr) : Prop :=
  ∃ C, cls = .ref C ∧ G.cl x.cls = some C ∧ ((x.args = [] ∧ d = none ∧ G.fl x.cls = []) ∨ ∃ dd vs, d = some dd ∧ H dd = some (.xd ((G.fl x.cls).zip vs)) ∧ (G.fl x.cls).length = vs.length ∧ DtAll G B vs x.args)
/-- the frame of a def: entered at (B0, H0); W: what is wished of an error -/
structure Fx where
  G : Gx
  B0 : Hp
  H0 : Hp
  W : WX
abbrev Fx.Sf (F : Fx) := IP.Sf F.G F.B0 F.H0
def rdE (F : Fx) (m : Env → M R) : TE := fun σ H Q => ∃ B env Q0 E0, F.Sf B H σ env ∧ m env Q0 E0 ∧ (∀ r, Q0 r → ∀ v H' B', Ext F.G B H B' H' → RelR F.G H B' H' v r → Q v H') ∧
  ∀ x, E0 x → ∀ cls d H' B', Ext F.G B H B' H' → ExnR F.G B' H' x cls d → F.W cls d σ H'
def rdT (F : Fx) (m : Env → M Bool) : TT := fun σ H Q => ∃ B env Q0 E0, F.Sf B H σ env ∧ m env Q0 E0 ∧ (∀ r, Q0 r → ∀ H' B', Ext F.G B H B' H' → Q r H') ∧
  ∀ x, E0 x → ∀ cls d H' B', Ext F.G B H B' H' → ExnR F.G B' H' x cls d → F.W cls d σ H'
/-- one of these is new, at a -/
def owAt (vs : List V) (rs : List R) (a : Addr) : Prop := ∃ (i : Nat) (d : D), vs[i]? = some (.ref a) ∧ rs[i]? = some (.ow d)
inductive RelRs (G : Gx) (H B' H' : Hp) : List V → List R → Prop
  | nil : RelRs G H B' H' [] []
  | cons {v : V} {r : R} {vs : List V} {rs : List R} : RelR G H B' H' v r → RelRs G H B' H' vs rs → (∀ a d, v = .ref a → r = .ow d → ¬ owAt vs rs a) → RelRs G H B' H' (v :: vs) (r :: rs)
def rdA (F : Fx) (m : Env → M (List R)) : TA := fun σ H Q => ∃ B env Q0 E0, F.Sf B H σ env ∧ m env Q0 E0 ∧ (∀ r, Q0 r → ∀ vs H' B', Ext F.G B H B' H' → RelRs F.G H B' H' vs r → Q vs H') ∧
  ∀ x, E0 x → ∀ cls d H' B', Ext F.G B H B' H' → ExnR F.G B' H' x cls d → F.W cls d σ H'
section
variable {X : Cx} {F : Fx} {G : Gx} {B B1 B2 H H1 H2 : Hp} {v : V} {r : R} {e a b c : Expr} {pos : Pos}
theorem pe_imp {t t' : TE} (h : PE X e t) (i : ∀ σ H Q, t' σ H Q → t σ H Q) : PE X e t' := ⟨fun pins s σ H Q I q => h.run pins s σ H Q I (i σ H Q q)⟩
theorem pt_imp {t t' : TT} (h : PT X e t) (i : ∀ σ H Q, t' σ H Q → t σ H Q) : PT X e t' := ⟨fun pins s σ H Q I q => h.run pins s σ H Q I (i σ H Q q)⟩
theorem pw_imp {t t' : TT} (h : PW X e t) (i : ∀ σ H Q, t' σ H Q → t σ H Q) : PW X e t' := ⟨fun whole pins s σ H Q I q => h.run whole pins s σ H Q I (i σ H Q q)⟩
theorem pa_imp {es : List Expr} {t t' : TA} (h : PA X es t) (i : ∀ σ H Q, t' σ H Q → t σ H Q) : PA X es t' := ⟨fun p pins s σ H Q I q => h.run p pins s σ H Q I (i σ H Q q)⟩
theorem RelR.ext (h : RelR G H B1 H1 v r) (e : Ext G B1 H1 B2 H2) (w : H1 G.b ≠ none) (hb : H G.b ≠ none) : RelR G H B2 H2 v r := by
  match r, h with
  | .sh d, h => exact Dt.same e.bb h
  | .ow d, ⟨a, o, e1, n, n1, e2, k⟩ =>
    have nb : a ≠ G.b := fun z => hb (z ▸ n)
    refine ⟨a, o, e1, n, ?_, e.kp a o nb e2, k.keep (.of e.bb)⟩
    cases q : B2 a with
    | none => rfl
    | some u =>
      rcases e.new _ _ q with h | h | ⟨ys, h⟩
      · rw [n1] at h; cases h
      · rw [e2] at h; cases h
      · rw [e2] at h; exact absurd (Option.some.inj h) (k.tup ys)
  | .bw d, ⟨a, o, e1, n, e2, k⟩ => exact ⟨a, o, e1, n, e.kp a o n e2, k.keep (.of e.bb)⟩
theorem RelR.back (h : RelR G H1 B2 H2 v r) (e : Ext G B H B1 H1) : RelR G H B2 H2 v r := by
  match r, h with
  | .sh d, h => exact h
  | .ow d, ⟨a, o, e1, n, n1, e2, k⟩ => exact ⟨a, o, e1, e.free n, n1, e2, k⟩
  | .bw d, h => exact h
theorem bagN (w : Wf G B H) : H G.b ≠ none := by
  obtain ⟨xs, hx⟩ := bag_b w.bag
  rw [hx]
  simp
/-- the chain: a first part, then what follows from where it ended -/
theorem rdE_step {m : Env → M R} {σ : L2.St} {env : Env} {Q0 : R → Prop} {E0 : Xn → Prop} {Q : VK} (s : F.Sf B H σ env) (h : m env Q0 E0) (hq : ∀ r, Q0 r → ∀ v H' B', Ext F.G B H B' H' → RelR F.G H B' H' v r → Q v H')
    (hx : ∀ x, E0 x → ∀ cls d H' B', Ext F.G B H B' H' → ExnR F.G B' H' x cls d → F.W cls d σ H') : rdE F m σ H Q := ⟨B, env, Q0, E0, s, h, hq, hx⟩
/-! ### names and constants -/
def rSlot : Option (Option Sl) → M R
  | some (some (.sh d)) => pure (.sh d)
  | some (some (.ow d)) => pure (.bw d)
  | _ => M.fail
def rVar (i : Nat) (env : Env) : M R := rSlot env[i]?
theorem se_var {i : Nat} {x : Str} (hN : X.N[i]? = some x) (hv : Vis X.env.scope x) (hd : (x == ("__debug__" : Str)) = false) (hcd : (x == ("__classdict__" : Str)) = false) : PE X (.Name x pos) (rdE F (rVar i)) := by
  refine pe_imp (pe_var hN hv hd hcd) ?_
  rintro σ H Q ⟨B, env, Q0, E0, s, h, hq, hx⟩
  unfold rVar at h
  generalize e : env[i]? = o at h
  match o, h with
  | some (some (.sh d)), h =>
    obtain ⟨v, hv, r⟩ := s.val i _ e
    exact ⟨v, hv, hq _ h v H B (Ext.refl s.wf) r⟩
  | some (some (.ow d)), h =>
    obtain ⟨v, hv, a, o, rfl, n, ha, k⟩ := s.val i _ e
    have h0 := s.own i a ⟨d, e, hv⟩
    exact ⟨_, hv, hq _ h _ H B (Ext.refl s.wf) ⟨a, o, rfl, (s.w0.bag.neb h0).1, ha, k⟩⟩
  | some none, h => exact h.elim
  | none, h => exact h.elim
/-- a value that is the same everywhere -/
theorem se_const {d : D} {v : V} (h : PE X e (tC v)) (hd : ∀ B, Dt F.G B v d) : PE X e (rdE F fun _ => pure (.sh d)) := by
  refine pe_imp h ?_
  rintro σ H Q ⟨B, env, Q0, E0, s, h, hq, hx⟩
  exact hq _ h v H B (Ext.refl s.wf) (hd B)
/-! ### operators -/
def rd2 (G : Gx) (sem : D → D → Option R) : R2 := fun x y H Q => ∃ B dx dy r, Wf G B H ∧ View G B H x dx ∧ View G B H y dy ∧ sem dx dy = some r ∧ ∀ v H' B', Ext G B H B' H' → RelR G H B' H' v r → Q v H'
theorem opt_run {α : Type} {o : Option α} {Q0 : α → Prop} (h : ∃ r, o = some r ∧ Q0 r) : ∃ r, o = some r ∧ Q0 r := h
theorem opt_some {α : Type} (a : α) (Q : α → Prop) (E : Xn → Prop) : (M.opt (some a) : M α) Q E = Q a := propext ⟨fun ⟨b, e, q⟩ => by cases e; exact q, fun q => ⟨a, rfl, q⟩⟩
theorem opt_none {α : Type} (Q : α → Prop) (E : Xn → Prop) : (M.opt (none : Option α) : M α) Q E = False := propext ⟨fun ⟨b, e, q⟩ => (by cases e), fun q => q.elim⟩
theorem rd2_go {ma mb : Env → M R} {sem : D → D → Option R} {σ : L2.St} {Q : VK} (h : rdE F (fun env => do let x ← ma env; let y ← mb env; M.opt (sem x.d y.d)) σ H Q) : tOp (rd2 F.G sem) (rdE F ma) (rdE F mb) σ H Q := by
  obtain ⟨B, env, Q0, E0, s, h, hq, hx⟩ := h
  refine rdE_step s h (fun rx h1 x H1 B1 e1 r1 => ?_) hx
  have s1 := s.ext1 e1
  refine rdE_step s1 h1 (fun ry h2 y H2 B2 e2 r2 => ?_) fun xn hxn cls d H' B' e' k => hx xn hxn cls d H' B' (e1.trans e') k
  obtain ⟨r, er, h3⟩ := opt_run h2
  have s2 := s1.ext1 e2
  exact ⟨B2, rx.d, ry.d, r, s2.wf, (r1.view s.wf e1).ext e2, r2.view s1.wf e2, er, fun v H' B' e3 r3 => hq r h3 v H' B' ((e1.trans e2).trans e3) ((r3.back e2).back e1)⟩
theorem se_bin {op : Operator} {sem : D → D → Option R} {ma mb : Env → M R} (ho : OpR X (binaryOp op) (rd2 F.G sem)) (ha : PE X a (rdE F ma)) (hb : PE X b (rdE F mb)) :
    PE X (.BinOp a op b pos) (rdE F fun env => do let x ← ma env; let y ← mb env; M.opt (sem x.d y.d)) := pe_imp (pe_op ho ha hb) fun _ _ _ => rd2_go
theorem se_cmp {op : CmpOp} {sem : D → D → Option R} {ma mb : Env → M R} (ho : OpR X (compareOp op) (rd2 F.G sem)) (ha : PE X a (rdE F ma)) (hb : PE X b (rdE F mb)) (hm : behindInMarks op b = false) :
    PE X (.Compare a [op] [b] pos) (rdE F fun env => do let x ← ma env; let y ← mb env; M.opt (sem x.d y.d)) := pe_imp (pe_cmpR ho ha hb hm) fun _ _ _ => rd2_go
/-- a truth value -/
def asB : D → Option Bool
  | .bl x => some x
  | _ => none
theorem View.bl {x : Bool} (h : View G B H v (.bl x)) : v = .bl x := by
  rcases h with h | ⟨a, o, _, _, _, k⟩
  · cases h; rfl
  · exact k.elim
theorem rdT_of {m : Env → M R} {σ : L2.St} {Q : Bool → Hp → Prop} (h : rdT F (fun env => do let x ← m env; M.opt (asB x.d)) σ H Q) : rdE F m σ H fun x H' => ∃ k, x = .bl k ∧ Q k H' := by
  obtain ⟨B, env, Q0, E0, s, h, hq, hx⟩ := h
  refine rdE_step s h (fun rx h1 x H1 B1 e1 r1 => ?_) hx
  obtain ⟨k, ek, h2⟩ := opt_run h1
  have v1 := r1.view s.wf e1
  have ed : rx.d = .bl k := by
    cases q : rx.d <;> rw [q] at ek <;> simp [asB] at ek
    rw [ek]
  rw [ed] at v1
  exact ⟨k, v1.bl, hq k h2 H1 B1 e1⟩
theorem st_val {m : Env → M R} (h : PE X e (rdE F m)) (he : ∀ whole, isTrue e X.env whole = (do let v ← whole; standAt e.pos; holding [v] (truthy v))) : PT X e (rdT F fun env => do let x ← m env; M.opt (asB x.d)) :=
  pt_imp (pt_val h he) fun _ _ _ => rdT_of
theorem st_cmp {op : CmpOp} {sem : D → D → Option R} {ma mb : Env → M R} (ho : OpR X (compareOp op) (rd2 F.G sem)) (ha : PE X a (rdE F ma)) (hb : PE X b (rdE F mb)) (hm : behindInMarks op b = false) :
    PT X (.Compare a [op] [b] pos) (rdT F fun env => do let r ← (do let x ← ma env; let y ← mb env; M.opt (sem x.d y.d)); M.opt (asB r.d)) :=
  pt_imp (pt_cmpR ho ha hb hm) fun σ H Q h => rd2_go (Q := fun x H' => ∃ k, x = .bl k ∧ Q k H') (rdT_of h)
theorem rdT_step {m : Env → M Bool} {σ : L2.St} {env : Env} {Q0 : Bool → Prop} {E0 : Xn → Prop} {Q : Bool → Hp → Prop} (s : F.Sf B H σ env) (h : m env Q0 E0) (hq : ∀ r, Q0 r → ∀ H' B', Ext F.G B H B' H' → Q r H')
    (hx : ∀ x, E0 x → ∀ cls d H' B', Ext F.G B H B' H' → ExnR F.G B' H' x cls d → F.W cls d σ H') : rdT F m σ H Q := ⟨B, env, Q0, E0, s, h, hq, hx⟩
theorem sw_and {ma mb : Env → M Bool} {rest : List Expr} (ha : PT X a (rdT F ma)) (hb : PW X (.BoolOp .And (b :: rest) pos) (rdT F mb)) : PW X (.BoolOp .And (a :: b :: rest) pos) (rdT F fun env => do let x ← ma env; if x = true then mb env else pure false) := by
  refine pw_imp (pw_and ha hb) ?_
  rintro σ H Q ⟨B, env, Q0, E0, s, h, hq, hx⟩
  refine rdT_step s h (fun x h1 H1 B1 e1 => ?_) hx
  cases x with
  | true => exact rdT_step (s.ext1 e1) h1 (fun y h2 H2 B2 e2 => hq y h2 H2 B2 (e1.trans e2)) fun xn hxn cls d H' B' e' k => hx xn hxn cls d H' B' (e1.trans e') k
  | false => exact hq false h1 H1 B1 e1
theorem sw_or {ma mb : Env → M Bool} {rest : List Expr} (ha : PT X a (rdT F ma)) (hb : PW X (.BoolOp .Or (b :: rest) pos) (rdT F mb)) : PW X (.BoolOp .Or (a :: b :: rest) pos) (rdT F fun env => do let x ← ma env; if x = true then pure true else mb env) := by
  refine pw_imp (pw_or ha hb) ?_
  rintro σ H Q ⟨B, env, Q0, E0, s, h, hq, hx⟩
  refine rdT_step s h (fun x h1 H1 B1 e1 => ?_) hx
  cases x with
  | false => exact rdT_step (s.ext1 e1) h1 (fun y h2 H2 B2 e2 => hq y h2 H2 B2 (e1.trans e2)) fun xn hxn cls d H' B' e' k => hx xn hxn cls d H' B' (e1.trans e') k
  | true => exact hq true h1 H1 B1 e1
theorem st_not {m : Env → M Bool} (h : PT X a (rdT F m)) : PT X (.UnaryOp .Not a pos) (rdT F fun env => do let x ← m env; pure (!x)) := by
  refine pt_imp (pt_not h) ?_
  rintro σ H Q ⟨B, env, Q0, E0, s, h, hq, hx⟩
  exact rdT_step s h (fun x h1 H1 B1 e1 => hq _ h1 H1 B1 e1) hx
/-! ### and, or, not as values: truth values alone -/
theorem se_and {ma mb : Env → M R} {rest : List Expr} (ha : PE X a (rdE F ma)) (hb : PE X (.BoolOp .And (b :: rest) pos) (rdE F mb)) : PE X (.BoolOp .And (a :: b :: rest) pos) (rdE F fun env => do let x ← (do let r ← ma env; M.opt (asB r.d)); if x = true then mb env else pure (.sh (.bl false))) := by
  refine pe_imp (pe_and ha hb) ?_
  rintro σ H Q ⟨B, env, Q0, E0, s, h, hq, hx⟩
  refine rdT_of (F := F) (m := ma) ?_
  refine rdT_step s h (fun x h1 H1 B1 e1 => ?_) hx
  cases x with
  | true => exact rdE_step (s.ext1 e1) h1 (fun y h2 v H2 B2 e2 r2 => hq y h2 v H2 B2 (e1.trans e2) (r2.back e1)) fun xn hxn cls d H' B' e' k => hx xn hxn cls d H' B' (e1.trans e') k
  | false => exact hq _ h1 _ H1 B1 e1 (Dt.bl _)
theorem se_or {ma mb : Env → M R} {rest : List Expr} (ha : PE X a (rdE F ma)) (hb : PE X (.BoolOp .Or (b :: rest) pos) (rdE F mb)) : PE X (.BoolOp .Or (a :: b :: rest) pos) (rdE F fun env => do let x ← (do let r ← ma env; M.opt (asB r.d)); if x = true then pure (.sh (.bl true)) else mb env) := by
  refine pe_imp (pe_or ha hb) ?_
  rintro σ H Q ⟨B, env, Q0, E0, s, h, hq, hx⟩
  refine rdT_of (F := F) (m := ma) ?_
  refine rdT_step s h (fun x h1 H1 B1 e1 => ?_) hx
  cases x with
  | false => exact rdE_step (s.ext1 e1) h1 (fun y h2 v H2 B2 e2 r2 => hq y h2 v H2 B2 (e1.trans e2) (r2.back e1)) fun xn hxn cls d H' B' e' k => hx xn hxn cls d H' B' (e1.trans e') k
  | true => exact hq _ h1 _ H1 B1 e1 (Dt.bl _)
theorem se_not {ma : Env → M R} (ha : PE X a (rdE F ma)) : PE X (.UnaryOp .Not a pos) (rdE F fun env => do let x ← (do let r ← ma env; M.opt (asB r.d)); pure (.sh (.bl (!x)))) := by
  refine pe_imp (pe_not ha) ?_
  rintro σ H Q ⟨B, env, Q0, E0, s, h, hq, hx⟩
  refine rdT_of (F := F) (m := ma) ?_
  exact rdT_step s h (fun x h1 H1 B1 e1 => hq _ h1 _ H1 B1 e1 (Dt.bl _)) hx
theorem se_if {c : Expr} {mc : Env → M Bool} {ma mb : Env → M R} (hc : PT X c (rdT F mc)) (ha : PE X a (rdE F ma)) (hb : PE X b (rdE F mb)) : PE X (.IfExp c a b pos) (rdE F fun env => do let x ← mc env; if x = true then ma env else mb env) := by
  refine pe_imp (pe_ifExp hc ha hb) ?_
  rintro σ H Q ⟨B, env, Q0, E0, s, h, hq, hx⟩
  refine rdT_step s h (fun x h1 H1 B1 e1 => ?_) hx
  cases x with
  | true => exact rdE_step (s.ext1 e1) h1 (fun y h2 v H2 B2 e2 r2 => hq y h2 v H2 B2 (e1.trans e2) (r2.back e1)) fun xn hxn cls d H' B' e' k => hx xn hxn cls d H' B' (e1.trans e') k
  | false => exact rdE_step (s.ext1 e1) h1 (fun y h2 v H2 B2 e2 r2 => hq y h2 v H2 B2 (e1.trans e2) (r2.back e1)) fun xn hxn cls d H' B' e' k => hx xn hxn cls d H' B' (e1.trans e') k
end
end IP

/-! IP4: trees as PyData; == and in; + - * // %. -/
namespace IP
open PySem PySem.Spec PyProof.Rows L2 FA
mutual
def toP : D → PyData
  | .non => .none
  | .bl b => .bool b
  | .int i => .int i
  | .str x => .str x
  | .lst xs => .list (toPs xs)
  | .tup xs => .tuple (toPs xs)
  | .dct kvs => .dict (toKv kvs)
  | .ins _ _ => .none
  | .obj _ _ _ => .none
  | .bag => .none
def toPs : List D → List PyData
  | [] => []
  | x :: xs => toP x :: toPs xs
def toKv : List (D × D) → List (PyData × PyData)
  | [] => []
  | (k, v) :: r => (toP k, toP v) :: toKv r
end
mutual
/-- data: no instance, no bag within -/
def pl : D → Bool
  | .lst xs => pls xs
  | .tup xs => pls xs
  | .dct kvs => plKv kvs
  | .ins _ _ => false
  | .obj _ _ _ => false
  | .bag => false
  | _ => true
def pls : List D → Bool
  | [] => true
  | x :: xs => pl x && pls xs
def plKv : List (D × D) → Bool
  | [] => true
  | (_, v) :: r => pl v && plKv r
end
theorem kD_toP (k : Key) : toP (kD k) = keyD k := by cases k <;> rfl
theorem kD_toPs : ∀ k : List Key, toPs (k.map kD) = k.map keyD
  | [] => rfl
  | x :: k => by rw [List.map_cons, toPs, kD_toPs k, kD_toP, List.map_cons]
theorem sqT_none {K : PySem.W.Frag} {H : Hp} {a : Addr} {xs : List V} (h : SqT K (fun _ => none) a xs) : SqT K H a xs := by
  rcases h with (h | ⟨_, h⟩) | h
  · cases h
  · cases h
  · exact .inr h
section
variable {G : Gx} {B H : Hp}
mutual
theorem Dt.fa {v : V} {d : D} : Dt G B v d → pl d = true → FA.Dt G.K B v (toP d)
  | .non, _ => by rw [toP]; exact .non
  | .bl b, _ => by rw [toP]; exact .bl b
  | .int i, _ => by rw [toP]; exact .int i
  | .str x, _ => by rw [toP]; exact .str x
  | .lst r k, h => by rw [toP]; exact .lst (.inl r) (DtAll.fa k (by simpa [pl] using h))
  | .tup r k, h => by rw [toP]; exact .tup (.inl (.inl r)) (DtAll.fa k (by simpa [pl] using h))
  | .tup0 r, h => by rw [toP, toPs]; exact .tup (sqT_none r) .nil
  | .dK r k, h => by
    obtain ⟨ds, k1, e⟩ := DtK.fa k (by simpa [pl] using h)
    rw [toP, e]
    exact .dK r k1
  | .dT r k, h => by
    obtain ⟨ds, k1, e⟩ := DtT.fa k (by simpa [pl] using h)
    rw [toP, e]
    exact .dT r k1
  | .ins _ _ _ _, h => by simp [pl] at h
  | .obj _ _ _ _ _, h => by simp [pl] at h
  | .bag, h => by simp [pl] at h
theorem DtAll.fa {vs : List V} {ds : List D} : DtAll G B vs ds → pls ds = true → FA.DtAll G.K B vs (toPs ds)
  | .nil, _ => by rw [toPs]; exact .nil
  | .cons a b, h => by
    simp only [pls, Bool.and_eq_true] at h
    rw [toPs]
    exact .cons (Dt.fa a h.1) (DtAll.fa b h.2)
theorem DtK.fa {vs : List (Key × V)} {es : List (D × D)} : DtK G B vs es → plKv es = true → ∃ ds, FA.DtAll G.K B (vs.map (·.2)) ds ∧ toKv es = (vs.map fun p => keyD p.1).zip ds
  | .nil, _ => ⟨[], .nil, by rw [toKv]; rfl⟩
  | .cons (k := k) a b, h => by
    simp only [plKv, Bool.and_eq_true] at h
    obtain ⟨ds, k1, e⟩ := DtK.fa b h.2
    exact ⟨_ :: ds, .cons (Dt.fa a h.1) k1, by rw [toKv, e, kD_toP]; rfl⟩
theorem DtT.fa {vs : List (List Key × V)} {es : List (D × D)} : DtT G B vs es → plKv es = true → ∃ ds, FA.DtAll G.K B (vs.map (·.2)) ds ∧ toKv es = (vs.map fun p => PyData.tuple (p.1.map keyD)).zip ds
  | .nil, _ => ⟨[], .nil, by rw [toKv]; rfl⟩
  | .cons (k := k) a b, h => by
    simp only [plKv, Bool.and_eq_true] at h
    obtain ⟨ds, k1, e⟩ := DtT.fa b h.2
    exact ⟨_ :: ds, .cons (Dt.fa a h.1) k1, by rw [toKv, e, toP, kD_toPs]; rfl⟩
end
/-! ### what a view is -/
variable {v : V} {d : D}
theorem View.int {i : Int} (h : View G B H v (.int i)) : v = .int i := by
  rcases h with h | ⟨a, o, _, _, _, k⟩
  · cases h; rfl
  · exact k.elim
theorem View.str {i : Str} (h : View G B H v (.str i)) : v = .str i := by
  rcases h with h | ⟨a, o, _, _, _, k⟩
  · cases h; rfl
  · exact k.elim
theorem View.non (h : View G B H v .non) : v = .non := by
  rcases h with h | ⟨a, o, _, _, _, k⟩
  · cases h; rfl
  · exact k.elim
theorem View.lst (w : Wf G B H) {ds : List D} (h : View G B H v (.lst ds)) : ∃ a xs, v = .ref a ∧ a ≠ G.b ∧ H a = some (.lst xs) ∧ DtAll G B xs ds := by
  rcases h with h | ⟨a, o, rfl, n, e, xs, rfl, k⟩
  · cases h with
    | lst r k =>
      refine ⟨_, _, rfl, fun z => ?_, w.sub.ex r rfl, k⟩
      rw [z, w.nb] at r
      cases r
  · exact ⟨a, xs, rfl, n, e, k⟩
theorem View.tup (w : Wf G B H) {ds : List D} (h : View G B H v (.tup ds)) : ∃ a xs, v = .ref a ∧ SqT G.K H a xs ∧ DtAll G B xs ds ∧ Dt G B v (.tup ds) := by
  rcases h with h | ⟨a, o, _, _, _, k⟩
  · cases id h with
    | tup r k => exact ⟨_, _, rfl, .inl (.inl (w.sub.ex r rfl)), k, h⟩
    | tup0 r => exact ⟨_, _, rfl, sqT_none r, .nil, h⟩
  · exact k.elim
theorem View.dct (w : Wf G B H) {es : List (D × D)} (h : View G B H v (.dct es)) : ∃ a, v = .ref a ∧ a ≠ G.b ∧ ((∃ ks, Rd H a (.dK ks) ∧ DtK G B ks es) ∨ ∃ ks, Rd H a (.dT ks) ∧ DtT G B ks es) := by
  have nb : ∀ {a : Addr} {o : HO}, Rd B a o → a ≠ G.b := fun {a o} r z => by
    rcases r with r | ⟨_, r⟩ <;> (rw [z, w.nb] at r; cases r)
  rcases h with h | ⟨a, o, rfl, n, e, k⟩
  · cases h with
    | dK r k => exact ⟨_, rfl, nb r, .inl ⟨_, (Keeps.sub w.sub w.nf).dK _ _ r, k⟩⟩
    | dT r k => exact ⟨_, rfl, nb r, .inr ⟨_, (Keeps.sub w.sub w.nf).dT _ _ r, k⟩⟩
  · refine ⟨a, rfl, n, ?_⟩
    rcases k with ⟨ks, rfl, k⟩ | ⟨ks, rfl, k⟩
    · exact .inl ⟨ks, .inl e, k⟩
    · exact .inr ⟨ks, .inl e, k⟩
theorem View.fa (w : Wf G B H) (h : View G B H v d) (p : pl d = true) : FA.Dt G.K H v (toP d) := (h.dt w).fa p
end
section
variable {X : Cx} {G : Gx}
/-- a result without the heap -/
def R.i (i : Int) : R := .sh (.int i)
def R.b (b : Bool) : R := .sh (.bl b)
theorem tupNF {xs : List V} : ∀ od u, HO.tup xs ≠ .frz od u := fun _ _ z => nomatch z
theorem lstNF {xs : List V} : ∀ od u, HO.lst xs ≠ .frz od u := fun _ _ z => nomatch z
/-! ### + -/
def bAdd : D → D → Option R
  | .int i, .int j => some (.sh (.int (i + j)))
  | .str x, .str y => if x.length + y.length ≤ sizeLine then some (.sh (.str (x ++ y))) else none
  | .lst xs, .lst ys => if xs.length + ys.length ≤ sizeLine then some (.ow (.lst (xs ++ ys))) else none
  | .tup xs, .tup ys => if xs.length + ys.length ≤ sizeLine then some (.sh (.tup (xs ++ ys))) else none
  | _, _ => none
theorem ob_add (hK : G.K = X.K) : OpR X (binaryOp .Add) (rd2 G bAdd) := by
  intro pins s σ H x y v u Q I rx ry h
  obtain ⟨B, dx, dy, r, w, vx, vy, e, q⟩ := h
  match dx, dy, e, vx, vy with
  | .int i, .int j, e, vx, vy =>
    cases e
    exact op_add pins s σ H x y v u Q I rx ry ⟨i, j, vx.int, vy.int, q _ H B (Ext.refl w) (Dt.int _)⟩
  | .str i, .str j, e, vx, vy =>
    simp only [bAdd] at e
    split at e
    next hz =>
      cases e
      exact op_add_str pins s σ H x y v u Q I rx ry ⟨i, j, vx.str, vy.str, hz, q _ H B (Ext.refl w) (Dt.str _)⟩
    next => cases e
  | .lst xs, .lst ys, e, vx, vy =>
    simp only [bAdd] at e
    split at e
    next hz =>
      cases e
      obtain ⟨a, us, rfl, _, ha, ka⟩ := vx.lst w
      obtain ⟨b, ws, rfl, _, hb, kb⟩ := vy.lst w
      refine op_cat pins s σ H _ _ v u Q I rx ry ⟨a, b, us, ws, rfl, rfl, ha, hb, by rw [ka.len, kb.len]; exact hz, fun p hp => ?_⟩
      exact q _ _ B (Ext.lay w _ hp) ⟨p, _, rfl, hp, w.sub.free hp, upd_same, _, rfl, ka.app kb⟩
    next => cases e
  | .tup xs, .tup ys, e, vx, vy =>
    simp only [bAdd] at e
    split at e
    next hz =>
      cases e
      obtain ⟨a, us, rfl, ha, ka, va⟩ := vx.tup w
      obtain ⟨b, ws, rfl, hb, kb, vb⟩ := vy.tup w
      rw [hK] at ha hb
      refine op_catA pins s σ H _ _ v u Q I rx ry ⟨a, b, us, ws, rfl, rfl, ha, hb, by rw [ka.len, kb.len]; exact hz, fun z => ?_, fun _ z => ?_, fun _ _ p hp => ?_⟩
      · subst z
        cases ka
        exact q _ H B (Ext.refl w) vb
      · subst z
        cases kb
        rw [List.append_nil] at q
        exact q _ H B (Ext.refl w) va
      · exact q _ _ _ (Ext.put w _ hp tupNF) (Dt.tup upd_same ((ka.app kb).same (Ext.put w _ hp tupNF).bb))
    next => cases e
def bSub : D → D → Option R
  | .int i, .int j => some (.sh (.int (i - j)))
  | _, _ => none
theorem ob_sub : OpR X (binaryOp .Sub) (rd2 G bSub) := by
  intro pins s σ H x y v u Q I rx ry h
  obtain ⟨B, dx, dy, r, w, vx, vy, e, q⟩ := h
  match dx, dy, e, vx, vy with
  | .int i, .int j, e, vx, vy =>
    cases e
    exact op_sub pins s σ H x y v u Q I rx ry ⟨i, j, vx.int, vy.int, q _ H B (Ext.refl w) (Dt.int _)⟩
/-- ints together below a million bits; one sign so many times -/
def bMul : D → D → Option R
  | .int i, .int j => if i.natAbs.log2 + j.natAbs.log2 < 1000000 then some (.sh (.int (i * j))) else none
  | .str x, .int n => match x.cps.toList with
    | [c] => if 0 ≤ n ∧ n ≤ 1000 then some (.sh (.str (txL (List.replicate n.toNat c)))) else none
    | _ => none
  | _, _ => none
theorem ob_mul : OpR X (binaryOp .Mult) (rd2 G bMul) := by
  intro pins s σ H x y v u Q I rx ry h
  obtain ⟨B, dx, dy, r, w, vx, vy, e, q⟩ := h
  match dx, dy, e, vx, vy with
  | .int i, .int j, e, vx, vy =>
    simp only [bMul] at e
    split at e
    next hz =>
      cases e
      exact op_mulW pins s σ H x y v u Q I rx ry ⟨i, j, vx.int, vy.int, hz, q _ H B (Ext.refl w) (Dt.int _)⟩
    next => cases e
  | .str z, .int n, e, vx, vy =>
    simp only [bMul] at e
    split at e
    next c ec =>
      split at e
      next hz =>
        cases e
        refine op_mul_sign pins s σ H x y v u Q I rx ry ⟨c, n.toNat, ?_, ?_, by omega, q _ H B (Ext.refl w) (Dt.str _)⟩
        · rw [vx.str, txL_of z, ec]
        · rw [vy.int]
          congr 1
          omega
      next => cases e
    next => cases e
def bMod : D → D → Option R
  | .int i, .int j => if 0 < j then some (.sh (.int (i % j))) else none
  | _, _ => none
theorem ob_mod : OpR X (binaryOp .Mod) (rd2 G bMod) := by
  intro pins s σ H x y v u Q I rx ry h
  obtain ⟨B, dx, dy, r, w, vx, vy, e, q⟩ := h
  match dx, dy, e, vx, vy with
  | .int i, .int j, e, vx, vy =>
    simp only [bMod] at e
    split at e
    next hz =>
      cases e
      exact op_mod pins s σ H x y v u Q I rx ry ⟨i, j, vx.int, vy.int, hz, q _ H B (Ext.refl w) (Dt.int _)⟩
    next => cases e
def bDiv : D → D → Option R
  | .int i, .int j => if 0 < j ∧ j.natAbs.log2 < 9000 then some (.sh (.int (i / j))) else none
  | _, _ => none
theorem ob_div : OpR X (binaryOp .FloorDiv) (rd2 G bDiv) := by
  intro pins s σ H x y v u Q I rx ry h
  obtain ⟨B, dx, dy, r, w, vx, vy, e, q⟩ := h
  match dx, dy, e, vx, vy with
  | .int i, .int j, e, vx, vy =>
    simp only [bDiv] at e
    split at e
    next hz =>
      cases e
      exact op_fdivW pins s σ H x y v u Q I rx ry ⟨i, j, vx.int, vy.int, hz, q _ H B (Ext.refl w) (Dt.int _)⟩
    next => cases e
/-! ### comparisons -/
open Classical in
/-- ==: data without dicts, or twice the same data -/
noncomputable def eqD (x y : D) : Option Bool :=
  if pl x = true ∧ pl y = true ∧ (toP x).plain = true ∧ (toP y).plain = true ∧ (toP x).depth ≤ 60 then some (PyData.eqv (toP x) (toP y))
  else if x = y ∧ pl x = true ∧ noT (toP x) = true ∧ (toP x).depth ≤ 60 then some true else none
noncomputable def cEq (x y : D) : Option R := (eqD x y).map R.b
theorem ob_eq (hK : G.K = X.K) (hu : X.A.units + 64 < cLine) : OpR X (compareOp .Eq) (rd2 G cEq) := by
  intro pins s σ H x y v u Q I rx ry h
  obtain ⟨B, dx, dy, r, w, vx, vy, e, q⟩ := h
  unfold cEq eqD at e
  split at e
  next hc =>
    obtain ⟨p1, p2, p3, p4, p5⟩ := hc
    cases e
    refine op_eqP hu pins s σ H x y v u Q I rx ry ⟨_, _, hK ▸ vx.fa w p1, hK ▸ vy.fa w p2, p3, p4, p5, q _ H B (Ext.refl w) (Dt.bl _)⟩
  next =>
    split at e
    next hc =>
      obtain ⟨rfl, p1, p2, p3⟩ := hc
      cases e
      exact op_eqS hu pins s σ H x y v u Q I rx ry ⟨_, hK ▸ vx.fa w p1, hK ▸ vy.fa w p1, p2, p3, q _ H B (Ext.refl w) (Dt.bl _)⟩
    next => cases e
noncomputable def cNe (x y : D) : Option R := if pl x = true ∧ pl y = true ∧ (toP x).plain = true ∧ (toP y).plain = true ∧ (toP x).depth ≤ 60 then some (R.b (!PyData.eqv (toP x) (toP y))) else none
theorem ob_ne (hK : G.K = X.K) (hu : X.A.units + 64 < cLine) : OpR X (compareOp .NotEq) (rd2 G cNe) := by
  intro pins s σ H x y v u Q I rx ry h
  obtain ⟨B, dx, dy, r, w, vx, vy, e, q⟩ := h
  unfold cNe at e
  split at e
  next hc =>
    obtain ⟨p1, p2, p3, p4, p5⟩ := hc
    cases e
    exact op_neP hu pins s σ H x y v u Q I rx ry ⟨_, _, hK ▸ vx.fa w p1, hK ▸ vy.fa w p2, p3, p4, p5, q _ H B (Ext.refl w) (Dt.bl _)⟩
  next => cases e
/-- < <= > >=: ints -/
def cLt : D → D → Option R
  | .int i, .int j => some (R.b (decide (i < j)))
  | _, _ => none
def cLe : D → D → Option R
  | .int i, .int j => some (R.b (decide (i ≤ j)))
  | _, _ => none
def cGt : D → D → Option R
  | .int i, .int j => some (R.b (decide (j < i)))
  | _, _ => none
def cGe : D → D → Option R
  | .int i, .int j => some (R.b (decide (j ≤ i)))
  | _, _ => none
theorem ob_lt : OpR X (compareOp .Lt) (rd2 G cLt) := by
  intro pins s σ H x y v u Q I rx ry h
  obtain ⟨B, dx, dy, r, w, vx, vy, e, q⟩ := h
  match dx, dy, e, vx, vy with
  | .int i, .int j, e, vx, vy =>
    cases e
    exact op_lt pins s σ H x y v u Q I rx ry ⟨i, j, vx.int, vy.int, q _ H B (Ext.refl w) (Dt.bl _)⟩
theorem ob_le : OpR X (compareOp .LtE) (rd2 G cLe) := by
  intro pins s σ H x y v u Q I rx ry h
  obtain ⟨B, dx, dy, r, w, vx, vy, e, q⟩ := h
  match dx, dy, e, vx, vy with
  | .int i, .int j, e, vx, vy =>
    cases e
    exact op_le pins s σ H x y v u Q I rx ry ⟨i, j, vx.int, vy.int, q _ H B (Ext.refl w) (Dt.bl _)⟩
theorem ob_gt : OpR X (compareOp .Gt) (rd2 G cGt) := by
  intro pins s σ H x y v u Q I rx ry h
  obtain ⟨B, dx, dy, r, w, vx, vy, e, q⟩ := h
  match dx, dy, e, vx, vy with
  | .int i, .int j, e, vx, vy =>
    cases e
    exact op_gt pins s σ H x y v u Q I rx ry ⟨i, j, vx.int, vy.int, q _ H B (Ext.refl w) (Dt.bl _)⟩
theorem ob_ge : OpR X (compareOp .GtE) (rd2 G cGe) := by
  intro pins s σ H x y v u Q I rx ry h
  obtain ⟨B, dx, dy, r, w, vx, vy, e, q⟩ := h
  match dx, dy, e, vx, vy with
  | .int i, .int j, e, vx, vy =>
    cases e
    exact op_ge pins s σ H x y v u Q I rx ry ⟨i, j, vx.int, vy.int, q _ H B (Ext.refl w) (Dt.bl _)⟩
/-- is None -/
def isNon : D → Bool
  | .non => true
  | _ => false
theorem View.isN {B H : Hp} {v : V} {d : D} (h : View G B H v d) : decide (v = .non) = isNon d := by
  rcases h with h | ⟨a, o, rfl, _, _, k⟩
  · cases h <;> rfl
  · cases d <;> first | rfl | exact k.elim
def cIs : D → D → Option R
  | x, .non => some (R.b (isNon x))
  | _, _ => none
def cIsNot : D → D → Option R
  | x, .non => some (R.b (!isNon x))
  | _, _ => none
theorem ob_is : OpR X (compareOp .Is) (rd2 G cIs) := by
  intro pins s σ H x y v u Q I rx ry h
  obtain ⟨B, dx, dy, r, w, vx, vy, e, q⟩ := h
  match dy, e, vy with
  | .non, e, vy =>
    cases e
    refine op_isN pins s σ H x y v u Q I rx ry ⟨vy.non, ?_⟩
    rw [vx.isN]
    exact q _ H B (Ext.refl w) (Dt.bl _)
theorem ob_isnot : OpR X (compareOp .IsNot) (rd2 G cIsNot) := by
  intro pins s σ H x y v u Q I rx ry h
  obtain ⟨B, dx, dy, r, w, vx, vy, e, q⟩ := h
  match dy, e, vy with
  | .non, e, vy =>
    cases e
    refine op_notN pins s σ H x y v u Q I rx ry ⟨vy.non, ?_⟩
    rw [vx.isN]
    exact q _ H B (Ext.refl w) (Dt.bl _)
/-! ### in -/
/-- a key: an int, a text, a tuple of such -/
def keyOf : D → Option Key
  | .int i => some (.inl i)
  | .str x => some (.inr x)
  | _ => none
def keysOf : List D → Option (List Key)
  | [] => some []
  | d :: ds => match keyOf d, keysOf ds with
    | some k, some ks => some (k :: ks)
    | _, _ => none
end
end IP

/-! IP5: in, subscripts, slices, arguments, displays. -/
namespace IP
open PySem PySem.Spec PyProof.Rows L2 FA
/-! ### look-ups in dicts -/
def tupOf : D → Option (List Key)
  | .tup ds => keysOf ds
  | _ => none
def lookK (es : List (D × D)) (k : Key) : Option D := (es.find? fun p => decide (keyOf p.1 = some k)).map (·.2)
def lookT (es : List (D × D)) (k : List Key) : Option D := (es.find? fun p => decide (tupOf p.1 = some k)).map (·.2)
def dGet (es : List (D × D)) : D → Option (Option D)
  | .int i => if (es.all fun p => (keyOf p.1).isSome) = true then some (lookK es (.inl i)) else none
  | .str x => if (es.all fun p => (keyOf p.1).isSome) = true then some (lookK es (.inr x)) else none
  | .tup (d :: ds) => match keysOf (d :: ds) with
    | some k => if (es.all fun p => (tupOf p.1).isSome) = true then some (lookT es k) else none
    | none => none
  | _ => none
theorem keyOf_kD (k : Key) : keyOf (kD k) = some k := by cases k <;> rfl
theorem keysOf_kD : ∀ k : List Key, keysOf (k.map kD) = some k
  | [] => rfl
  | x :: k => by simp only [List.map_cons, keysOf, keyOf_kD, keysOf_kD k]
theorem keysOf_map : ∀ {ds : List D} {k : List Key}, keysOf ds = some k → ds = k.map kD
  | [], k, h => by simp [keysOf] at h; subst h; rfl
  | d :: ds, k, h => by
    simp only [keysOf] at h
    split at h
    next a b ha hb =>
      cases h
      rw [List.map_cons, ← keysOf_map hb]
      congr 1
      cases d <;> simp [keyOf] at ha <;> subst ha <;> rfl
    next => cases h
section
variable {G : Gx} {B H : Hp}
theorem DtK.look : ∀ {ks : List (Key × V)} {es : List (D × D)} (k : Key), DtK G B ks es → (valV ks k = none ∧ lookK es k = none) ∨ ∃ v d, valV ks k = some v ∧ lookK es k = some d ∧ Dt G B v d
  | _, _, k, .nil => .inl ⟨rfl, rfl⟩
  | _, _, k, .cons (k := k0) (v := v) (d := d) h t => by
    by_cases e : k0 = k
    · exact .inr ⟨v, d, valV_pos (p := (k0, v)) e, by unfold lookK; rw [List.find?_cons_of_pos (by simp [keyOf_kD, e])]; rfl, h⟩
    · have e2 : ∀ es, lookK ((kD k0, d) :: es) k = lookK es k := fun es => by
        unfold lookK
        rw [List.find?_cons_of_neg (by simp [keyOf_kD, e])]
      rcases DtK.look k t with ⟨h1, h2⟩ | ⟨v', d', h1, h2, h3⟩
      · exact .inl ⟨by rw [valV_neg (p := (k0, v)) e]; exact h1, by rw [e2]; exact h2⟩
      · exact .inr ⟨v', d', by rw [valV_neg (p := (k0, v)) e]; exact h1, by rw [e2]; exact h2, h3⟩
theorem DtT.look : ∀ {ks : List (List Key × V)} {es : List (D × D)} (k : List Key), DtT G B ks es → (valV ks k = none ∧ lookT es k = none) ∨ ∃ v d, valV ks k = some v ∧ lookT es k = some d ∧ Dt G B v d
  | _, _, k, .nil => .inl ⟨rfl, rfl⟩
  | _, _, k, .cons (k := k0) (v := v) (d := d) h t => by
    by_cases e : k0 = k
    · exact .inr ⟨v, d, valV_pos (p := (k0, v)) e, by unfold lookT; rw [List.find?_cons_of_pos (by simp [tupOf, keysOf_kD, e])]; rfl, h⟩
    · have e2 : ∀ es, lookT ((.tup (k0.map kD), d) :: es) k = lookT es k := fun es => by
        unfold lookT
        rw [List.find?_cons_of_neg (by simp [tupOf, keysOf_kD, e])]
      rcases DtT.look k t with ⟨h1, h2⟩ | ⟨v', d', h1, h2, h3⟩
      · exact .inl ⟨by rw [valV_neg (p := (k0, v)) e]; exact h1, by rw [e2]; exact h2⟩
      · exact .inr ⟨v', d', by rw [valV_neg (p := (k0, v)) e]; exact h1, by rw [e2]; exact h2, h3⟩
/-- what a key is in the heap -/
theorem DtAll.kVs : ∀ {xs : List V} {k : List Key}, DtAll G B xs (k.map kD) → xs = k.map kV
  | [], [], _ => rfl
  | [], _ :: _, h => by cases h
  | _ :: _, [], h => by cases h
  | x :: xs, .inl i :: k, .cons a b => by
    cases a
    rw [DtAll.kVs b]
    rfl
  | x :: xs, .inr i :: k, .cons a b => by
    cases a
    rw [DtAll.kVs b]
    rfl
/-- what the dict at a holds at y, an empty one whatever its kind -/
def DGetX (H : Hp) (a : Addr) (y : V) (r : Option V) : Prop :=
  DGet H a y r ∨ (r = none ∧ ((Rd H a (.dK []) ∧ ∃ (b : Addr) (k : List Key), y = .ref b ∧ H b = some (.tup (k.map kV))) ∨ (Rd H a (.dT []) ∧ ∃ k : Key, y = kV k)))
def RelOpt (G : Gx) (B : Hp) : Option V → Option D → Prop
  | some v, some d => Dt G B v d
  | none, none => True
  | _, _ => False
theorem DtK.all {ks : List (Key × V)} {es : List (D × D)} (h : DtK G B ks es) (n : (es.all fun p => (tupOf p.1).isSome) = true) : ks = [] ∧ es = [] := by
  cases h with
  | nil => exact ⟨rfl, rfl⟩
  | @cons k v kvs d es a b => cases k <;> simp [kD, tupOf] at n
theorem DtT.all {ks : List (List Key × V)} {es : List (D × D)} (h : DtT G B ks es) (n : (es.all fun p => (keyOf p.1).isSome) = true) : ks = [] ∧ es = [] := by
  cases h with
  | nil => exact ⟨rfl, rfl⟩
  | @cons k v kvs d es a b => simp [keyOf] at n
theorem dget_go (w : Wf G B H) {v y : V} {es : List (D × D)} {x : D} {r : Option D} (hv : View G B H v (.dct es)) (hy : View G B H y x) (h : dGet es x = some r) : ∃ a o, v = .ref a ∧ DGetX H a y o ∧ RelOpt G B o r := by
  obtain ⟨a, rfl, _, hd⟩ := hv.dct w
  have sc : ∀ k : Key, y = kV k → (es.all fun p => (keyOf p.1).isSome) = true → r = lookK es k → ∃ a' o, V.ref a = .ref a' ∧ DGetX H a' y o ∧ RelOpt G B o r := by
    rintro k rfl hal rfl
    rcases hd with ⟨ks, h1, h2⟩ | ⟨ks, h1, h2⟩
    · refine ⟨a, valV ks k, rfl, .inl (.inl ⟨ks, k, h1, rfl, rfl⟩), ?_⟩
      rcases h2.look k with ⟨e1, e2⟩ | ⟨v', d', e1, e2, e3⟩
      · rw [e1, e2]; trivial
      · rw [e1, e2]; exact e3
    · obtain ⟨rfl, rfl⟩ := h2.all hal
      exact ⟨a, none, rfl, .inr ⟨rfl, .inr ⟨h1, k, rfl⟩⟩, trivial⟩
  match x, h, hy with
  | .int i, h, hy =>
    simp only [dGet] at h
    split at h
    next hal => exact sc (.inl i) hy.int hal (Option.some.inj h).symm
    next => cases h
  | .str i, h, hy =>
    simp only [dGet] at h
    split at h
    next hal => exact sc (.inr i) hy.str hal (Option.some.inj h).symm
    next => cases h
  | .tup (d :: ds), h, hy =>
    simp only [dGet] at h
    split at h
    next k hk =>
      split at h
      next hal =>
        have er := Option.some.inj h
        subst er
        have eds := keysOf_map hk
        have hdt : Dt G B y (.tup (d :: ds)) := by
          obtain ⟨_, _, _, _, _, q⟩ := hy.tup w
          exact q
        cases hdt with
        | @tup p xs _ hp hxs =>
          rw [eds] at hxs
          have ex := hxs.kVs
          subst ex
          have hp' := w.sub.ex hp rfl
          rcases hd with ⟨ks, h1, h2⟩ | ⟨ks, h1, h2⟩
          · obtain ⟨rfl, rfl⟩ := h2.all hal
            exact ⟨a, none, rfl, .inr ⟨rfl, .inl ⟨h1, p, k, rfl, hp'⟩⟩, trivial⟩
          · refine ⟨a, valV ks k, rfl, .inl (.inr ⟨ks, k, p, h1, rfl, hp', rfl⟩), ?_⟩
            rcases h2.look k with ⟨e1, e2⟩ | ⟨v', d', e1, e2, e3⟩
            · rw [e1, e2]; trivial
            · rw [e1, e2]; exact e3
      next => cases h
    next => cases h
end
section
variable {X : Cx} {pins : List (Addr × Obj)} {σ : L2.St} {H : Hp} {s : Shared} {a : Addr} {y d : V} {u r : Value} {o : Option V} {A : Around} {E : Value → Shared → Prop}
theorem nil_dictOfH (I : Inv X pins σ H s) (h : Rd H a (.dK [])) : (a == sysModules) = false ∧ s.heap.DictOfH (tupleKind (mixKind X.prog X.w)) a [] := by
  obtain ⟨_, hn, vs, kv, o, es, ep, ho, hx, hd, _, hp, _⟩ := dk_rd I.hok h
  cases kv
  have e0 : es.toList = [] := by
    generalize es.toList = l at hp
    cases hp
    rfl
  exact ⟨hn, o, es, ep, ho, hx, hd, by rw [e0]; rfl, fun x hx => by simp at hx, by simp⟩
theorem nil_dictOf (I : Inv X pins σ H s) (h : Rd H a (.dT [])) : (a == sysModules) = false ∧ s.heap.DictOf (mixKind X.prog X.w) a [] := by
  obtain ⟨hn, va, kv, dd⟩ := viewT I h
  cases kv
  exact ⟨hn, dd⟩
theorem dx_in {Q : Value → Shared → Prop} (hu : A.units + 1 < cLine) (I : Inv X pins σ H s) (g : DGetX H a y o) (ry : RelV y u) (h : ∀ s', Inv X pins σ H s' → Q (.bool o.isSome) s') :
    wpAny (model X.prog X.w) A (compareOp .In u (.ref a)) Q E s := by
  rcases g with g | ⟨rfl, ⟨g, b, k, rfl, hb⟩ | ⟨g, k, rfl⟩⟩
  · exact d_in hu I g ry h
  · cases (show u = Value.ref b from ry)
    obtain ⟨hn, dd⟩ := nil_dictOfH I g
    exact wpAny_in_heap (tupleKind_room_in1 hu) (key_of I.hok hb) hn dd (h _ (I.tok _))
  · obtain ⟨hn, dd⟩ := nil_dictOf I g
    exact wpAny_in_of (kV_is ry) hn dd.mapOf (h _ (I.tok _))
theorem dx_notIn {Q : Value → Shared → Prop} (hu : A.units + 1 < cLine) (I : Inv X pins σ H s) (g : DGetX H a y o) (ry : RelV y u) (h : ∀ s', Inv X pins σ H s' → Q (.bool (!o.isSome)) s') :
    wpAny (model X.prog X.w) A (compareOp .NotIn u (.ref a)) Q E s := by
  rcases g with g | ⟨rfl, ⟨g, b, k, rfl, hb⟩ | ⟨g, k, rfl⟩⟩
  · exact d_notIn hu I g ry h
  · cases (show u = Value.ref b from ry)
    obtain ⟨hn, dd⟩ := nil_dictOfH I g
    exact wpAny_notIn_heap (tupleKind_room_in1 hu) (key_of I.hok hb) hn dd (h _ (I.tok _))
  · obtain ⟨hn, dd⟩ := nil_dictOf I g
    exact wpAny_notIn_of (kV_is ry) hn dd.mapOf (h _ (I.tok _))
theorem dx_get1 {Q : Value → Shared → Prop} (hu : A.units + 1 < cLine) (I : Inv X pins σ H s) (g : DGetX H a y o) (ry : RelV y u) (h : ∀ w' s', Inv X pins σ H s' → RelV (o.getD .non) w' → Q w' s') :
    wpAny (model X.prog X.w) A (call (.builtin "dict.get") [.ref a, u]) Q E s := by
  rcases g with g | ⟨rfl, ⟨g, b, k, rfl, hb⟩ | ⟨g, k, rfl⟩⟩
  · exact d_get1 hu I g ry h
  · cases (show u = Value.ref b from ry)
    obtain ⟨hn, dd⟩ := nil_dictOfH I g
    exact call_meetsIn PySem.F.slot_dict_get dd.typeIs PySem.F.entry_dict_get (PySem.F.args_dict_get_2 _ _) (meetsH_dict_get (tupleKind (mixKind X.prog X.w)) a b hn) ⟨tupleKind_room_in1 hu, k, [], key_of I.hok hb, dd, h _ _ (I.tok _) rfl⟩
  · obtain ⟨hn, dd⟩ := nil_dictOf I g
    exact call_meetsIn PySem.F.slot_dict_get dd.typeIs PySem.F.entry_dict_get (PySem.F.args_dict_get_2 _ _) (meets_dict_get (mixKind X.prog X.w) a (kV_is ry) hn) ⟨_, dd.mapOf, h _ _ (I.tok _) rfl⟩
theorem dx_get2 {Q : Value → Shared → Prop} (hu : A.units + 1 < cLine) (I : Inv X pins σ H s) (g : DGetX H a y o) (ry : RelV y u) (rd : RelV d r) (h : ∀ w' s', Inv X pins σ H s' → RelV (o.getD d) w' → Q w' s') :
    wpAny (model X.prog X.w) A (call (.builtin "dict.get") [.ref a, u, r]) Q E s := by
  rcases g with g | ⟨rfl, ⟨g, b, k, rfl, hb⟩ | ⟨g, k, rfl⟩⟩
  · exact d_get2 hu I g ry rd h
  · cases (show u = Value.ref b from ry)
    obtain ⟨hn, dd⟩ := nil_dictOfH I g
    exact call_meetsIn PySem.F.slot_dict_get dd.typeIs PySem.F.entry_dict_get (PySem.F.args_dict_get_3 _ _ _) (meetsH_dict_get_default (tupleKind (mixKind X.prog X.w)) a b hn r) ⟨tupleKind_room_in1 hu, k, [], key_of I.hok hb, dd, h _ _ (I.tok _) rd⟩
  · obtain ⟨hn, dd⟩ := nil_dictOf I g
    exact call_meetsIn PySem.F.slot_dict_get dd.typeIs PySem.F.entry_dict_get (PySem.F.args_dict_get_3 _ _ _) (meets_dict_get_default (mixKind X.prog X.w) a (kV_is ry) hn r) ⟨_, dd.mapOf, h _ _ (I.tok _) rd⟩
end
section
variable {X : Cx} {G : Gx}
/-! ### in -/
def inSeq (x : D) (ys : List D) : Option Bool := if pl x = true ∧ pls ys = true ∧ (toP x).plain = true ∧ PyData.plainAll (toPs ys) = true ∧ (toP x).depth ≤ 60 then some ((toPs ys).any fun z => PyData.eqv z (toP x)) else none
def inD : D → D → Option Bool
  | x, .lst ys => inSeq x ys
  | x, .tup ys => inSeq x ys
  | x, .dct es => (dGet es x).map (·.isSome)
  | .str x, .str z => match x.cps.toList with
    | [c] => some (decide (c ∈ z.cps.toList))
    | _ => some (!(Builtin.Str.occurrences z x 0 z.length 1).isEmpty)
  | _, _ => none
def cIn (x y : D) : Option R := (inD x y).map R.b
def cNotIn (x y : D) : Option R := (inD x y).map fun b => R.b (!b)
theorem in_go {pins : List (Addr × Obj)} {σ : L2.St} {H B : Hp} {s : Shared} {x y : V} {v u : Value} {dx dy : D} {k : Bool} (hK : G.K = X.K) (hu : X.A.units + 65 < cLine) (I : Inv X pins σ H s) (rx : RelV x v) (ry : RelV y u) (w : Wf G B H) (vx : View G B H x dx) (vy : View G B H y dy) (h : inD dx dy = some k) (neg : Bool)
    {Q : Value → Shared → Prop} (q : ∀ s', Inv X pins σ H s' → Q (.bool (if neg = true then !k else k)) s') : wpAny (model X.prog X.w) X.A (compareOp (if neg = true then .NotIn else .In) v u) Q X.xe s := by
  have seq : ∀ ys, inSeq dx ys = some k → (∀ p : pls ys = true, FA.Dt X.K H y (.list (toPs ys)) ∨ FA.Dt X.K H y (.tuple (toPs ys))) → wpAny (model X.prog X.w) X.A (compareOp (if neg = true then .NotIn else .In) v u) Q X.xe s := by
    intro ys h hy
    unfold inSeq at h
    split at h
    next hc =>
      obtain ⟨p1, p2, p3, p4, p5⟩ := hc
      cases h
      obtain ⟨as, r1, _⟩ := FA.Dt.reads I (hK ▸ vx.fa w p1) rx
      have hz : X.A.units + 1 + min (PyData.depthAll (toPs ys)) (toP dx).depth < cLine := by have := Nat.min_le_right (PyData.depthAll (toPs ys)) (toP dx).depth; omega
      rcases hy p2 with hy | hy
      · obtain ⟨bs, r2, _⟩ := FA.Dt.reads I hy ry
        cases neg with
        | true => exact SeqAt.notIn_list_data r2 r1 p4 p3 hz (q _ I)
        | false => exact SeqAt.in_list_data r2 r1 p4 p3 hz (q _ I)
      · obtain ⟨bs, r2, _⟩ := FA.Dt.reads I hy ry
        cases neg with
        | true => exact SeqAt.notIn_tuple_data r2 r1 p4 p3 hz (q _ I)
        | false => exact SeqAt.in_tuple_data r2 r1 p4 p3 hz (q _ I)
    next => cases h
  match dx, dy, h, vx, vy, seq with
  | dx, .lst ys, h, vx, vy, seq => exact seq ys h fun p => .inl (by have := vy.fa w (by simpa [pl] using p); rw [toP] at this; exact hK ▸ this)
  | dx, .tup ys, h, vx, vy, seq => exact seq ys h fun p => .inr (by have := vy.fa w (by simpa [pl] using p); rw [toP] at this; exact hK ▸ this)
  | dx, .dct es, h, vx, vy, _ =>
    simp only [inD] at h
    obtain ⟨r, hr, ek⟩ := Option.map_eq_some_iff.mp h
    obtain ⟨a, o, rfl, g, ro⟩ := dget_go w vy vx hr
    cases (show u = Value.ref a from ry)
    have eo : o.isSome = r.isSome := by cases o <;> cases r <;> first | rfl | exact ro.elim
    cases neg with
    | true => exact dx_notIn (by omega) I g rx fun s' I' => by rw [eo, ek]; exact q s' I'
    | false => exact dx_in (by omega) I g rx fun s' I' => by rw [eo, ek]; exact q s' I'
  | .str a, .str z, h, vx, vy, _ =>
    have ex := vx.str
    have ey := vy.str
    subst ex ey
    simp only [inD] at h
    split at h
    next c ec =>
      cases h
      have ea : a = ⟨#[c]⟩ := by rw [txL_of a, ec]; rfl
      subst ea
      cases neg with
      | true => exact thn (op_notIn_sign pins s σ H _ _ v u (fun v' H' => v' = .bl (!decide (c ∈ z.cps.toList)) ∧ H' = H) I rx ry ⟨c, z, rfl, rfl, rfl, rfl⟩) fun r s' ⟨v', H', I', rv, e1, e2⟩ => by
                  subst e1 e2
                  obtain rfl : r = Value.bool _ := rv
                  exact q s' I'
      | false => exact thn (op_in_sign pins s σ H _ _ v u (fun v' H' => v' = .bl (decide (c ∈ z.cps.toList)) ∧ H' = H) I rx ry ⟨c, z, rfl, rfl, rfl, rfl⟩) fun r s' ⟨v', H', I', rv, e1, e2⟩ => by
                  subst e1 e2
                  obtain rfl : r = Value.bool _ := rv
                  exact q s' I'
    next =>
      cases h
      cases neg with
      | true => exact thn (op_notin_str pins s σ H _ _ v u (fun v' H' => v' = .bl (!(!(Builtin.Str.occurrences z a 0 z.length 1).isEmpty)) ∧ H' = H) I rx ry ⟨a, z, rfl, rfl, rfl, rfl⟩) fun r s' ⟨v', H', I', rv, e1, e2⟩ => by
                  subst e1 e2
                  obtain rfl : r = Value.bool _ := rv
                  exact q s' I'
      | false => exact thn (op_in_str pins s σ H _ _ v u (fun v' H' => v' = .bl (!(Builtin.Str.occurrences z a 0 z.length 1).isEmpty) ∧ H' = H) I rx ry ⟨a, z, rfl, rfl, rfl, rfl⟩) fun r s' ⟨v', H', I', rv, e1, e2⟩ => by
                  subst e1 e2
                  obtain rfl : r = Value.bool _ := rv
                  exact q s' I'
theorem ob_in (hK : G.K = X.K) (hu : X.A.units + 65 < cLine) : OpR X (compareOp .In) (rd2 G cIn) := by
  intro pins s σ H x y v u Q I rx ry h
  obtain ⟨B, dx, dy, r, w, vx, vy, e, q⟩ := h
  obtain ⟨k, hk, er⟩ := Option.map_eq_some_iff.mp e
  subst er
  exact in_go hK hu I rx ry w vx vy hk false fun s' I' => ⟨.bl k, H, I', rfl, q _ H B (Ext.refl w) (Dt.bl _)⟩
theorem ob_notIn (hK : G.K = X.K) (hu : X.A.units + 65 < cLine) : OpR X (compareOp .NotIn) (rd2 G cNotIn) := by
  intro pins s σ H x y v u Q I rx ry h
  obtain ⟨B, dx, dy, r, w, vx, vy, e, q⟩ := h
  obtain ⟨k, hk, er⟩ := Option.map_eq_some_iff.mp e
  subst er
  exact in_go hK hu I rx ry w vx vy hk true fun s' I' => ⟨.bl (!k), H, I', rfl, q _ H B (Ext.refl w) (Dt.bl _)⟩
end
end IP

/-! IP6: subscripts, slices, arguments, displays. -/
namespace IP
open PySem PySem.Spec PyProof.Rows L2 FA
def cutL {α : Type} (xs : List α) (lo hi : Option Int) : List α := (xs.drop (HT.sIx xs.length 0 lo)).take (HT.sIx xs.length xs.length hi - HT.sIx xs.length 0 lo)
section
variable {G : Gx} {B H : Hp}
theorem DtAll.atI {xs : List V} {ds : List D} {i : Int} {d : D} (h : DtAll G B xs ds) (e : atI ds i = some d) : ∃ v, L2.atI xs i = some v ∧ Dt G B v d := by
  unfold L2.atI at e ⊢
  rw [h.len]
  cases q : ixN ds.length i with
  | none => rw [q] at e; cases e
  | some j =>
    rw [q] at e
    exact h.at e
theorem DtAll.cut {xs : List V} {ds : List D} (lo hi : Option Int) (h : DtAll G B xs ds) : DtAll G B (cutV xs lo hi) (cutL ds lo hi) := by
  unfold cutV cutL
  rw [h.len]
  exact (h.drop _).take _
theorem cut_len {xs : List V} {ds : List D} {lo hi : Option Int} (h : DtAll G B xs ds) : (cutL ds lo hi).length = (cutV xs lo hi).length := (h.cut lo hi).len.symm
end
section
variable {X : Cx} {G : Gx}
def ixD : D → D → Option R
  | .lst ds, .int i => (atI ds i).map R.sh
  | .tup ds, .int i => (atI ds i).map R.sh
  | .str z, .int i => if z.length ≤ sizeLine then (atI z.cps.toList i).map fun c => R.sh (.str ⟨#[c]⟩) else none
  | .dct es, k => match dGet es k with
    | some (some d) => some (.sh d)
    | _ => none
  | _, _ => none
theorem ix_dict (hu : X.A.units + 1 < cLine) : IxR X (fun x y H Q => ∃ a v, x = .ref a ∧ DGet H a y (some v) ∧ Q v H) := by
  intro value slice pins s σ H x y v u Q I rx ry h hs
  obtain ⟨a, z, rfl, g, q⟩ := h
  cases (show v = Value.ref a from rx)
  have hT := dict_typeIs I g
  have h2 := d_getItem (A := X.A) (E := X.xe) (Q := EP X pins σ Q) hu I g ry fun w' s3 I3 rw' => ⟨z, H, I3, rw', q⟩
  unfold subscriptTail
  refine wpAny_bind ?_
  rw [getitemInPython_of_ne hT.not_modules]
  refine wpAny_bind (wpAny_specialOf hT PySem.F.slot_dict_getitem.lookup ?_)
  have fin : wpAny (model X.prog X.w) X.A (subscripted slice false (.ref a) u) (fun r s₃ => wpAny (model X.prog X.w) X.A (letTemporaryGo value (.ref a) r >>= fun _ => pure r) (EP X pins σ Q) X.xe s₃) X.xe s := by
    rw [hs]
    exact wpAny_operating (wpAny_mono h2 (fun r s₃ h₃ => wpAny_bind (wpAny_letTemporaryGo (wpAny_pure h₃))) fun _ _ x => x)
  first
    | exact wpAny_pure (wpAny_bind fin)
    | exact wpAny_bind (wpAny_pure (wpAny_bind fin))
    | exact wpAny_bind fin
theorem ob_ix (hK : G.K = X.K) (hu : X.A.units + 1 < cLine) : IxR X (rd2 G ixD) := by
  intro value slice pins s σ H x y v u Q I rx ry h hs
  obtain ⟨B, dx, dy, r, w, vx, vy, e, q⟩ := h
  match dx, dy, e, vx, vy with
  | .lst ds, .int i, e, vx, vy =>
    obtain ⟨d, hd, er⟩ := Option.map_eq_some_iff.mp e
    subst er
    obtain ⟨a, xs, rfl, _, ha, k⟩ := vx.lst w
    obtain ⟨z, hz, kz⟩ := k.atI hd
    exact ix_list value slice pins s σ H _ _ v u Q I rx ry ⟨a, xs, i, z, rfl, vy.int, SqL.of ha, hz, q _ H B (Ext.refl w) kz⟩ hs
  | .tup ds, .int i, e, vx, vy =>
    obtain ⟨d, hd, er⟩ := Option.map_eq_some_iff.mp e
    subst er
    obtain ⟨a, xs, rfl, ha, k, _⟩ := vx.tup w
    obtain ⟨z, hz, kz⟩ := k.atI hd
    exact ix_tup value slice pins s σ H _ _ v u Q I rx ry ⟨a, xs, i, z, rfl, vy.int, hK ▸ ha, hz, q _ H B (Ext.refl w) kz⟩ hs
  | .str z, .int i, e, vx, vy =>
    simp only [ixD] at e
    split at e
    next hz =>
      obtain ⟨c, hc, er⟩ := Option.map_eq_some_iff.mp e
      subst er
      exact ix_str value slice pins s σ H _ _ v u Q I rx ry ⟨z, i, c, vx.str, vy.int, hz, hc, q _ H B (Ext.refl w) (Dt.str _)⟩ hs
    next => cases e
  | .dct es, k, e, vx, vy =>
    simp only [ixD] at e
    split at e
    next d hd =>
      cases e
      obtain ⟨a, o, rfl, g, ro⟩ := dget_go w vx vy hd
      cases o with
      | none => exact ro.elim
      | some z =>
        rcases g with g | ⟨g, _⟩
        · exact ix_dict hu value slice pins s σ H _ _ v u Q I rx ry ⟨a, z, rfl, g, q _ H B (Ext.refl w) ro⟩ hs
        · cases g
    next => cases e
end
section
variable {X : Cx} {F : Fx} {G : Gx} {B B1 B2 H H1 H2 : Hp} {e a b : Expr} {pos : Pos}
theorem se_ix {sem : D → D → Option R} {ma mb : Env → M R} (ho : IxR X (rd2 F.G sem)) (ha : PE X a (rdE F ma)) (hb : PE X b (rdE F mb)) (hs : PlainIx b) :
    PE X (.Subscript a b pos) (rdE F fun env => do let x ← ma env; let y ← mb env; M.opt (sem x.d y.d)) := pe_imp (pe_ix ho ha hb hs) fun _ _ _ => rd2_go
/-! ### slices -/
def rdO (F : Fx) (m : Env → M (Option Int)) : TO := fun σ H Q => ∃ B env Q0 E0, F.Sf B H σ env ∧ m env Q0 E0 ∧ (∀ r, Q0 r → ∀ H' B', Ext F.G B H B' H' → Q r H') ∧
  ∀ x, E0 x → ∀ cls d H' B', Ext F.G B H B' H' → ExnR F.G B' H' x cls d → F.W cls d σ H'
theorem po_imp {e : Option Expr} {t t' : TO} (h : PO X e t) (i : ∀ σ H Q, t' σ H Q → t σ H Q) : PO X e t' := ⟨fun pins s σ H Q I q => h.run pins s σ H Q I (i σ H Q q)⟩
theorem so_none : PO X none (rdO F fun _ => pure none) := po_imp po_none fun σ H Q ⟨B, env, Q0, E0, s, h, hq, hx⟩ => hq _ h H B (Ext.refl s.wf)
def asI : D → Option Int
  | .int i => some i
  | _ => none
theorem so_some {m : Env → M R} (h : PE X e (rdE F m)) : PO X (some e) (rdO F fun env => do let x ← m env; let i ← M.opt (asI x.d); pure (some i)) := by
  refine po_imp (po_some h) ?_
  rintro σ H Q ⟨B, env, Q0, E0, s, h, hq, hx⟩
  refine rdE_step s h (fun rx h1 x H1 B1 e1 r1 => ?_) hx
  obtain ⟨k, ek, h2⟩ := opt_run h1
  have v1 := r1.view s.wf e1
  have ed : rx.d = .int k := by
    cases q : rx.d <;> rw [q] at ek <;> simp [asI] at ek
    rw [ek]
  rw [ed] at v1
  exact ⟨k, v1.int, hq _ h2 H1 B1 e1⟩
def slD : D → Option Int → Option Int → Option R
  | .lst ds, lo, hi => some (.ow (.lst (cutL ds lo hi)))
  | .tup ds, lo, hi => some (.sh (.tup (cutL ds lo hi)))
  | .str z, lo, hi => if z.length ≤ sizeLine then some (.sh (.str (cutS z lo hi))) else none
  | _, _, _ => none
def rdSl (G : Gx) : V → Option Int → Option Int → Hp → VK → Prop := fun x lo hi H Q => ∃ B dx r, Wf G B H ∧ View G B H x dx ∧ slD dx lo hi = some r ∧ ∀ v H' B', Ext G B H B' H' → RelR G H B' H' v r → Q v H'
theorem sIx_whole {α : Type} {xs : List α} {lo hi : Option Int} (h : HT.sIx xs.length 0 lo = 0 ∧ HT.sIx xs.length xs.length hi = xs.length) : cutL xs lo hi = xs := by
  unfold cutL
  rw [h.1, h.2]
  simp
theorem ob_sl (hK : G.K = X.K) : SlR X (rdSl G) := by
  intro pins s σ H x v vl vu lo hi sl Q I rx hs pl pu h
  obtain ⟨B, dx, r, w, vx, e, q⟩ := h
  match dx, e, vx with
  | .lst ds, e, vx =>
    cases e
    obtain ⟨a, xs, rfl, _, ha, k⟩ := vx.lst w
    refine sl_list pins s σ H _ v vl vu lo hi sl Q I rx hs pl pu ⟨a, xs, rfl, SqL.of ha, fun p hp => ?_⟩
    exact q _ _ B (Ext.lay w _ hp) ⟨p, _, rfl, hp, w.sub.free hp, upd_same, _, rfl, k.cut lo hi⟩
  | .tup ds, e, vx =>
    cases e
    obtain ⟨a, xs, rfl, ha, k, va⟩ := vx.tup w
    refine sl_tupA pins s σ H _ v vl vu lo hi sl Q I rx hs pl pu ⟨a, xs, rfl, hK ▸ ha, fun z => ?_, fun _ p hp => ?_⟩
    · rw [k.len] at z
      rw [sIx_whole z] at q
      exact q _ H B (Ext.refl w) va
    · exact q _ _ _ (Ext.put w _ hp tupNF) (Dt.tup upd_same ((k.cut lo hi).same (Ext.put w _ hp tupNF).bb))
  | .str z, e, vx =>
    simp only [slD] at e
    split at e
    next hz =>
      cases e
      exact sl_str pins s σ H _ v vl vu lo hi sl Q I rx hs pl pu ⟨z, vx.str, hz, q _ H B (Ext.refl w) (Dt.str _)⟩
    next => cases e
theorem se_sl {lo hi : Option Expr} {p2 : Pos} {me : Env → M R} {ml mh : Env → M (Option Int)} (hK : F.G.K = X.K) (he : PE X e (rdE F me)) (hl : PO X lo (rdO F ml)) (hh : PO X hi (rdO F mh)) :
    PE X (.Subscript e (.Slice lo hi none p2) pos) (rdE F fun env => do let x ← me env; let l ← ml env; let h ← mh env; M.opt (slD x.d l h)) := by
  refine pe_imp (pe_slice (ob_sl hK) he hl hh) ?_
  rintro σ H Q ⟨B, env, Q0, E0, s, h, hq, hx⟩
  refine rdE_step s h (fun rx h1 x H1 B1 e1 r1 => ?_) hx
  have s1 := s.ext1 e1
  refine ⟨B1, env, _, E0, s1, h1, fun l h2 H2 B2 e2 => ?_, fun xn hxn cls d H' B' e' k => hx xn hxn cls d H' B' (e1.trans e') k⟩
  have s2 := s1.ext1 e2
  refine ⟨B2, env, _, E0, s2, h2, fun u h3 H3 B3 e3 => ?_, fun xn hxn cls d H' B' e' k => hx xn hxn cls d H' B' ((e1.trans e2).trans e') k⟩
  have s3 := s2.ext1 e3
  obtain ⟨r, er, h4⟩ := opt_run h3
  exact ⟨B3, rx.d, r, s3.wf, ((r1.view s.wf e1).ext e2).ext e3, er, fun v H' B' e4 r4 => hq r h4 v H' B' (((e1.trans e2).trans e3).trans e4) (((r4.back e3).back e2).back e1)⟩
/-! ### arguments -/
theorem RelRs.ext : ∀ {vs : List V} {rs : List R}, RelRs G H B1 H1 vs rs → Ext G B1 H1 B2 H2 → H1 G.b ≠ none → H G.b ≠ none → RelRs G H B2 H2 vs rs
  | _, _, .nil, _, _, _ => .nil
  | _, _, .cons a b c, e, w, hb => .cons (a.ext e w hb) (b.ext e w hb) c
theorem RelRs.back : ∀ {vs : List V} {rs : List R}, RelRs G H1 B2 H2 vs rs → Ext G B H B1 H1 → RelRs G H B2 H2 vs rs
  | _, _, .nil, _ => .nil
  | _, _, .cons a b c, e => .cons (a.back e) (b.back e) c
theorem RelRs.app : ∀ {vs us : List V} {ds : List D} {qs : List R}, DtAll G B1 vs ds → RelRs G H B1 H1 us qs → RelRs G H B1 H1 (vs ++ us) (ds.map R.sh ++ qs)
  | _, _, _, _, .nil, k => k
  | _, _, _, _, .cons a b, k => .cons a (RelRs.app b k) fun _ _ _ z => nomatch z
theorem RelRs.fresh : ∀ {vs : List V} {rs : List R} {a : Addr}, RelRs G H B1 H1 vs rs → owAt vs rs a → H a = none
  | _, _, a, .nil, ⟨i, d, h, _⟩ => by simp at h
  | _, _, a, .cons x y z, ⟨0, d, h, k⟩ => by
    simp at h k
    subst h k
    obtain ⟨a', o, e, n, _⟩ := x
    cases e
    exact n
  | _, _, a, .cons x y z, ⟨i + 1, d, h, k⟩ => RelRs.fresh y ⟨i, d, by simpa using h, by simpa using k⟩
theorem rdA_step {m : Env → M (List R)} {σ : L2.St} {env : Env} {Q0 : List R → Prop} {E0 : Xn → Prop} {Q : List V → Hp → Prop} (s : F.Sf B H σ env) (h : m env Q0 E0) (hq : ∀ r, Q0 r → ∀ vs H' B', Ext F.G B H B' H' → RelRs F.G H B' H' vs r → Q vs H')
    (hx : ∀ x, E0 x → ∀ cls d H' B', Ext F.G B H B' H' → ExnR F.G B' H' x cls d → F.W cls d σ H') : rdA F m σ H Q := ⟨B, env, Q0, E0, s, h, hq, hx⟩
theorem sa_nil : PA X [] (rdA F fun _ => pure []) := pa_imp pa_nil fun σ H Q ⟨B, env, Q0, E0, s, h, hq, hx⟩ => hq _ h [] H B (Ext.refl s.wf) .nil
theorem sa_cons {es : List Expr} {m : Env → M R} {ms : Env → M (List R)} (he : PE X e (rdE F m)) (hr : PA X es (rdA F ms)) (hs : starEach (e :: es) X.env = (false, eval e X.env) :: starEach es X.env) :
    PA X (e :: es) (rdA F fun env => do let r ← m env; let rs ← ms env; pure (r :: rs)) := by
  refine pa_imp (pa_cons he hr hs) ?_
  rintro σ H Q ⟨B, env, Q0, E0, s, h, hq, hx⟩
  refine rdE_step s h (fun rx h1 x H1 B1 e1 r1 => ?_) hx
  have s1 := s.ext1 e1
  refine rdA_step s1 h1 (fun rs h2 vs H2 B2 e2 r2 => ?_) fun xn hxn cls d H' B' e' k => hx xn hxn cls d H' B' (e1.trans e') k
  exact hq _ h2 _ H2 B2 (e1.trans e2) (.cons (r1.ext e2 (bagN s1.wf) (bagN s.wf)) (r2.back e1) fun a d ev er ha => by
    subst ev er
    obtain ⟨a', o, e, _, _, e3, _⟩ := r1
    cases e
    rw [r2.fresh ha] at e3
    cases e3)
def seqD : D → Option (List D)
  | .lst ds => some ds
  | .tup ds => some ds
  | _ => none
theorem sa_star {es : List Expr} {p : Pos} {m : Env → M R} {ms : Env → M (List R)} (hK : F.G.K = X.K) (he : PE X e (rdE F m)) (hr : PA X es (rdA F ms)) (hs : starEach (.Starred e p :: es) X.env = (true, eval e X.env) :: starEach es X.env) :
    PA X (.Starred e p :: es) (rdA F fun env => do let r ← m env; let ds ← M.opt (seqD r.d); let rs ← ms env; pure (ds.map R.sh ++ rs)) := by
  refine pa_imp (StX.pa_star he hr hs) ?_
  rintro σ H Q ⟨B, env, Q0, E0, s, h, hq, hx⟩
  refine rdE_step s h (fun rx h1 x H1 B1 e1 r1 => ?_) hx
  have s1 := s.ext1 e1
  obtain ⟨ds, eds, h2⟩ := opt_run h1
  have v1 := r1.view s.wf e1
  have seq : ∃ a xs, x = .ref a ∧ (SqT X.K H1 a xs ∨ SqL X.K H1 a xs) ∧ DtAll F.G B1 xs ds := by
    generalize rx.d = dd at eds v1
    match dd, eds, v1 with
    | .lst _, rfl, v1 =>
      obtain ⟨a, xs, rfl, _, ha, k⟩ := v1.lst s1.wf
      exact ⟨a, xs, rfl, .inr (SqL.of ha), k⟩
    | .tup _, rfl, v1 =>
      obtain ⟨a, xs, rfl, ha, k, _⟩ := v1.tup s1.wf
      exact ⟨a, xs, rfl, .inl (hK ▸ ha), k⟩
  obtain ⟨a, xs, rfl, hs', k⟩ := seq
  refine ⟨a, xs, rfl, hs', ?_⟩
  refine rdA_step s1 h2 (fun rs h3 vs H2 B2 e2 r2 => ?_) fun xn hxn cls d H' B' e' k => hx xn hxn cls d H' B' (e1.trans e') k
  exact hq _ h3 _ H2 B2 (e1.trans e2) (RelRs.app (k.same e2.bb) (r2.back e1))
/-- what leaves the hands of the def -/
def R.esc : R → Option D
  | .sh d => some d
  | .ow d => some d
  | .bw _ => none
def escs : List R → Option (List D)
  | [] => some []
  | r :: rs => match r.esc, escs rs with
    | some d, some ds => some (d :: ds)
    | _, _ => none
theorem RelR.escape (w : Wf G B H) (e : Ext G B H B1 H1) {v : V} {r : R} {d : D} (h : RelR G H B1 H1 v r) (he : r.esc = some d) : ∃ B2, Same B1 B2 ∧ Ext G B H B2 H1 ∧ Dt G B2 v d ∧ ∀ a o, B2 a = some o → B1 a = some o ∨ H a = none := by
  match r, h, he with
  | .sh d', h, he =>
    cases he
    exact ⟨B1, Same.refl _, e, h, fun a o q => .inl q⟩
  | .ow d', ⟨a, o, e1, n, n1, e2, k⟩, he =>
    cases he
    subst e1
    obtain ⟨nb, nc⟩ := w.bag.neb n
    obtain ⟨s1, w1⟩ := Ext.into (w.ext e) e2 n1 nb nc k.nof
    have nw : ∀ x u, upd B1 a o x = some u → B1 x = some u ∨ H x = none := fun x u q => by
      by_cases z : x = a
      · subst z; exact .inr n
      · rw [upd_ne z] at q; exact .inl q
    refine ⟨_, s1, ⟨e.kp, e.bb.trans s1, w1.sub, w1.nf, fun x u q => ?_, e.bag⟩, (k.keep (.of s1)).dt upd_same, nw⟩
    rcases nw x u q with q | q
    · exact e.new x u q
    · exact .inr (.inl q)
/-- the base widened by what the results hold; the rest stays what it is -/
theorem RelRs.escape : ∀ {vs : List V} {rs : List R} {ds : List D} {B1 : Hp}, Wf G B H → Ext G B H B1 H1 → RelRs G H B1 H1 vs rs → escs rs = some ds → ∃ B2, Same B1 B2 ∧ Ext G B H B2 H1 ∧ DtAll G B2 vs ds
  | _, _, _, B1, w, e, .nil, he => by
    cases he
    exact ⟨B1, Same.refl _, e, .nil⟩
  | _, _, _, B1, w, e, .cons (v := v) (r := r) (vs := vs) (rs := rs) h t _, he => by
    simp only [escs] at he
    split at he
    next d ds h1 h2 =>
      cases he
      obtain ⟨B2, s2, e2, k2⟩ := RelRs.escape w e t h2
      match r, h, h1 with
      | .sh d', h, h1 =>
        cases h1
        exact ⟨B2, s2, e2, .cons (Dt.same s2 h) k2⟩
      | .ow d', ⟨a, o, q1, n, n1, q2, k⟩, h1 =>
        cases h1
        subst q1
        cases qb : B2 a with
        | none =>
          obtain ⟨B3, s3, e3, k3, _⟩ := RelR.escape (v := .ref a) (r := .ow d) (d := d) w e2 ⟨a, o, rfl, n, qb, q2, k.keep (.of s2)⟩ rfl
          exact ⟨B3, s2.trans s3, e3, .cons k3 (k2.same s3)⟩
        | some u =>
          have hu : u = o := by
            rcases e2.sub a u qb with z | ⟨_, od, z⟩
            · rw [q2] at z; exact (Option.some.inj z).symm
            · rw [q2] at z; exact absurd (Option.some.inj z) (k.nof _ _)
          subst hu
          exact ⟨B2, s2, e2, .cons ((k.keep (.of s2)).dt qb) k2⟩
    next => cases he
/-! ### displays -/
theorem se_lst {es : List Expr} {ms : Env → M (List R)} (h : PA X es (rdA F ms)) : PE X (.List es pos) (rdE F fun env => do let rs ← ms env; let ds ← M.opt (escs rs); M.opt (if ds.length ≤ sizeLine then some (R.ow (.lst ds)) else none)) := by
  refine pe_imp (pe_lst h) ?_
  rintro σ H Q ⟨B, env, Q0, E0, s, h, hq, hx⟩
  refine rdA_step s h (fun rs h1 vs H1 B1 e1 r1 => ?_) hx
  obtain ⟨ds, he, h2⟩ := opt_run h1
  obtain ⟨r, er, h3⟩ := opt_run h2
  split at er
  next hz =>
    cases er
    obtain ⟨B2, s2, e2, k⟩ := r1.escape s.wf e1 he
    have w2 := s.wf.ext e2
    refine ⟨by rw [k.len]; exact hz, fun p hp => hq _ h3 _ _ B2 (e2.trans (Ext.lay w2 _ hp)) ⟨p, _, rfl, e2.free hp, w2.sub.free hp, upd_same, _, rfl, k⟩⟩
  next => cases er
theorem se_tup {es : List Expr} {x1 : Nat} {ms : Env → M (List R)} (h : PA X es (rdA F ms)) : PE X (.Tuple es x1 pos) (rdE F fun env => do let rs ← ms env; let ds ← M.opt (escs rs); M.opt (if ds.length ≤ sizeLine then some (R.sh (.tup ds)) else none)) := by
  refine pe_imp (pe_tup h) ?_
  rintro σ H Q ⟨B, env, Q0, E0, s, h, hq, hx⟩
  refine rdA_step s h (fun rs h1 vs H1 B1 e1 r1 => ?_) hx
  obtain ⟨ds, he, h2⟩ := opt_run h1
  obtain ⟨r, er, h3⟩ := opt_run h2
  split at er
  next hz =>
    cases er
    obtain ⟨B2, s2, e2, k⟩ := r1.escape s.wf e1 he
    have w2 := s.wf.ext e2
    refine ⟨by rw [k.len]; exact hz, fun p hp => hq _ h3 _ _ _ (e2.trans (Ext.put w2 _ hp tupNF)) (Dt.tup upd_same (k.same (Ext.put w2 _ hp tupNF).bb))⟩
  next => cases er
end
end IP

/-! IP7: built-in functions called with values. -/
namespace IP
open PySem PySem.Spec PyProof.Rows L2 FA
inductive Views (G : Gx) (B H : Hp) : List V → List D → Prop
  | nil : Views G B H [] []
  | cons {v : V} {d : D} {vs : List V} {ds : List D} : View G B H v d → Views G B H vs ds → Views G B H (v :: vs) (d :: ds)
section
variable {X : Cx} {F : Fx} {G : Gx} {B B1 B2 H H1 H2 : Hp} {e a b : Expr} {pos p : Pos}
theorem RelRs.views (w : Wf G B H) (e : Ext G B H B1 H1) : ∀ {vs : List V} {rs : List R}, RelRs G H B1 H1 vs rs → Views G B1 H1 vs (rs.map R.d)
  | _, _, .nil => .nil
  | _, _, .cons a b _ => .cons (a.view w e) (RelRs.views w e b)
def rdN (G : Gx) (sem : List D → Option R) : List V → Hp → VK → Prop := fun xs H Q => ∃ B ds r, Wf G B H ∧ Views G B H xs ds ∧ sem ds = some r ∧ ∀ v H' B', Ext G B H B' H' → RelR G H B' H' v r → Q v H'
theorem rdN_go {ms : Env → M (List R)} {sem : List D → Option R} {σ : L2.St} {Q : VK} (h : rdE F (fun env => do let rs ← ms env; M.opt (sem (rs.map R.d))) σ H Q) : rdA F ms σ H fun xs H1 => rdN F.G sem xs H1 Q := by
  obtain ⟨B, env, Q0, E0, s, h, hq, hx⟩ := h
  refine rdA_step s h (fun rs h1 vs H1 B1 e1 r1 => ?_) hx
  obtain ⟨r, er, h2⟩ := opt_run h1
  exact ⟨B1, _, r, s.wf.ext e1, r1.views s.wf e1, er, fun v H' B' e3 r3 => hq r h2 v H' B' (e1.trans e3) (r3.back e1)⟩
theorem se_callB {x : Str} {id : String} {es : List Expr} {ms : Env → M (List R)} {sem : List D → Option R} (hc : CallR X (.builtin id) (rdN F.G sem)) (hg : Gl X x) (hm : X.mg x = none) (hv : bootBuiltins x = some (.builtin id)) (ha : PA X (e :: es) (rdA F ms)) (hn : x ≠ "__name__") (hdb : (x == ("__debug__" : Str)) = false)
    (he : starEach (e :: es) X.env = (false, eval e X.env) :: starEach es X.env) (hpl : (backTo pos (starEach es X.env)).any (·.1) = false) : PE X (.Call (.Name x p) (e :: es) [] pos) (rdE F fun env => do let rs ← ms env; M.opt (sem (rs.map R.d))) :=
  pe_imp (pe_callB hc hg hm hv ha hn hdb he hpl) fun _ _ _ => rdN_go
theorem se_callTy {x : Str} {T : String} {es : List Expr} {ms : Env → M (List R)} {sem : List D → Option R} (hc : CallR X (.type T) (rdN F.G sem)) (hg : Gl X x) (hm : X.mg x = none) (hv : bootBuiltins x = some (.type T)) (ha : PA X (e :: es) (rdA F ms)) (hn : x ≠ "__name__") (hdb : (x == ("__debug__" : Str)) = false)
    (he : starEach (e :: es) X.env = (false, eval e X.env) :: starEach es X.env) (hpl : (backTo pos (starEach es X.env)).any (·.1) = false) : PE X (.Call (.Name x p) (e :: es) [] pos) (rdE F fun env => do let rs ← ms env; M.opt (sem (rs.map R.d))) :=
  pe_imp (pe_callTy hc hg hm hv ha hn hdb he hpl) fun _ _ _ => rdN_go
theorem Views.one {xs : List V} {d : D} (h : Views G B H xs [d]) : ∃ v, xs = [v] ∧ View G B H v d := by
  cases h with
  | cons a b => cases b; exact ⟨_, rfl, a⟩
theorem Views.two {xs : List V} {d d' : D} (h : Views G B H xs [d, d']) : ∃ v v', xs = [v, v'] ∧ View G B H v d ∧ View G B H v' d' := by
  cases h with
  | cons a b =>
    obtain ⟨v', e, b'⟩ := b.one
    subst e
    exact ⟨_, _, rfl, a, b'⟩
/-! ### len -/
def fLen : List D → Option R
  | [.lst ds] => some (R.i ds.length)
  | [.tup ds] => some (R.i ds.length)
  | [.dct es] => some (R.i es.length)
  | [.str z] => if z.length ≤ sizeLine then some (R.i z.length) else none
  | _ => none
theorem DtK.len : ∀ {ks : List (Key × V)} {es : List (D × D)}, DtK G B ks es → ks.length = es.length
  | _, _, .nil => rfl
  | _, _, .cons _ t => by rw [List.length_cons, List.length_cons, t.len]
theorem DtT.len : ∀ {ks : List (List Key × V)} {es : List (D × D)}, DtT G B ks es → ks.length = es.length
  | _, _, .nil => rfl
  | _, _, .cons _ t => by rw [List.length_cons, List.length_cons, t.len]
theorem ob_len (hK : G.K = X.K) : CallR X (.builtin "len") (rdN G fLen) := by
  intro pins s σ H xs us Q I r h
  obtain ⟨B, ds, r', w, vs, e, q⟩ := h
  match ds, e, vs with
  | [.lst ds], e, vs =>
    cases e
    obtain ⟨v, rfl, vx⟩ := vs.one
    obtain ⟨a, ys, rfl, _, ha, k⟩ := vx.lst w
    exact call_len_seq pins s σ H _ us Q I r ⟨a, ys, rfl, .inl (SqL.of ha), by rw [k.len]; exact q _ H B (Ext.refl w) (Dt.int _)⟩
  | [.tup ds], e, vs =>
    cases e
    obtain ⟨v, rfl, vx⟩ := vs.one
    obtain ⟨a, ys, rfl, ha, k, _⟩ := vx.tup w
    exact call_len_seq pins s σ H _ us Q I r ⟨a, ys, rfl, .inr (hK ▸ ha), by rw [k.len]; exact q _ H B (Ext.refl w) (Dt.int _)⟩
  | [.dct es], e, vs =>
    cases e
    obtain ⟨v, rfl, vx⟩ := vs.one
    obtain ⟨a, rfl, _, hd⟩ := vx.dct w
    obtain ⟨u, rfl, ru⟩ := vals1 r
    obtain rfl : u = .ref a := ru
    rcases hd with ⟨ks, h1, h2⟩ | ⟨ks, h1, h2⟩
    · exact d_len I h1 fun t s' I' => ⟨.int ks.length, H, I', ⟨t, rfl⟩, by rw [h2.len]; exact q _ H B (Ext.refl w) (Dt.int _)⟩
    · obtain ⟨z, hd, ys, rel, dd⟩ := dt_rd I.hok h1
      have hl : ks.length = ys.length := Paired.length rel
      refine call_len_dictH hd dd (by rw [← hl]; rw [sizeLine_eq] at z; omega) ?_
      rw [← hl, h2.len]
      exact ⟨.int es.length, H, I.tok _, ⟨_, rfl⟩, q _ H B (Ext.refl w) (Dt.int _)⟩
  | [.str z], e, vs =>
    simp only [fLen] at e
    split at e
    next hz =>
      cases e
      obtain ⟨v, rfl, vx⟩ := vs.one
      exact call_len_str pins s σ H _ us Q I r ⟨z, by rw [vx.str], hz, q _ H B (Ext.refl w) (Dt.int _)⟩
    next => cases e
/-! ### intsD -/
def intsD : List D → Option (List Int)
  | [] => some []
  | .int i :: r => (intsD r).map (i :: ·)
  | _ => none
def boolsD : List D → Option (List Bool)
  | [] => some []
  | .bl i :: r => (boolsD r).map (i :: ·)
  | _ => none
theorem intsD_vs : ∀ {ds : List D} {ns : List Int} {xs : List V}, intsD ds = some ns → DtAll G B xs ds → xs = ns.map V.int
  | [], ns, xs, h, k => by simp [intsD] at h; subst h; cases k; rfl
  | d :: ds, ns, xs, h, k => by
    match d, h, k with
    | .int i, h, .cons a b =>
      simp only [intsD] at h
      obtain ⟨m, hm, e⟩ := Option.map_eq_some_iff.mp h
      subst e
      cases a
      rw [intsD_vs hm b]
      rfl
theorem boolsD_vs : ∀ {ds : List D} {ns : List Bool} {xs : List V}, boolsD ds = some ns → DtAll G B xs ds → xs = ns.map V.bl
  | [], ns, xs, h, k => by simp [boolsD] at h; subst h; cases k; rfl
  | d :: ds, ns, xs, h, k => by
    match d, h, k with
    | .bl i, h, .cons a b =>
      simp only [boolsD] at h
      obtain ⟨m, hm, e⟩ := Option.map_eq_some_iff.mp h
      subst e
      cases a
      rw [boolsD_vs hm b]
      rfl
def fAbs : List D → Option R
  | [.int i] => some (R.i (if i < 0 then -i else i))
  | _ => none
theorem ob_abs : CallR X (.builtin "abs") (rdN G fAbs) := by
  intro pins s σ H xs us Q I r h
  obtain ⟨B, ds, r', w, vs, e, q⟩ := h
  match ds, e, vs with
  | [.int i], e, vs =>
    cases e
    obtain ⟨v, rfl, vx⟩ := vs.one
    exact call_abs pins s σ H _ us Q I r ⟨i, by rw [vx.int], q _ H B (Ext.refl w) (Dt.int _)⟩
/-- the greatest of a list -/
def maxL : List Int → Int
  | [] => 0
  | [i] => i
  | i :: r => max i (maxL r)
def minL : List Int → Int
  | [] => 0
  | [i] => i
  | i :: r => min i (minL r)
theorem maxL_le : ∀ {l : List Int} {y : Int}, y ∈ l → y ≤ maxL l
  | [i], y, h => by simp at h; subst h; exact Int.le_refl _
  | i :: j :: r, y, h => by
    have ih := @maxL_le (j :: r)
    simp only [maxL]
    rcases List.mem_cons.mp h with rfl | h
    · exact Int.le_max_left _ _
    · exact Int.le_trans (ih h) (Int.le_max_right _ _)
theorem maxL_mem : ∀ {l : List Int}, l ≠ [] → maxL l ∈ l
  | [i], _ => by simp [maxL]
  | i :: j :: r, _ => by
    have ih := @maxL_mem (j :: r) (by simp)
    simp only [maxL]
    rcases Int.le_total i (maxL (j :: r)) with h | h
    · rw [Int.max_eq_right h]; exact List.mem_cons_of_mem _ ih
    · rw [Int.max_eq_left h]; exact List.mem_cons_self
theorem minL_le : ∀ {l : List Int} {y : Int}, y ∈ l → minL l ≤ y
  | [i], y, h => by simp at h; subst h; exact Int.le_refl _
  | i :: j :: r, y, h => by
    have ih := @minL_le (j :: r)
    simp only [minL]
    rcases List.mem_cons.mp h with rfl | h
    · exact Int.min_le_left _ _
    · exact Int.le_trans (Int.min_le_right _ _) (ih h)
theorem minL_mem : ∀ {l : List Int}, l ≠ [] → minL l ∈ l
  | [i], _ => by simp [minL]
  | i :: j :: r, _ => by
    have ih := @minL_mem (j :: r) (by simp)
    simp only [minL]
    rcases Int.le_total i (minL (j :: r)) with h | h
    · rw [Int.min_eq_left h]; exact List.mem_cons_self
    · rw [Int.min_eq_right h]; exact List.mem_cons_of_mem _ ih
def fMax : List D → Option R
  | [.int i, .int j] => some (R.i (if j > i then j else i))
  | [.lst ds] => match intsD ds with
    | some (n :: ns) => some (R.i (maxL (n :: ns)))
    | _ => none
  | _ => none
def fMin : List D → Option R
  | [.int i, .int j] => some (R.i (if j < i then j else i))
  | [.lst ds] => match intsD ds with
    | some (n :: ns) => some (R.i (minL (n :: ns)))
    | _ => none
  | _ => none
theorem ob_max (hK : G.K = X.K) (hc : X.calm = true) : CallR X (.builtin "max") (rdN G fMax) := by
  intro pins s σ H xs us Q I r h
  obtain ⟨B, ds, r', w, vs, e, q⟩ := h
  match ds, e, vs with
  | [.int i, .int j], e, vs =>
    cases e
    obtain ⟨v, v', rfl, vx, vy⟩ := vs.two
    exact call_max2 hc pins s σ H _ us Q I r ⟨i, j, by rw [vx.int, vy.int], q _ H B (Ext.refl w) (Dt.int _)⟩
  | [.lst ds], e, vs =>
    simp only [fMax] at e
    split at e
    next n ns hn =>
      cases e
      obtain ⟨v, rfl, vx⟩ := vs.one
      obtain ⟨a, ys, rfl, _, ha, k⟩ := vx.lst w
      have ey := intsD_vs hn k
      subst ey
      refine cr_max hc pins s σ H _ us Q I r ⟨a, n :: ns, rfl, SqL.of ha, by simp, fun m hm h1 => ?_⟩
      have : m = maxL (n :: ns) := Int.le_antisymm (maxL_le hm) (h1 _ (maxL_mem (by simp)))
      subst this
      exact q _ H B (Ext.refl w) (Dt.int _)
    next => cases e
theorem ob_min (hK : G.K = X.K) (hc : X.calm = true) : CallR X (.builtin "min") (rdN G fMin) := by
  intro pins s σ H xs us Q I r h
  obtain ⟨B, ds, r', w, vs, e, q⟩ := h
  match ds, e, vs with
  | [.int i, .int j], e, vs =>
    cases e
    obtain ⟨v, v', rfl, vx, vy⟩ := vs.two
    exact call_min2 hc pins s σ H _ us Q I r ⟨i, j, by rw [vx.int, vy.int], q _ H B (Ext.refl w) (Dt.int _)⟩
  | [.lst ds], e, vs =>
    simp only [fMin] at e
    split at e
    next n ns hn =>
      cases e
      obtain ⟨v, rfl, vx⟩ := vs.one
      obtain ⟨a, ys, rfl, _, ha, k⟩ := vx.lst w
      have ey := intsD_vs hn k
      subst ey
      refine cr_min hc pins s σ H _ us Q I r ⟨a, n :: ns, rfl, SqL.of ha, by simp, fun m hm h1 => ?_⟩
      have : m = minL (n :: ns) := Int.le_antisymm (h1 _ (minL_mem (by simp))) (minL_le hm)
      subst this
      exact q _ H B (Ext.refl w) (Dt.int _)
    next => cases e
def fSum : List D → Option R
  | [.lst ds] => (intsD ds).map fun ns => R.i ns.sum
  | _ => none
theorem ob_sum (hc : X.calm = true) : CallR X (.builtin "sum") (rdN G fSum) := by
  intro pins s σ H xs us Q I r h
  obtain ⟨B, ds, r', w, vs, e, q⟩ := h
  match ds, e, vs with
  | [.lst ds], e, vs =>
    obtain ⟨ns, hn, er⟩ := Option.map_eq_some_iff.mp e
    subst er
    obtain ⟨v, rfl, vx⟩ := vs.one
    obtain ⟨a, ys, rfl, _, ha, k⟩ := vx.lst w
    have ey := intsD_vs hn k
    subst ey
    exact cr_sum hc pins s σ H _ us Q I r ⟨a, ns, rfl, SqL.of ha, q _ H B (Ext.refl w) (Dt.int _)⟩
def fAll : List D → Option R
  | [.lst ds] => (boolsD ds).map fun ns => R.b (ns.all id)
  | _ => none
def fAny : List D → Option R
  | [.lst ds] => (boolsD ds).map fun ns => R.b (ns.any id)
  | _ => none
theorem ob_all (hc : X.calm = true) : CallR X (.builtin "all") (rdN G fAll) := by
  intro pins s σ H xs us Q I r h
  obtain ⟨B, ds, r', w, vs, e, q⟩ := h
  match ds, e, vs with
  | [.lst ds], e, vs =>
    obtain ⟨ns, hn, er⟩ := Option.map_eq_some_iff.mp e
    subst er
    obtain ⟨v, rfl, vx⟩ := vs.one
    obtain ⟨a, ys, rfl, _, ha, k⟩ := vx.lst w
    have ey := boolsD_vs hn k
    subst ey
    exact cr_all hc pins s σ H _ us Q I r ⟨a, ns, rfl, SqL.of ha, q _ H B (Ext.refl w) (Dt.bl _)⟩
theorem ob_any (hc : X.calm = true) : CallR X (.builtin "any") (rdN G fAny) := by
  intro pins s σ H xs us Q I r h
  obtain ⟨B, ds, r', w, vs, e, q⟩ := h
  match ds, e, vs with
  | [.lst ds], e, vs =>
    obtain ⟨ns, hn, er⟩ := Option.map_eq_some_iff.mp e
    subst er
    obtain ⟨v, rfl, vx⟩ := vs.one
    obtain ⟨a, ys, rfl, _, ha, k⟩ := vx.lst w
    have ey := boolsD_vs hn k
    subst ey
    exact cr_any hc pins s σ H _ us Q I r ⟨a, ns, rfl, SqL.of ha, q _ H B (Ext.refl w) (Dt.bl _)⟩
/-! ### int, str, repr, list, tuple -/
def fInt : List D → Option R
  | [.int i] => some (R.i i)
  | [.str a] => if a.length ≤ 640 then (PySem.intText? a).map R.i else none
  | _ => none
theorem ob_int : CallR X (.type "int") (rdN G fInt) := by
  intro pins s σ H xs us Q I r h
  obtain ⟨B, ds, r', w, vs, e, q⟩ := h
  match ds, e, vs with
  | [.int i], e, vs =>
    cases e
    obtain ⟨v, rfl, vx⟩ := vs.one
    exact call_int1 pins s σ H _ us Q I r (.inl ⟨i, by rw [vx.int], q _ H B (Ext.refl w) (Dt.int _)⟩)
  | [.str z], e, vs =>
    simp only [fInt] at e
    split at e
    next hz =>
      obtain ⟨n, hn, er⟩ := Option.map_eq_some_iff.mp e
      subst er
      obtain ⟨v, rfl, vx⟩ := vs.one
      exact call_int_str pins s σ H _ us Q I r ⟨z, n, by rw [vx.str], hn, hz, q _ H B (Ext.refl w) (Dt.int _)⟩
    next => cases e
def fStr : List D → Option R
  | [.int i] => if i.natAbs.log2 < 1920 then some (.sh (.str (toString i))) else none
  | _ => none
theorem ob_str : CallR X (.type "str") (rdN G fStr) := by
  intro pins s σ H xs us Q I r h
  obtain ⟨B, ds, r', w, vs, e, q⟩ := h
  match ds, e, vs with
  | [.int i], e, vs =>
    simp only [fStr] at e
    split at e
    next hz =>
      cases e
      obtain ⟨v, rfl, vx⟩ := vs.one
      exact call_str_int pins s σ H _ us Q I r ⟨i, by rw [vx.int], hz, q _ H B (Ext.refl w) (Dt.str _)⟩
    next => cases e
def fRepr : List D → Option R
  | [d] => if pl d = true ∧ (toP d).showable = true ∧ (toP d).shown.length ≤ sizeLine ∧ (toP d).depth ≤ 60 then some (.sh (.str (toP d).shown)) else none
  | _ => none
theorem ob_repr (hK : G.K = X.K) (hG : X.A.guards = some []) (hu : X.A.units + 64 < cLine) : CallR X (.builtin "repr") (rdN G fRepr) := by
  intro pins s σ H xs us Q I r h
  obtain ⟨B, ds, r', w, vs, e, q⟩ := h
  match ds, e, vs with
  | [d], e, vs =>
    simp only [fRepr] at e
    split at e
    next hz =>
      cases e
      obtain ⟨v, rfl, vx⟩ := vs.one
      exact call_reprD hG hu pins s σ H _ us Q I r ⟨v, _, rfl, hK ▸ vx.fa w hz.1, hz.2.1, hz.2.2.1, hz.2.2.2, q _ H B (Ext.refl w) (Dt.str _)⟩
    next => cases e
def fList : List D → Option R
  | [.lst ds] => some (.ow (.lst ds))
  | [.tup ds] => some (.ow (.lst ds))
  | [.dct es] => if (es.all fun p => (keyOf p.1).isSome) = true then some (.ow (.lst (es.map (·.1)))) else none
  | _ => none
theorem DtK.keys : ∀ {ks : List (Key × V)} {es : List (D × D)}, DtK G B ks es → DtAll G B (ks.map fun kv => kV kv.1) (es.map (·.1))
  | _, _, .nil => .nil
  | _, _, .cons (k := k) _ t => .cons (by cases k <;> constructor) t.keys
theorem ob_list (hK : G.K = X.K) (hc : X.calm = true) : CallR X (.type "list") (rdN G fList) := by
  intro pins s σ H xs us Q I r h
  obtain ⟨B, ds, r', w, vs, e, q⟩ := h
  match ds, e, vs with
  | [.lst ds], e, vs =>
    cases e
    obtain ⟨v, rfl, vx⟩ := vs.one
    obtain ⟨a, ys, rfl, _, ha, k⟩ := vx.lst w
    exact call_list_of pins s σ H _ us Q I r ⟨a, ys, rfl, .inl (SqL.of ha), fun p hp => q _ _ B (Ext.lay w _ hp) ⟨p, _, rfl, hp, w.sub.free hp, upd_same, _, rfl, k⟩⟩
  | [.tup ds], e, vs =>
    cases e
    obtain ⟨v, rfl, vx⟩ := vs.one
    obtain ⟨a, ys, rfl, ha, k, _⟩ := vx.tup w
    exact call_list_of pins s σ H _ us Q I r ⟨a, ys, rfl, .inr (hK ▸ ha), fun p hp => q _ _ B (Ext.lay w _ hp) ⟨p, _, rfl, hp, w.sub.free hp, upd_same, _, rfl, k⟩⟩
  | [.dct es], e, vs =>
    simp only [fList] at e
    split at e
    next hal =>
      cases e
      obtain ⟨v, rfl, vx⟩ := vs.one
      obtain ⟨a, rfl, _, hd⟩ := vx.dct w
      rcases hd with ⟨ks, h1, h2⟩ | ⟨ks, h1, h2⟩
      · exact call_listD hc pins s σ H _ us Q I r ⟨a, ks, rfl, h1, fun p hp => q _ _ B (Ext.lay w _ hp) ⟨p, _, rfl, hp, w.sub.free hp, upd_same, _, rfl, h2.keys⟩⟩
      · obtain ⟨rfl, rfl⟩ := h2.all hal
        exact call_list_dT hc pins s σ H _ us Q I r ⟨a, [], rfl, h1, fun p bs hp hk => by
          cases hk
          exact q _ _ B (Ext.lay w _ hp) ⟨p, _, rfl, hp, w.sub.free hp, upd_same, _, rfl, .nil⟩⟩
    next => cases e
def fTuple : List D → Option R
  | [.lst ds] => some (.sh (.tup ds))
  | [.tup ds] => some (.sh (.tup ds))
  | _ => none
theorem ob_tuple (hK : G.K = X.K) : CallR X (.type "tuple") (rdN G fTuple) := by
  intro pins s σ H xs us Q I r h
  obtain ⟨B, ds, r', w, vs, e, q⟩ := h
  match ds, e, vs with
  | [.lst ds], e, vs =>
    cases e
    obtain ⟨v, rfl, vx⟩ := vs.one
    obtain ⟨a, ys, rfl, _, ha, k⟩ := vx.lst w
    exact call_tuple_of pins s σ H _ us Q I r ⟨a, ys, rfl, .inl ⟨SqL.of ha, fun p hp => q _ _ _ (Ext.put w _ hp tupNF) (Dt.tup upd_same (k.same (Ext.put w _ hp tupNF).bb))⟩⟩
  | [.tup ds], e, vs =>
    cases e
    obtain ⟨v, rfl, vx⟩ := vs.one
    obtain ⟨a, ys, rfl, ha, k, va⟩ := vx.tup w
    exact call_tuple_of pins s σ H _ us Q I r ⟨a, ys, rfl, .inr ⟨hK ▸ ha, q _ H B (Ext.refl w) va⟩⟩
end
end IP

/-! IP8: statements by outcomes. -/
namespace IP
open PySem PySem.Spec PyProof.Rows L2 FA
inductive Out where
  | nx (env : Env) | rt (r : R) | bk (env : Env) | ct (env : Env) | ex (x : Xn) (env : Env)
def MS := (Out → Prop) → Prop
def OutOk (F : Fx) (B : Hp) (Dn : Ends) : Out → Prop
  | .nx env => ∀ σ H B', F.Sf B' H σ env → Same B B' → Dn.nx σ H
  | .rt r => ∀ v H B', Ext F.G F.B0 F.H0 B' H → RelR F.G F.H0 B' H v r → Dn.rt v H
  | .bk env => ∀ σ H B', F.Sf B' H σ env → Same B B' → Dn.bk σ H
  | .ct env => ∀ σ H B', F.Sf B' H σ env → Same B B' → Dn.ct σ H
  | .ex x env => ∀ σ H B' cls d, F.Sf B' H σ env → Same B B' → ExnR F.G B' H x cls d → F.W cls d σ H
def rdS (F : Fx) (m : Env → MS) : TS := fun Dn σ H => ∃ B env Q0, F.Sf B H σ env ∧ m env Q0 ∧ ∀ o, Q0 o → OutOk F B Dn o
theorem OutOk.back {F : Fx} {B B1 : Hp} {Dn : Ends} (s : Same B B1) : ∀ {o : Out}, OutOk F B Dn o → OutOk F B1 Dn o
  | .nx _, h => fun σ H B' sf k => h σ H B' sf (s.trans k)
  | .rt _, h => h
  | .bk _, h => fun σ H B' sf k => h σ H B' sf (s.trans k)
  | .ct _, h => fun σ H B' sf k => h σ H B' sf (s.trans k)
  | .ex _ _, h => fun σ H B' cls d sf k => h σ H B' cls d sf (s.trans k)
section
variable {X : Cx} {F : Fx} {G : Gx} {B B1 B2 H H1 H2 : Hp} {e a b : Expr} {pos p : Pos} {st : Stmt} {sts : List Stmt}
theorem ps_imp {t t' : TS} (h : PS X st t) (i : ∀ D σ H, t' D σ H → t D σ H) : PS X st t' := ⟨fun pins s σ H D I q => h.run pins s σ H D I (i D σ H q)⟩
theorem pss_imp {t t' : TS} (h : PSs X sts t) (i : ∀ D σ H, t' D σ H → t D σ H) : PSs X sts t' := ⟨fun pins s σ H D I q => h.run pins s σ H D I (i D σ H q)⟩
/-- from an expression's outcomes to a statement's -/
def MS.of {α : Type} (m : M α) (env : Env) (f : α → MS) : MS := fun Q => m (fun a => f a Q) fun x => Q (.ex x env)
def MS.ret (o : Out) : MS := fun Q => Q o
def MS.seq (m : MS) (f : Env → MS) : MS := fun Q => m fun o => match o with
  | .nx env => f env Q
  | o => Q o
theorem exOk {env : Env} {Q0 : Out → Prop} {Dn : Ends} {σ : L2.St} (s : F.Sf B H σ env) (hq : ∀ o, Q0 o → OutOk F B Dn o) : ∀ x, (fun x => Q0 (.ex x env)) x → ∀ cls d H' B', Ext F.G B H B' H' → ExnR F.G B' H' x cls d → F.W cls d σ H' :=
  fun x h cls d H' B' e k => hq _ h σ H' B' cls d (s.ext1 e) e.bb k
theorem ss_nil : PSs X [] (rdS F fun env => MS.ret (.nx env)) := pss_imp pss_nil fun D σ H ⟨B, env, Q0, s, h, hq⟩ => hq _ h σ H B s (Same.refl _)
theorem ss_cons {m ms : Env → MS} (h1 : PS X st (rdS F m)) (h2 : PSs X sts (rdS F ms)) : PSs X (st :: sts) (rdS F fun env => (m env).seq ms) := by
  refine pss_imp (pss_cons h1 h2) ?_
  rintro D σ H ⟨B, env, Q0, s, h, hq⟩
  refine ⟨B, env, _, s, h, fun o ho => ?_⟩
  match o, ho with
  | .nx env', ho => exact fun σ' H' B' s' k => ⟨B', env', Q0, s', ho, fun o ho => (hq o ho).back k⟩
  | .rt r, ho => exact hq _ ho
  | .bk env', ho => exact hq _ ho
  | .ct env', ho => exact hq _ ho
  | .ex x env', ho => exact hq _ ho
theorem ss_pass : PS X (.Pass pos) (rdS F fun env => MS.ret (.nx env)) := ps_imp ps_pass fun D σ H ⟨B, env, Q0, s, h, hq⟩ => hq _ h σ H B s (Same.refl _)
theorem ss_break : PS X (.Break pos) (rdS F fun env => MS.ret (.bk env)) := ps_imp ps_break fun D σ H ⟨B, env, Q0, s, h, hq⟩ => hq _ h σ H B s (Same.refl _)
theorem ss_cont : PS X (.Continue pos) (rdS F fun env => MS.ret (.ct env)) := ps_imp ps_continue fun D σ H ⟨B, env, Q0, s, h, hq⟩ => hq _ h σ H B s (Same.refl _)
/-- something without a trace -/
theorem ss_expr {m : Env → M R} (he : PE X e (rdE F m)) (hs : swapsWith e none pos.line X.env = pure false) : PS X (.Expr e pos) (rdS F fun env => MS.of (m env) env fun _ => MS.ret (.nx env)) := by
  refine ps_imp (ps_expr he hs) ?_
  rintro D σ H ⟨B, env, Q0, s, h, hq⟩
  exact rdE_step s h (fun r h1 v H1 B1 e1 r1 => hq _ h1 σ H1 B1 (s.ext1 e1) e1.bb) (exOk s hq)
/-- what is handed back -/
def R.noBw : R → Option R
  | .bw _ => none
  | r => some r
theorem ss_ret {m : Env → M R} (he : PE X e (rdE F m)) : PS X (.Return (some e) pos) (rdS F fun env => MS.of (do let r ← m env; M.opt r.noBw) env fun r => MS.ret (.rt r)) := by
  refine ps_imp (ps_ret he) ?_
  rintro D σ H ⟨B, env, Q0, s, h, hq⟩
  refine rdE_step s h (fun r h1 v H1 B1 e1 r1 => ?_) (exOk s hq)
  obtain ⟨r', er, h2⟩ := opt_run h1
  match r, er, r1 with
  | .sh d, er, r1 =>
    cases er
    exact hq _ h2 v H1 B1 (s.ext.trans e1) r1
  | .ow d, er, r1 =>
    cases er
    exact hq _ h2 v H1 B1 (s.ext.trans e1) (r1.back s.ext)
def retSlot : Option (Option Sl) → Option R
  | some (some (.sh d)) => some (.sh d)
  | some (some (.ow d)) => some (.ow d)
  | _ => none
theorem ss_retV {i : Nat} {x : Str} {p : Pos} (hN : X.N[i]? = some x) (hv : Vis X.env.scope x) (hd : (x == ("__debug__" : Str)) = false) (hcd : (x == ("__classdict__" : Str)) = false) : PS X (.Return (some (.Name x p)) pos) (rdS F fun env => MS.of (M.opt (retSlot env[i]?)) env fun r => MS.ret (.rt r)) := by
  refine ps_imp (ps_ret (pe_var hN hv hd hcd)) ?_
  rintro D σ H ⟨B, env, Q0, s, h, hq⟩
  obtain ⟨r, er, h2⟩ := opt_run h
  generalize eq : env[i]? = o at er
  match o, er with
  | some (some (.sh d)), er =>
    cases er
    obtain ⟨v, hv, r⟩ := s.val i _ eq
    exact ⟨v, hv, hq _ h2 v H B s.ext r⟩
  | some (some (.ow d)), er =>
    cases er
    obtain ⟨v, hv, a, o, rfl, n, ha, k⟩ := s.val i _ eq
    exact ⟨_, hv, hq _ h2 _ H B s.ext ⟨a, o, rfl, s.own i a ⟨d, eq, hv⟩, n, ha, k⟩⟩
theorem ss_retN : PS X (.Return none pos) (rdS F fun env => MS.ret (.rt (.sh .non))) := ps_imp ps_retN fun D σ H ⟨B, env, Q0, s, h, hq⟩ => hq _ h .non H B s.ext Dt.non
theorem ss_if {c : Expr} {ys ns : List Stmt} {mc : Env → M Bool} {my mn : Env → MS} (hc : PT X c (rdT F mc)) (hy : PSs X ys (rdS F my)) (hn : PSs X ns (rdS F mn)) : PS X (.If c ys ns pos) (rdS F fun env => MS.of (mc env) env fun b => if b = true then my env else mn env) := by
  refine ps_imp (ps_if hc hy hn) ?_
  rintro D σ H ⟨B, env, Q0, s, h, hq⟩
  refine rdT_step s h (fun b h1 H1 B1 e1 => ?_) (exOk s hq)
  cases b with
  | true => exact ⟨B1, env, Q0, s.ext1 e1, h1, fun o ho => (hq o ho).back e1.bb⟩
  | false => exact ⟨B1, env, Q0, s.ext1 e1, h1, fun o ho => (hq o ho).back e1.bb⟩
/-! ### names stored -/
def R.sl : R → Option Sl
  | .sh d => some (.sh d)
  | .ow d => some (.ow d)
  | .bw _ => none
theorem Sf.put {σ : L2.St} {env : Env} (s : F.Sf B H σ env) (e : Ext F.G B H B1 H1) {i : Nat} {v : V} {r : R} {sl : Sl} (h : RelR F.G H B1 H1 v r) (hr : r.sl = some sl) : F.Sf B1 H1 (σ.set i (some v)) (env.set i (some sl)) := by
  match r, h, hr with
  | .sh d, h, hr =>
    cases hr
    exact (s.ext1 e).setSh h
  | .ow d, ⟨a, o, e1, n, n1, e2, k⟩, hr =>
    cases hr
    subst e1
    exact s.setR e n n1 e2 k
theorem ss_set {i : Nat} {x : Str} {p : Pos} {m : Env → M R} (hN : X.N.Nodup) (hi : X.N[i]? = some x) (hx : Loc X.env.scope x) (he : PE X e (rdE F m)) (hs : swapsWith e (some (.Name x p)) pos.line X.env = pure false) (hf : X.fn x = true ∨ X.env.scope.names.lookup x = some .local) :
    PS X (.Assign [.Name x p] e pos) (rdS F fun env => MS.of (do let r ← m env; M.opt r.sl) env fun sl => MS.ret (.nx (env.set i (some sl)))) := by
  refine ps_imp (ps_set hN hi hx he hs hf) ?_
  rintro D σ H ⟨B, env, Q0, s, h, hq⟩
  refine rdE_step s h (fun r h1 v H1 B1 e1 r1 => ?_) (exOk s hq)
  obtain ⟨sl, er, h2⟩ := opt_run h1
  exact hq _ h2 _ H1 B1 (Sf.put s e1 r1 er) e1.bb
/-- name += e, name -= e: ints -/
def augI (op : Operator) : D → D → Option D
  | .int i, .int j => match op with
    | .Add => some (.int (i + j))
    | .Sub => some (.int (i - j))
    | _ => none
  | _, _ => none
def slD1 : Option (Option Sl) → Option D
  | some (some (.sh d)) => some d
  | _ => none
theorem ss_aug {i : Nat} {x : Str} {p : Pos} {op : Operator} {m : Env → M R} (hN : X.N.Nodup) (hi : X.N[i]? = some x) (hx : Loc X.env.scope x) (he : PE X e (rdE F m)) (hf : X.fn x = true ∨ X.env.scope.names.lookup x = some .local) (hop : op = .Add ∨ op = .Sub) :
    PS X (.AugAssign (.Name x p) op e pos) (rdS F fun env => MS.of (do let d ← M.opt (slD1 env[i]?); let r ← m env; M.opt (augI op d r.d)) env fun d => MS.ret (.nx (env.set i (some (.sh d))))) := by
  have main : ∀ {ti : TIp} (f : Int → Int → Int), ti = ipI f → PIp X op ti → (∀ i j, augI op (.int i) (.int j) = some (.int (f i j))) → PS X (.AugAssign (.Name x p) op e pos) (rdS F fun env => MS.of (do let d ← M.opt (slD1 env[i]?); let r ← m env; M.opt (augI op d r.d)) env fun d => MS.ret (.nx (env.set i (some (.sh d))))) := by
    intro ti f hti ho hf2
    subst hti
    refine ps_imp (ps_aug hN hi hx he ho hf) ?_
    rintro D σ H ⟨B, env, Q0, s, h, hq⟩
    obtain ⟨d, ed, h⟩ := opt_run h
    generalize eq : env[i]? = o at ed
    match o, ed with
    | some (some (.sh d')), ed =>
      cases ed
      obtain ⟨v, hv, rv⟩ := s.val i _ eq
      refine ⟨v, hv, rdE_step s h (fun r h1 y H1 B1 e1 r1 => ?_) (exOk s hq)⟩
      obtain ⟨d2, e2, h2⟩ := opt_run h1
      have v1 := r1.view s.wf e1
      generalize r.d = dr at e2 v1
      match d, dr, e2, rv, v1 with
      | .int a, .int c, e2, rv, v1 =>
        rw [hf2] at e2
        cases e2
        cases rv
        exact ⟨a, c, rfl, v1.int, hq _ h2 _ H1 B1 ((s.ext1 e1).setSh (Dt.int _)) e1.bb⟩
  rcases hop with rfl | rfl
  · exact main _ rfl ip_add fun i j => rfl
  · exact main _ rfl ip_sub fun i j => rfl
end
end IP

/-! IP9: targets; what is walked; for; list comprehensions. -/
namespace IP
open PySem PySem.Spec PyProof.Rows L2 FA
/-- alike off some slots -/
def Off (vs : List Nat) (σ σ' : L2.St) : Prop := σ'.length = σ.length ∧ ∀ j : Nat, j ∉ vs → σ'[j]? = σ[j]?
theorem Off.refl (vs : List Nat) (σ : L2.St) : Off vs σ σ := ⟨rfl, fun _ _ => rfl⟩
theorem Off.trans {vs : List Nat} {σ σ1 σ2 : L2.St} (a : Off vs σ σ1) (b : Off vs σ1 σ2) : Off vs σ σ2 := ⟨b.1.trans a.1, fun j h => (b.2 j h).trans (a.2 j h)⟩
theorem wipe_at {i : Nat} : ∀ {vs : List Nat} {σ : L2.St}, i ∈ vs → i < σ.length → (wipe σ vs)[i]? = some none
  | v :: vs, σ, h, hl => by
    unfold wipe
    by_cases e : v = i
    · subst e
      exact List.getElem?_set_self (by rw [wipe_length]; exact hl)
    · rw [List.getElem?_set_ne e]
      exact wipe_at ((List.mem_cons.mp h).resolve_left fun z => e z.symm) hl
theorem wipe_off {i : Nat} : ∀ {vs : List Nat} {σ : L2.St}, i ∉ vs → (wipe σ vs)[i]? = σ[i]?
  | [], σ, h => rfl
  | v :: vs, σ, h => by
    unfold wipe
    rw [List.getElem?_set_ne (fun e : v = i => h (by rw [← e]; exact List.mem_cons_self))]
    exact wipe_off fun z => h (List.mem_cons_of_mem _ z)
theorem Off.wipe {vs : List Nat} {σ σ' : L2.St} (h : Off vs (wipe σ vs) σ') : L2.wipe σ' vs = L2.wipe σ vs := by
  have hl : σ'.length = σ.length := by rw [h.1, wipe_length]
  refine List.ext_getElem? fun j => ?_
  by_cases hj : j ∈ vs
  · by_cases hb : j < σ.length
    · rw [wipe_at hj (by rw [hl]; exact hb), wipe_at hj hb]
    · rw [List.getElem?_eq_none (by rw [wipe_length, hl]; omega), List.getElem?_eq_none (by rw [wipe_length]; omega)]
  · rw [wipe_off hj, h.2 j hj]
def wipeE (env : Env) : List Nat → Env
  | [] => env
  | v :: vs => (wipeE env vs).set v none
theorem wipeE_length (env : Env) : ∀ vs : List Nat, (wipeE env vs).length = env.length
  | [] => rfl
  | v :: vs => by unfold wipeE; rw [List.length_set, wipeE_length env vs]
theorem wipeE_some {env : Env} {i : Nat} {x : Sl} : ∀ {vs : List Nat}, (wipeE env vs)[i]? = some (some x) → env[i]? = some (some x) ∧ i ∉ vs
  | [], h => ⟨h, by simp⟩
  | v :: vs, h => by
    unfold wipeE at h
    by_cases hi : v = i
    · subst hi
      by_cases hv : v < (wipeE env vs).length
      · rw [List.getElem?_set_self hv] at h; cases h
      · rw [List.getElem?_eq_none (by simpa using hv)] at h; cases h
    · rw [List.getElem?_set_ne hi] at h
      obtain ⟨h1, h2⟩ := wipeE_some h
      exact ⟨h1, by simp only [List.mem_cons, not_or]; exact ⟨fun e => hi e.symm, h2⟩⟩
theorem Sf.wipe {G : Gx} {B0 H0 B H : Hp} {σ : L2.St} {env : Env} (s : Sf G B0 H0 B H σ env) (vs : List Nat) : Sf G B0 H0 B H (L2.wipe σ vs) (wipeE env vs) := by
  have own : ∀ {i : Nat} {a : Addr}, ownedAt (wipeE env vs) (L2.wipe σ vs) i a → ownedAt env σ i a := by
    rintro i a ⟨d, e1, e2⟩
    exact ⟨d, (wipeE_some e1).1, (wipe_some e2).1⟩
  refine ⟨s.w0, s.ext, by rw [wipe_length, wipeE_length, s.len], fun i sl h => ?_, fun i a h => s.own i a (own h), fun i j a h k => s.sep i j a (own h) (own k), fun i a c fs h => s.i0 i a c fs (wipeE_some h).1⟩
  obtain ⟨h1, h2⟩ := wipeE_some h
  obtain ⟨v, hv, r⟩ := s.val i sl h1
  exact ⟨v, by rw [wipe_off h2]; exact hv, r⟩
/-! ### targets -/
def rdG (F : Fx) (vs : List Nat) (f : D → Env → Option Env) : TG := fun v σ H Q => ∃ B env d env', F.Sf B H σ env ∧ Dt F.G B v d ∧ f d env = some env' ∧ ∀ σ', Off vs σ σ' → F.Sf B H σ' env' → Q σ' H
def rdGs (F : Fx) (vs : List Nat) (f : List D → Env → Option Env) : TGs := fun xs σ H Q => ∃ B env ds env', F.Sf B H σ env ∧ DtAll F.G B xs ds ∧ f ds env = some env' ∧ ∀ σ', Off vs σ σ' → F.Sf B H σ' env' → Q σ' H
section
variable {X : Cx} {F : Fx} {G : Gx} {B B1 B2 H H1 H2 : Hp} {e a b : Expr} {pos p : Pos} {vs : List Nat}
theorem pg_imp {t t' : TG} (h : PG X e t) (i : ∀ v σ H Q, t' v σ H Q → t v σ H Q) : PG X e t' := ⟨fun pins s σ H v u Q I r q => h.run pins s σ H v u Q I r (i v σ H Q q)⟩
theorem pgs_imp {es : List Expr} {t t' : TGs} (h : PGs X es t) (i : ∀ v σ H Q, t' v σ H Q → t v σ H Q) : PGs X es t' := ⟨fun pins s σ H v u Q I r q => h.run pins s σ H v u Q I r (i v σ H Q q)⟩
def tgName (i : Nat) : D → Env → Option Env := fun d env => some (env.set i (some (.sh d)))
theorem sg_name {i : Nat} {x : Str} (hv : i ∈ vs) (hN : X.N.Nodup) (hi : X.N[i]? = some x) (hx : Loc X.env.scope x) (hf : X.fn x = true ∨ X.env.scope.names.lookup x = some .local) : PG X (.Name x pos) (rdG F vs (tgName i)) := by
  refine pg_imp (pg_name hN hi hx hf) ?_
  rintro v σ H Q ⟨B, env, d, env', s, k, e, q⟩
  cases e
  exact q _ ⟨by simp, fun j hj => List.getElem?_set_ne fun z : i = j => hj (by rw [← z]; exact hv)⟩ (s.setSh k)
def tgNil : List D → Env → Option Env
  | [], env => some env
  | _, _ => none
def tgCons (f : D → Env → Option Env) (fs : List D → Env → Option Env) : List D → Env → Option Env
  | [], _ => none
  | d :: ds, env => match f d env with
    | some env' => fs ds env'
    | none => none
theorem sgs_nil : PGs X [] (rdGs F vs tgNil) := by
  refine pgs_imp pgs_nil ?_
  rintro v σ H Q ⟨B, env, d, env', s, k, e, q⟩
  cases k with
  | nil =>
    cases e
    exact ⟨rfl, q _ (Off.refl _ _) s⟩
  | cons _ _ => cases e
theorem sgs_cons {es : List Expr} {f : D → Env → Option Env} {fs : List D → Env → Option Env} (h1 : PG X e (rdG F vs f)) (h2 : PGs X es (rdGs F vs fs)) (hs : (assignEach (e :: es) X.env).map (·.2) = assign e X.env :: (assignEach es X.env).map (·.2)) :
    PGs X (e :: es) (rdGs F vs (tgCons f fs)) := by
  refine pgs_imp (pgs_cons h1 h2 hs) ?_
  rintro v σ H Q ⟨B, env, d, env', s, k, e, q⟩
  cases k with
  | nil => cases e
  | @cons v1 vr d1 dr k1 k2 =>
    simp only [tgCons] at e
    split at e
    next env1 e1 => exact ⟨_, _, rfl, B, env, d1, env1, s, k1, e1, fun σ1 o1 s1 => ⟨B, env1, dr, env', s1, k2, e, fun σ2 o2 s2 => q _ (o1.trans o2) s2⟩⟩
    next => cases e
def tgTup (n : Nat) (fs : List D → Env → Option Env) : D → Env → Option Env
  | .tup ds, env => if ds.length = n then fs ds env else none
  | _, _ => none
theorem sg_tup {es : List Expr} {k n : Nat} {fs : List D → Env → Option Env} (hK : F.G.K = X.K) (hc : X.calm = true) (h : PGs X es (rdGs F vs fs)) (hn : (assignEach es X.env).length = n) (hst : (assignEach es X.env).findIdx? (·.1) = none) :
    PG X (.Tuple es k pos) (rdG F vs (tgTup n fs)) := by
  refine pg_imp (pg_tup hc h hn hst) ?_
  rintro v σ H Q ⟨B, env, d, env', s, k, e, q⟩
  match d, e, k with
  | .tup ds, e, k =>
    simp only [tgTup] at e
    split at e
    next hl =>
      obtain ⟨a, xs, rfl, ha, k', _⟩ := (View.tup s.wf (.inl k))
      exact ⟨a, xs, rfl, hK ▸ ha, by rw [k'.len]; exact hl, B, env, ds, env', s, k', e, q⟩
    next => cases e
/-! ### what is walked -/
/-- by the base alone -/
def FeedsB (G : Gx) (B : Hp) (J : It) (ds : List D) : Prop := ∀ B1 H1, Same B B1 → Wf G B1 H1 → (∀ (i : Nat) d, ds[i]? = some d → J.go i H1 ∧ ∀ x H2, J.yld i H1 x H2 → ∃ B2, Ext G B1 H1 B2 H2 ∧ Dt G B2 x d) ∧ J.stop ds.length H1
/-- by the heap that grows -/
def FeedsX (G : Gx) (B H : Hp) (J : It) (ds : List D) : Prop := ∀ B1 H1, Ext G B H B1 H1 → (∀ (i : Nat) d, ds[i]? = some d → J.go i H1 ∧ ∀ x H2, J.yld i H1 x H2 → ∃ B2, Ext G B1 H1 B2 H2 ∧ Dt G B2 x d) ∧ J.stop ds.length H1
theorem FeedsB.x (w : Wf G B H) {J : It} {ds : List D} (h : FeedsB G B J ds) : FeedsX G B H J ds := fun B1 H1 e => h B1 H1 e.bb (w.ext e)
def rdI (F : Fx) (m : Env → M (List D)) : TI := fun σ H R => ∃ B env Q0 E0, F.Sf B H σ env ∧ m env Q0 E0 ∧ (∀ ds, Q0 ds → ∀ J H' B', Ext F.G B H B' H' → FeedsB F.G B' J ds → R J H') ∧
  ∀ x, E0 x → ∀ cls d H' B', Ext F.G B H B' H' → ExnR F.G B' H' x cls d → F.W cls d σ H'
def rdIX (F : Fx) (m : Env → M (List D)) : TI := fun σ H R => ∃ B env Q0 E0, F.Sf B H σ env ∧ m env Q0 E0 ∧ (∀ ds, Q0 ds → ∀ J H' B', Ext F.G B H B' H' → FeedsX F.G B' H' J ds → R J H') ∧
  ∀ x, E0 x → ∀ cls d H' B', Ext F.G B H B' H' → ExnR F.G B' H' x cls d → F.W cls d σ H'
theorem pi_imp {tg : Expr} {t t' : TI} (h : PI X tg e t) (i : ∀ σ H R, t' σ H R → t σ H R) : PI X tg e t' := ⟨fun pins s σ H R I q => h.run pins s σ H R I (i σ H R q)⟩
theorem si_x {tg : Expr} {m : Env → M (List D)} (h : PI X tg e (rdI F m)) : PI X tg e (rdIX F m) := by
  refine pi_imp h ?_
  rintro σ H R ⟨B, env, Q0, E0, s, h, hq, hx⟩
  exact ⟨B, env, Q0, E0, s, h, fun ds hd J H' B' e k => hq ds hd J H' B' e (k.x (s.wf.ext e)), hx⟩
theorem feeds_list (w : Wf G B H) {a : Addr} {xs : List V} {ds : List D} (ha : B a = some (.lst xs)) (k : DtAll G B xs ds) : FeedsB G B (Itl G.K a) ds := by
  intro B1 H1 sb w1
  have ha1 : H1 a = some (.lst xs) := w1.sub.ex (sb _ _ ha) rfl
  refine ⟨fun i d hd => ?_, xs, SqL.of ha1, by rw [k.len]; exact Nat.le_refl _⟩
  obtain ⟨v, hv, kv⟩ := k.at hd
  refine ⟨⟨xs, v, SqL.of ha1, hv⟩, fun x H2 ⟨e1, e2⟩ => ⟨B1, ?_, ?_⟩⟩
  · subst e1
    exact Ext.refl w1
  · have := e2 xs (SqL.of ha1)
    rw [hv] at this
    cases this
    exact kv.same sb
theorem feedsX_list (w : Wf G B H) {a : Addr} {xs : List V} {ds : List D} (nb : a ≠ G.b) (ha : H a = some (.lst xs)) (k : DtAll G B xs ds) : FeedsX G B H (Itl G.K a) ds := by
  intro B1 H1 e
  have ha1 : H1 a = some (.lst xs) := e.kp _ _ nb ha
  have w1 := w.ext e
  refine ⟨fun i d hd => ?_, xs, SqL.of ha1, by rw [k.len]; exact Nat.le_refl _⟩
  obtain ⟨v, hv, kv⟩ := k.at hd
  refine ⟨⟨xs, v, SqL.of ha1, hv⟩, fun x H2 ⟨e1, e2⟩ => ⟨B1, ?_, ?_⟩⟩
  · subst e1
    exact Ext.refl w1
  · have := e2 xs (SqL.of ha1)
    rw [hv] at this
    cases this
    exact kv.same e.bb
theorem feeds_tup {ds : List D} {v : V} {a : Addr} (ev : v = .ref a) (h : Dt G B v (.tup ds)) : FeedsB G B (Itt G.K a) ds := by
  intro B1 H1 sb w1
  subst ev
  obtain ⟨a', xs, e, hs, k, _⟩ := View.tup w1 (.inl (h.same sb))
  cases e
  refine ⟨fun i d hd => ?_, xs, hs, by rw [k.len]; exact Nat.le_refl _⟩
  obtain ⟨v, hv, kv⟩ := k.at hd
  refine ⟨⟨xs, v, hs, hv⟩, fun x H2 ⟨e1, e2⟩ => ⟨B1, ?_, ?_⟩⟩
  · subst e1
    exact Ext.refl w1
  · have := e2 xs hs
    rw [hv] at this
    cases this
    exact kv
theorem feeds_str {z : Str} : FeedsB G B (Its z) (z.cps.toList.map fun c => .str ⟨#[c]⟩) := by
  intro B1 H1 sb w1
  refine ⟨fun i d hd => ?_, by simp [Its]⟩
  rw [List.getElem?_map] at hd
  obtain ⟨c, hc, ed⟩ := Option.map_eq_some_iff.mp hd
  subst ed
  have hc' : z.cps[i]? = some c := by rw [← Array.getElem?_toList]; exact hc
  refine ⟨(Array.getElem?_eq_some_iff.mp hc').1, fun x H2 ⟨e1, c', e2, e3⟩ => ⟨B1, ?_, ?_⟩⟩
  · subst e1
    exact Ext.refl w1
  · rw [hc'] at e2
    cases e2
    subst e3
    exact Dt.str _
theorem feeds_range {lo : Int} {n : Nat} : FeedsB G B (Itr lo n) ((List.range n).map fun i : Nat => D.int (lo + (i : Int))) := by
  intro B1 H1 sb w1
  refine ⟨fun i d hd => ?_, by simp [Itr]⟩
  rw [List.getElem?_map] at hd
  obtain ⟨c, hc, ed⟩ := Option.map_eq_some_iff.mp hd
  subst ed
  obtain ⟨hlt, hc2⟩ := List.getElem?_eq_some_iff.mp hc
  rw [List.length_range] at hlt
  rw [List.getElem_range] at hc2
  subst hc2
  refine ⟨hlt, fun x H2 ⟨e1, e2⟩ => ⟨B1, ?_, ?_⟩⟩
  · subst e1
    exact Ext.refl w1
  · subst e2
    exact Dt.int _
theorem it_list {tg : Expr} {pins : List (Addr × Obj)} {σ : L2.St} {s1 : Shared} {R : It → Hp → Prop} {E : Value → Shared → Prop} {a : Addr} {xs : List V} (I1 : Inv X pins σ H1 s1) (hq : SqL X.K H1 a xs) (q : R (Itl X.K a) H1) : wpAny (model X.prog X.w) X.A (pyIter (.ref a)) (PIE X pins σ tg R) E s1 := by
  obtain ⟨its, rv, p, hz⟩ := I1.list hq
  refine wpAny_pyIter_list p.isList ?_
  refine ⟨s1.heap.objs.size, [s1.heap.objs.size], _, _, H1, rfl, I1.kept (t' := s1.toks) fun b o e => Heap.get?_push_of_some _ e, turn_list a _, ⟨_, Heap.get?_push_size _ rfl, rfl, rfl⟩, fun b hb => ?_, q⟩
  have e : b = s1.heap.objs.size := by simpa using hb
  subst e
  exact I1.fpOk (Nat.le_refl _) (I1.hok.fresh (Nat.le_refl _))
theorem it_tup {tg : Expr} {pins : List (Addr × Obj)} {σ : L2.St} {s1 : Shared} {R : It → Hp → Prop} {E : Value → Shared → Prop} {a : Addr} {xs : List V} (I1 : Inv X pins σ H1 s1) (hq : SqT X.K H1 a xs) (q : R (Itt X.K a) H1) : wpAny (model X.prog X.w) X.A (pyIter (.ref a)) (PIE X pins σ tg R) E s1 := by
  obtain ⟨its, rv, p, hz⟩ := I1.tuple hq
  refine wpAny_pyIter_tuple (show s1.heap.IsTuple a its.toArray from p) ?_
  refine ⟨s1.heap.objs.size, [s1.heap.objs.size], _, _, H1, rfl, I1.kept (t' := s1.toks) fun b o e => Heap.get?_push_of_some _ e, turn_tuple a _, ⟨_, Heap.get?_push_size _ rfl, rfl, rfl⟩, fun b hb => ?_, q⟩
  have e : b = s1.heap.objs.size := by simpa using hb
  subst e
  exact I1.fpOk (Nat.le_refl _) (I1.hok.fresh (Nat.le_refl _))
theorem it_str {tg : Expr} {pins : List (Addr × Obj)} {σ : L2.St} {s1 : Shared} {R : It → Hp → Prop} {E : Value → Shared → Prop} {x : Str} {t : Tok} (I1 : Inv X pins σ H1 s1) (q : R (Its x) H1) : wpAny (model X.prog X.w) X.A (pyIter (.str x t)) (PIE X pins σ tg R) E s1 := by
  cases ha : x.cps.all (· < 128)
  · exact wpAny_pyIter_wide ha (pi_one (tk := s1.toks) I1 _ (turn_str _ x t "str_iterator" (.inr rfl)) ⟨_, Heap.get?_push_size _ rfl, rfl, rfl⟩ q)
  · exact wpAny_pyIter_ascii ha (pi_one (tk := s1.toks) I1 _ (turn_str _ x t "str_ascii_iterator" (.inl rfl)) ⟨_, Heap.get?_push_size _ rfl, rfl, rfl⟩ q)
/-- the items of what is walked -/
def itD : D → Option (List D)
  | .lst ds => some ds
  | .tup ds => some ds
  | .str z => some (z.cps.toList.map fun c => .str ⟨#[c]⟩)
  | _ => none
theorem si_any {tg : Expr} {m : Env → M R} (hK : F.G.K = X.K) (h : PE X e (rdE F m)) : PI X tg e (rdI F fun env => do let r ← m env; let d ← M.opt r.esc; M.opt (itD d)) := by
  refine ⟨fun pins s σ H R I ⟨B, env, Q0, E0, sf, hm, hq, hx⟩ => ?_⟩
  refine thn (h.run pins s σ H (fun x H1 => ∃ ds B2 d, Q0 ds ∧ Ext F.G B H B2 H1 ∧ Dt F.G B2 x d ∧ itD d = some ds) I (rdE_step sf hm (fun r h1 v H1 B1 e1 r1 => ?_) hx)) fun v s1 ⟨x, H1, I1, rx, ds, B2, d, h0, e2, kd, ei⟩ => ?_
  · obtain ⟨d, ed, h2⟩ := opt_run h1
    obtain ⟨ds, eds, h3⟩ := opt_run h2
    obtain ⟨B2, s2, e2, k2, _⟩ := r1.escape sf.wf e1 ed
    exact ⟨ds, B2, d, h3, e2, k2, eds⟩
  · have w2 := sf.wf.ext e2
    match d, ei, kd with
    | .lst _, ei, .lst ha k =>
      cases ei
      cases rx
      exact it_list I1 (SqL.of (w2.sub.ex ha rfl)) (hK ▸ hq _ h0 _ H1 B2 e2 (feeds_list w2 ha k))
    | .tup _, ei, kd =>
      cases ei
      obtain ⟨a, xs, ea, hs, k, _⟩ := View.tup w2 (.inl kd)
      subst ea
      cases rx
      exact it_tup I1 (hK ▸ hs) (hK ▸ hq _ h0 _ H1 B2 e2 (feeds_tup rfl kd))
    | .str z, ei, kd =>
      cases ei
      cases kd
      obtain ⟨t, rfl⟩ := rx
      exact it_str I1 (hq _ h0 _ H1 B2 e2 feeds_str)
/-- in a comprehension what a name holds may be walked, too -/
theorem si_anyX {tg : Expr} {m : Env → M R} (hK : F.G.K = X.K) (h : PE X e (rdE F m)) : PI X tg e (rdIX F fun env => do let r ← m env; M.opt (itD r.d)) := by
  refine ⟨fun pins s σ H R I ⟨B, env, Q0, E0, sf, hm, hq, hx⟩ => ?_⟩
  refine thn (h.run pins s σ H (fun x H1 => ∃ ds B2 d, Q0 ds ∧ Ext F.G B H B2 H1 ∧ View F.G B2 H1 x d ∧ itD d = some ds) I (rdE_step sf hm (fun r h1 v H1 B1 e1 r1 => ?_) hx)) fun v s1 ⟨x, H1, I1, rx, ds, B2, d, h0, e2, kd, ei⟩ => ?_
  · obtain ⟨ds, eds, h3⟩ := opt_run h1
    exact ⟨ds, B1, _, h3, e1, r1.view sf.wf e1, eds⟩
  · have w2 := sf.wf.ext e2
    match d, ei, kd with
    | .lst _, ei, kd =>
      cases ei
      obtain ⟨a, xs, rfl, nb, ha, k⟩ := kd.lst w2
      cases rx
      exact it_list I1 (SqL.of ha) (hK ▸ hq _ h0 _ H1 B2 e2 (feedsX_list w2 nb ha k))
    | .tup _, ei, kd =>
      cases ei
      obtain ⟨a, xs, ea, hs, k, kd'⟩ := kd.tup w2
      subst ea
      cases rx
      exact it_tup I1 (hK ▸ hs) (hK ▸ hq _ h0 _ H1 B2 e2 ((feeds_tup rfl kd').x w2))
    | .str z, ei, kd =>
      cases ei
      have := kd.str
      subst this
      obtain ⟨t, rfl⟩ := rx
      exact it_str I1 (hq _ h0 _ H1 B2 e2 (feeds_str.x w2))
/-! ### range -/
def rngD : List D → Option (List D)
  | [.int j] => if -(2 ^ 62) ≤ j ∧ j < 2 ^ 62 then some ((List.range j.toNat).map fun i : Nat => D.int (0 + (i : Int))) else none
  | [.int i, .int j] => if -(2 ^ 62) ≤ i ∧ i < 2 ^ 62 ∧ -(2 ^ 62) ≤ j ∧ j < 2 ^ 62 then some ((List.range (j - i).toNat).map fun k : Nat => D.int (i + (k : Int))) else none
  | _ => none
theorem si_range1 {tg : Expr} {ms : Env → M (List R)} (hg : Gl X "range") (hm : X.mg "range" = none) (ha : PA X [a] (rdA F ms)) (hs : starEach [a] X.env = [(false, eval a X.env)]) : PI X tg (.Call (.Name "range" p) [a] [] pos) (rdI F fun env => do let rs ← ms env; M.opt (match rs.map R.d with | [d] => rngD [d] | _ => none)) := by
  refine pi_imp (pi_range1 hg hm ha hs) ?_
  rintro σ H RR ⟨B, env, Q0, E0, s, h, hq, hx⟩
  refine rdA_step s h (fun rs h1 vs H1 B1 e1 r1 => ?_) hx
  obtain ⟨ds, eds, h2⟩ := opt_run h1
  have v1 := r1.views s.wf e1
  generalize rs.map R.d = dl at eds v1
  match dl, eds, v1 with
  | [d], eds, v1 =>
    obtain ⟨v, rfl, vx⟩ := v1.one
    match d, eds, vx with
    | .int j, eds, vx =>
      simp only [rngD] at eds
      split at eds
      next hz =>
        cases eds
        exact ⟨j, by rw [vx.int], hz.1, hz.2, hq _ h2 _ H1 B1 e1 feeds_range⟩
      next => cases eds
theorem si_range2 {tg : Expr} {ms : Env → M (List R)} (hg : Gl X "range") (hm : X.mg "range" = none) (ha : PA X [a, b] (rdA F ms)) (hs : starEach [a, b] X.env = [(false, eval a X.env), (false, eval b X.env)]) (hs2 : starEach [b] X.env = [(false, eval b X.env)]) : PI X tg (.Call (.Name "range" p) [a, b] [] pos) (rdI F fun env => do let rs ← ms env; M.opt (match rs.map R.d with | [d, d'] => rngD [d, d'] | _ => none)) := by
  refine pi_imp (pi_range2 hg hm ha hs hs2) ?_
  rintro σ H RR ⟨B, env, Q0, E0, s, h, hq, hx⟩
  refine rdA_step s h (fun rs h1 vs H1 B1 e1 r1 => ?_) hx
  obtain ⟨ds, eds, h2⟩ := opt_run h1
  have v1 := r1.views s.wf e1
  generalize rs.map R.d = dl at eds v1
  match dl, eds, v1 with
  | [d, d'], eds, v1 =>
    obtain ⟨v, v', rfl, vx, vy⟩ := v1.two
    match d, d', eds, vx, vy with
    | .int i, .int j, eds, vx, vy =>
      simp only [rngD] at eds
      split at eds
      next hz =>
        cases eds
        exact ⟨i, j, by rw [vx.int, vy.int], hz, hq _ h2 _ H1 B1 e1 feeds_range⟩
      next => cases eds
end
end IP

/-! IP10: for, while, list comprehensions. -/
namespace IP
open PySem PySem.Spec PyProof.Rows L2 FA
/-- for: the turns, one after another -/
def forGo (f : D → Env → Option Env) (body : Env → MS) : List D → Env → MS
  | [], env => MS.ret (.nx env)
  | d :: ds, env => fun Q => match f d env with
    | none => False
    | some env' => body env' fun o => match o with
      | .nx e => forGo f body ds e Q
      | .ct e => forGo f body ds e Q
      | .bk e => Q (.nx e)
      | .rt r => Q (.rt r)
      | .ex x e => Q (.ex x e)
/-- while, at most so many turns -/
def whileGo (c : Env → M Bool) (body : Env → MS) : Nat → Env → MS
  | 0, _ => fun _ => False
  | n + 1, env => MS.of (c env) env fun b => if b = true then (fun Q => body env fun o => match o with
      | .nx e => whileGo c body n e Q
      | .ct e => whileGo c body n e Q
      | .bk e => Q (.nx e)
      | .rt r => Q (.rt r)
      | .ex x e => Q (.ex x e)) else MS.ret (.nx env)
section
variable {X : Cx} {F : Fx} {G : Gx} {B B1 B2 H H1 H2 : Hp} {e a b : Expr} {pos p : Pos} {vs : List Nat}
theorem ss_for {tg iter : Expr} {sts : List Stmt} {mi : Env → M (List D)} {f : D → Env → Option Env} {mb : Env → MS} (hp : PassesOwn (model X.prog X.w) X.A X.env X.xe) (hc : X.calm = true) (hi : PI X tg iter (rdI F mi)) (hg : PG X tg (rdG F vs f)) (hb : PSs X sts (rdS F mb)) (hs : ∀ x, foldedSetIterable iter X.env x = pure x) :
    PS X (.For tg iter sts [] pos) (rdS F fun env => MS.of (mi env) env fun ds => forGo f mb ds env) := by
  refine ps_imp (ps_for hp hc hi hg hb hs) ?_
  rintro D σ H ⟨B, env, Q0, s, h, hq⟩
  refine ⟨B, env, _, _, s, h, fun ds hd J H1 B1 e1 fd => ?_, exOk s hq⟩
  have s1 := s.ext1 e1
  refine ⟨fun i m σ' H' => m = ds.length - i ∧ i ≤ ds.length ∧ ∃ B' env', F.Sf B' H' σ' env' ∧ Same B1 B' ∧ forGo f mb (ds.drop i) env' Q0, ⟨ds.length, by simp, Nat.zero_le _, B1, env, s1, Same.refl _, hd⟩, ?_⟩
  rintro i m σ' H' ⟨rfl, hi, B', env', s', sb, hgo⟩
  obtain ⟨fg, fs⟩ := fd B' H' sb s'.wf
  by_cases hlt : i < ds.length
  · have ei : ds[i]? = some ds[i] := List.getElem?_eq_getElem hlt
    obtain ⟨go, yl⟩ := fg i _ ei
    have ed : ds.drop i = ds[i] :: ds.drop (i + 1) := (List.drop_eq_getElem_cons hlt)
    rw [ed] at hgo
    refine .inr ⟨go, fun σ2 H2 => ∃ B2 env2, F.Sf B2 H2 σ2 env2 ∧ Same B1 B2 ∧ forGo f mb (ds.drop (i + 1)) env2 Q0, fun σ2 H2 ⟨B2, env2, q1, q2, q3⟩ => ⟨ds.length - (i + 1), by omega, rfl, hlt, B2, env2, q1, q2, q3⟩, fun x H2 y => ?_⟩
    obtain ⟨B2, e2, kx⟩ := yl x H2 y
    have s2 := s'.ext1 e2
    simp only [forGo] at hgo
    split at hgo
    next => exact hgo.elim
    next env3 e3 =>
      refine ⟨B2, env', ds[i], env3, s2, kx, e3, fun σ3 _ s3 => ⟨B2, env3, _, s3, hgo, fun o ho => ?_⟩⟩
      have k0 : Same B1 B2 := sb.trans e2.bb
      match o, ho with
      | .nx env4, ho => exact fun σ4 H4 B4 s4 k4 => ⟨B4, env4, s4, k0.trans k4, ho⟩
      | .ct env4, ho => exact fun σ4 H4 B4 s4 k4 => ⟨B4, env4, s4, k0.trans k4, ho⟩
      | .bk env4, ho => exact fun σ4 H4 B4 s4 k4 => hq _ ho σ4 H4 B4 s4 ((e1.bb.trans k0).trans k4)
      | .rt r, ho => exact hq _ ho
      | .ex x env4, ho => exact fun σ4 H4 B4 cls d s4 k4 => hq _ ho σ4 H4 B4 cls d s4 ((e1.bb.trans k0).trans k4)
  · have e0 : i = ds.length := by omega
    subst e0
    rw [List.drop_length] at hgo
    exact .inl ⟨fs, hq _ hgo σ' H' B' s' (e1.bb.trans sb)⟩
theorem ss_while {c : Expr} {sts : List Stmt} {mc : Env → M Bool} {mb : Env → MS} (n : Nat) (hp : PassesOwn (model X.prog X.w) X.A X.env X.xe) (hc : PT X c (rdT F mc)) (hb : PSs X sts (rdS F mb)) : PS X (.While c sts [] pos) (rdS F (whileGo mc mb n)) := by
  refine ps_imp (ps_while hp hc hb) ?_
  rintro D σ H ⟨B, env, Q0, s, h, hq⟩
  refine ⟨fun m σ' H' => ∃ B' env', F.Sf B' H' σ' env' ∧ Same B B' ∧ whileGo mc mb m env' Q0, ⟨n, B, env, s, Same.refl _, h⟩, ?_⟩
  rintro m σ' H' ⟨B', env', s', sb, hgo⟩
  cases m with
  | zero => exact hgo.elim
  | succ m =>
    refine rdT_step s' hgo (fun b h1 H1 B1 e1 => ?_) fun x h cls d H1 B1 e k => hq _ h σ' H1 B1 cls d (s'.ext1 e) (sb.trans e.bb) k
    cases b with
    | true =>
      refine ⟨fun σ2 H2 => ∃ B2 env2, F.Sf B2 H2 σ2 env2 ∧ Same B B2 ∧ whileGo mc mb m env2 Q0, fun σ2 H2 q => ⟨m, Nat.lt_succ_self m, q⟩, B1, env', _, s'.ext1 e1, h1, fun o ho => ?_⟩
      have k0 : Same B B1 := sb.trans e1.bb
      match o, ho with
      | .nx env4, ho => exact fun σ4 H4 B4 s4 k4 => ⟨B4, env4, s4, k0.trans k4, ho⟩
      | .ct env4, ho => exact fun σ4 H4 B4 s4 k4 => ⟨B4, env4, s4, k0.trans k4, ho⟩
      | .bk env4, ho => exact fun σ4 H4 B4 s4 k4 => hq _ ho σ4 H4 B4 s4 (k0.trans k4)
      | .rt r, ho => exact hq _ ho
      | .ex x env4, ho => exact fun σ4 H4 B4 cls d s4 k4 => hq _ ho σ4 H4 B4 cls d s4 (k0.trans k4)
    | false => exact hq _ h1 σ' H1 B1 (s'.ext1 e1) (sb.trans e1.bb)
/-! ### list comprehensions -/
/-- one turn after another; nothing may be raised -/
def lcGo (f : D → M (Option D)) : List D → M (List D)
  | [] => pure []
  | d :: ds => do let r ← f d; let rs ← lcGo f ds; pure (r.toList ++ rs)
def noEx {α : Type} (m : M α) : M α := fun Q _ => m Q fun _ => False
def lcTurn (f : D → Env → Option Env) (mc : Env → M Bool) (me : Env → M R) (env : Env) (d : D) : M (Option D) := do
  let env' ← M.opt (f d env)
  let c ← mc env'
  if c = true then (do let r ← me env'; let d' ← M.opt r.esc; pure (some d')) else pure none
/-- within a comprehension's block: nothing is raised -/
def Fx.blk (F : Fx) : Fx := { F with W := fun _ _ _ _ => False }
theorem pts_imp {ifs : List Expr} {t t' : TT} (h : PTs X ifs t) (i : ∀ σ H Q, t' σ H Q → t σ H Q) : PTs X ifs t' := ⟨fun pins s σ H Q I q => h.run pins s σ H Q I (i σ H Q q)⟩
theorem Ext.set (w : Wf G B H) (e : Ext G B H B1 H1) {p : Addr} {o : HO} (hp : H p = none) (hb : B1 p = none) : Ext G B H B1 (upd H1 p o) := by
  obtain ⟨nb, nc⟩ := w.bag.neb hp
  refine ⟨fun a u n h => ?_, e.bb, fun a u h => ?_, e.nf, e.new, e.bag.put ⟨nb, nc⟩⟩
  · rw [upd_ne (ne_of_none h hp)]
    exact e.kp a u n h
  · rw [upd_ne (ne_of_none h hb)]
    exact e.sub a u h
theorem Ext.out (e : Ext G B H B1 H1) {p : Addr} {o : HO} (hp : H p = some o) (nt : ∀ xs, o ≠ .tup xs) (hb : B p = none) : B1 p = none := by
  cases q : B1 p with
  | none => rfl
  | some u =>
    rcases e.new p u q with z | z | ⟨ys, z⟩
    · rw [hb] at z; cases z
    · rw [hp] at z; cases z
    · rw [hp] at z; exact absurd (Option.some.inj z) (nt ys)
theorem lc_go {f : D → Env → Option Env} {mc : Env → M Bool} {me : Env → M R} {σ : L2.St} {env : Env} {J : It} {ds : List D} {Qd : VK} {Q0 : List D → Prop} (s : F.Sf B H σ env) (fd : FeedsX F.G B H J ds) (hz : ds.length ≤ sizeLine)
    (h : lcGo (lcTurn f mc me (wipeE env vs)) ds Q0 fun _ => False) {p : Addr} (hp : H p = none)
    (hq : ∀ rs, Q0 rs → ∀ H' B' xs, Ext F.G B H B' H' → B' p = none → H' p = some (.lst xs) → DtAll F.G B' xs rs → Qd (.ref p) H') :
    ∃ W : Nat → Nat → Hp → Prop, (∃ m, W 0 m (upd H p (.lst []))) ∧ ∀ i m H, W i m H →
      (J.stop i H ∧ Qd (.ref p) H) ∨ (J.go i H ∧ ∃ Nx : Hp → Prop, (∀ H', Nx H' → ∃ m', m' < m ∧ W (i + 1) m' H') ∧ ∀ x H', J.yld i H x H' → rdG F.blk vs f x (L2.wipe σ vs) H' fun σ2 H2 => L2.wipe σ2 vs = L2.wipe σ vs ∧ rdT F.blk mc σ2 H2 fun b H3 =>
        if b = true then rdE F.blk me σ2 H3 fun y H4 => ∃ acc, H4 p = some (.lst acc) ∧ acc.length < sizeLine ∧ Nx (upd H4 p (.lst (acc ++ [y]))) else Nx H3) := by
  have w := s.wf
  refine ⟨fun i m H' => m = ds.length - i ∧ i ≤ ds.length ∧ ∃ B' xs rs, Ext F.G B H B' H' ∧ B' p = none ∧ H' p = some (.lst xs) ∧ DtAll F.G B' xs rs ∧ rs.length ≤ i ∧ lcGo (lcTurn f mc me (wipeE env vs)) (ds.drop i) (fun r => Q0 (rs ++ r)) fun _ => False,
    ⟨ds.length, by simp, Nat.zero_le _, B, [], [], Ext.lay w _ hp, w.sub.free hp, upd_same, .nil, Nat.le_refl _, h⟩, ?_⟩
  rintro i m H' ⟨rfl, hi, B', xs, rs, e', hb', hp', k, hl, hgo⟩
  obtain ⟨fg, fs⟩ := fd B' H' e'
  by_cases hlt : i < ds.length
  · obtain ⟨go, yl⟩ := fg i _ (List.getElem?_eq_getElem hlt)
    rw [List.drop_eq_getElem_cons hlt] at hgo
    refine .inr ⟨go, fun H2 => ∃ B2 xs2 rs2, Ext F.G B H B2 H2 ∧ B2 p = none ∧ H2 p = some (.lst xs2) ∧ DtAll F.G B2 xs2 rs2 ∧ rs2.length ≤ i + 1 ∧ lcGo (lcTurn f mc me (wipeE env vs)) (ds.drop (i + 1)) (fun r => Q0 (rs2 ++ r)) fun _ => False,
      fun H2 q => ⟨ds.length - (i + 1), by omega, rfl, hlt, q⟩, fun x H2 y => ?_⟩
    obtain ⟨B2, e2, kx⟩ := yl x H2 y
    have e02 := e'.trans e2
    have hp2 : H2 p = some (.lst xs) := e2.kp p _ (w.bag.neb hp).1 hp'
    have hb2 : B2 p = none := e2.out hp' (fun _ z => nomatch z) hb'
    have s2 : F.blk.Sf B2 H2 (L2.wipe σ vs) (wipeE env vs) := (s.ext1 e02).wipe vs
    obtain ⟨env3, e3, h3⟩ := opt_run hgo
    refine ⟨B2, wipeE env vs, ds[i], env3, s2, kx, e3, fun σ3 o3 s3 => ⟨o3.wipe, ?_⟩⟩
    refine rdT_step s3 h3 (fun c h4 H3 B3 e4 => ?_) fun x hx => hx.elim
    have e03 := e02.trans e4
    have hp3 : H3 p = some (.lst xs) := e4.kp p _ (w.bag.neb hp).1 hp2
    have hb3 : B3 p = none := e4.out hp2 (fun _ z => nomatch z) hb2
    have k3 := (k.same e2.bb).same e4.bb
    cases c with
    | false =>
      refine ⟨B3, xs, rs, e03, hb3, hp3, k3, by omega, ?_⟩
      exact h4
    | true =>
      have s4 := s3.ext1 e4
      refine rdE_step s4 h4 (fun r h5 v H4 B4 e5 r5 => ?_) fun x hx => hx.elim
      obtain ⟨d, ed, h6⟩ := opt_run h5
      obtain ⟨B5, sb5, e6, k5, nw⟩ := r5.escape s4.wf e5 ed
      have hp4 : H4 p = some (.lst xs) := e5.kp p _ (w.bag.neb hp).1 hp3
      have hb5 : B5 p = none := e6.out hp3 (fun _ z => nomatch z) hb3
      have k6 : DtAll F.G B5 (xs ++ [v]) (rs ++ [d]) := (k3.same e6.bb).app (.one k5)
      refine ⟨xs, hp4, by rw [k.len]; omega, B5, xs ++ [v], rs ++ [d], (e03.trans e6).set w hp hb5, hb5, upd_same, k6, by simp; omega, ?_⟩
      have h7 : lcGo (lcTurn f mc me (wipeE env vs)) (ds.drop (i + 1)) (fun r => Q0 (rs ++ ([d] ++ r))) fun _ => False := h6
      simpa [List.append_assoc] using h7
  · have e0 : i = ds.length := by omega
    subst e0
    rw [List.drop_length] at hgo
    have hgo : Q0 (rs ++ []) := hgo
    rw [List.append_nil] at hgo
    exact .inl ⟨fs, hq _ hgo H' B' xs e' hb' hp' k⟩
/-- [elt for target in iter if ..] -/
def rLc (mi : Env → M (List D)) (vs : List Nat) (f : D → Env → Option Env) (mc : Env → M Bool) (me : Env → M R) (env : Env) : M R := do
  let ds ← mi env
  M.need (ds.length ≤ sizeLine)
  let rs ← noEx (lcGo (lcTurn f mc me (wipeE env vs)) ds)
  pure (.ow (.lst rs))
theorem lc_read {mi : Env → M (List D)} {f : D → Env → Option Env} {mc : Env → M Bool} {me : Env → M R} {σ : L2.St} {Q : VK} (h : rdE F (rLc mi vs f mc me) σ H Q) : tLc (rdIX F mi) (rdG F.blk vs f) (rdT F.blk mc) (rdE F.blk me) vs σ H Q := by
  obtain ⟨B, env, Q0, E0, s, h, hq, hx⟩ := h
  refine ⟨B, env, _, E0, s, h, fun ds hd J H1 B1 e1 fd p hp => ?_, hx⟩
  obtain ⟨hz, hd⟩ := hd
  have s1 := s.ext1 e1
  refine lc_go (Qd := Q) s1 fd hz hd hp fun rs h2 H' B' xs e' hb' hp' k => ?_
  exact hq _ h2 _ H' B' (e1.trans e') ⟨p, _, rfl, e1.free hp, hb', hp', xs, rfl, k⟩
theorem se_lc {elt tg iter : Expr} {ifs : List Expr} {scope : Scope} {own : List (Str × Nat)} {mi : Env → M (List D)} {f : D → Env → Option Env} {mc : Env → M Bool} {me : Env → M R} (hc : X.calm = true) (hN : X.N.Nodup) (hi : PI X tg iter (rdIX F mi)) (ok : BlkOk X.N X.env.scope scope own)
    (hg : ∀ (s : Shared) (H : Hp) (C : Addr) (cl : List (Str × Addr)) (fp : List Addr), PG (X.blk s H scope (compEnvC scope cl C X.env) fp) tg (rdG F.blk (own.map (·.2)) f)) (ht : ∀ (s : Shared) (H : Hp) (C : Addr) (cl : List (Str × Addr)) (fp : List Addr), PTs (X.blk s H scope (compEnvC scope cl C X.env) fp) ifs (rdT F.blk mc))
    (he : ∀ (s : Shared) (H : Hp) (C : Addr) (cl : List (Str × Addr)) (fp : List Addr), PE (X.blk s H scope (compEnvC scope cl C X.env) fp) elt (rdE F.blk me)) (hs : ∀ x, foldedSetIterable iter X.env x = pure x) :
    PE X (.ListComp elt [⟨tg, iter, ifs, 0⟩] scope pos) (rdE F (rLc mi (own.map (·.2)) f mc me)) :=
  pe_imp (pe_lc hc hN hi ok hg ht he hs) fun _ _ _ => lc_read
/-- name = [..] on one line, the name a local -/
theorem ss_setLc {i : Nat} {y : Str} {py spos : Pos} {elt tg iter : Expr} {ifs : List Expr} {scope : Scope} {own : List (Str × Nat)} {mi : Env → M (List D)} {f : D → Env → Option Env} {mc : Env → M Bool} {me : Env → M R} (hc : X.calm = true) (hN : X.N.Nodup) (hy : X.N[i]? = some y) (hyl : X.env.scope.names.lookup y = some .local)
    (hsw : swapsWith (.ListComp elt [⟨tg, iter, ifs, 0⟩] scope pos) (some (.Name y py)) spos.line X.env = pure true) (hi : PI X tg iter (rdIX F mi)) (ok : BlkOk X.N X.env.scope scope own)
    (hg : ∀ (s : Shared) (H : Hp) (C : Addr) (cl : List (Str × Addr)) (fp : List Addr), PG (X.blk s H scope (compEnvC scope cl C X.env) fp) tg (rdG F.blk (own.map (·.2)) f)) (ht : ∀ (s : Shared) (H : Hp) (C : Addr) (cl : List (Str × Addr)) (fp : List Addr), PTs (X.blk s H scope (compEnvC scope cl C X.env) fp) ifs (rdT F.blk mc))
    (he : ∀ (s : Shared) (H : Hp) (C : Addr) (cl : List (Str × Addr)) (fp : List Addr), PE (X.blk s H scope (compEnvC scope cl C X.env) fp) elt (rdE F.blk me)) (hs : ∀ x, foldedSetIterable iter X.env x = pure x) :
    PS X (.Assign [.Name y py] (.ListComp elt [⟨tg, iter, ifs, 0⟩] scope pos) spos) (rdS F fun env => MS.of (do let r ← rLc mi (own.map (·.2)) f mc me env; M.opt r.sl) env fun sl => MS.ret (.nx (env.set i (some sl)))) := by
  refine ps_imp (ps_setLc hc hN hy hyl hsw hi ok hg ht he hs) ?_
  rintro Dn σ H ⟨B, env, Q0, s, h, hq⟩
  refine lc_read (F := F) (rdE_step s h (fun r h1 v H1 B1 e1 r1 => ?_) (exOk s hq))
  obtain ⟨sl, er, h2⟩ := opt_run h1
  exact hq _ h2 _ H1 B1 (Sf.put s e1 r1 er) e1.bb
end
end IP

/-! IP11: what a name holds alone is changed. -/
namespace IP
open PySem PySem.Spec PyProof.Rows L2 FA
def owSlot : Option (Option Sl) → Option D
  | some (some (.ow d)) => some d
  | _ => none
section
variable {G : Gx} {B0 H0 B B1 H H1 : Hp} {σ : L2.St} {env : Env}
theorem owSlot_some {o : Option (Option Sl)} {d : D} (h : owSlot o = some d) : o = some (some (.ow d)) := by
  match o, h with
  | some (some (.ow d')), h => cases h; rfl
theorem Sf.mut (s : Sf G B0 H0 B H σ env) {i : Nat} {d d' : D} (h : env[i]? = some (some (.ow d))) {a : Addr} (ha : σ[i]? = some (some (.ref a))) {o' : HO} (k : Cont G B o' d') : Sf G B0 H0 B (upd H a o') σ (env.set i (some (.ow d'))) := by
  have oa : ownedAt env σ i a := ⟨d, h, ha⟩
  have h0 := s.own i a oa
  obtain ⟨hb, _⟩ := s.ownB oa
  have hlt : i < env.length := (List.getElem?_eq_some_iff.mp h).1
  have own_ne : ∀ {j : Nat} {x : Addr}, ownedAt (env.set i (some (.ow d'))) σ j x → ownedAt env σ j x := by
    rintro j x ⟨d2, q1, q2⟩
    by_cases z : i = j
    · subst z
      exact ⟨d, h, q2⟩
    · rw [List.getElem?_set_ne z] at q1
      exact ⟨d2, q1, q2⟩
  refine ⟨s.w0, s.ext.set s.w0 h0 hb, by simp [s.len], fun j sl hj => ?_, fun j x hj => s.own j x (own_ne hj), fun j l x hj hl => s.sep j l x (own_ne hj) (own_ne hl), fun j a c fs hj => s.i0 j a c fs (ini_ne (fun _ _ _ z => by cases z) hj)⟩
  by_cases z : i = j
  · subst z
    rw [List.getElem?_set_self hlt] at hj
    cases hj
    exact ⟨_, ha, a, o', rfl, hb, upd_same, k⟩
  · rw [List.getElem?_set_ne z] at hj
    obtain ⟨v, hv, r⟩ := s.val j sl hj
    refine ⟨v, hv, ?_⟩
    match sl, r, hj with
    | .sh d2, r, _ => exact r
    | .ow d2, ⟨a', o2, e1, e2, e3, e4⟩, hj =>
      refine ⟨a', o2, e1, e2, ?_, e4⟩
      rw [upd_ne ?_]
      · exact e3
      · intro y
        subst y
        exact z (s.sep i j a' oa ⟨d2, hj, by rw [hv, e1]⟩)
    | .ini a' c fs, ⟨C, dx, ws, q1, ii, kk⟩, hj =>
      obtain ⟨_, oc, dc, hac, _, kc⟩ := s.ownB oa
      obtain ⟨⟨o1, p1, _, p3⟩, ⟨o2, r1, _, r3⟩⟩ := ii.at
      have n1 : a' ≠ a := fun y => by
        subst y
        rw [hac] at p1
        cases Option.some.inj p1
        exact p3 _ _ kc
      have n2 : dx ≠ a := fun y => by
        subst y
        rw [hac] at r1
        cases Option.some.inj r1
        exact r3 _ _ kc
      exact ⟨C, dx, ws, q1, ii.move (upd_ne n1) (upd_ne n2) ii.aB ii.dB, kk⟩
end
/-- a method that changes its list, by trees: what comes of the content and the arguments, what is told -/
def MutOk (X : Cx) (r : V → List V → Hp → VK → Prop) (mu : D → List D → Option (D × D)) : Prop :=
  ∀ (G : Gx) (B H : Hp) (a : Addr) (o : HO) (d : D) (xs : List V) (ds : List D) (d' res : D) (Q : VK), H a = some o → Cont G B o d → SubL B H → DtAll G B xs ds → mu d ds = some (d', res) →
    (∀ o' v, Cont G B o' d' → Dt G B v res → Q v (upd H a o')) → r (.ref a) xs H Q
section
variable {X : Cx}
def muAppend : D → List D → Option (D × D)
  | .lst xs, [y] => if xs.length < sizeLine then some (.lst (xs ++ [y]), .non) else none
  | _, _ => none
theorem mo_append : MutOk X rAppend muAppend := by
  intro G B H a o d xs ds d' res Q ha c sb k e q
  match d, ds, e, c, k with
  | .lst zs, [y], e, ⟨us, eo, ku⟩, .cons ky .nil =>
    simp only [muAppend] at e
    split at e
    next hz =>
      cases e
      subst eo
      exact ⟨a, us, _, rfl, rfl, ha, by rw [ku.len]; exact hz, q _ _ ⟨_, rfl, ku.app (.one ky)⟩ .non⟩
    next => cases e
def muInsert : D → List D → Option (D × D)
  | .lst xs, [.int i, y] => if xs.length < sizeLine ∧ 0 ≤ i ∧ i < 2 ^ 63 then some (.lst (xs.take i.toNat ++ [y] ++ xs.drop i.toNat), .non) else none
  | _, _ => none
def rInsert : V → List V → Hp → VK → Prop := fun x vs H Q => ∃ (l : Addr) (xs : List V) (i : Int) (y : V), x = .ref l ∧ vs = [.int i, y] ∧ H l = some (.lst xs) ∧ xs.length < sizeLine ∧ 0 ≤ i ∧ i < 2 ^ 63 ∧
    Q .non (upd H l (.lst (xs.take i.toNat ++ [y] ++ xs.drop i.toNat)))
theorem mo_insert : MutOk X rInsert muInsert := by
  intro G B H a o d xs ds d' res Q ha c sb k e q
  match d, ds, e, c, k with
  | .lst zs, [.int i, y], e, ⟨us, eo, ku⟩, .cons ki (.cons ky .nil) =>
    simp only [muInsert] at e
    split at e
    next hz =>
      cases e
      subst eo
      cases ki
      exact ⟨a, us, i, _, rfl, rfl, ha, by rw [ku.len]; exact hz.1, hz.2.1, hz.2.2, q _ _ ⟨_, rfl, ((ku.take _).app (.one ky)).app (ku.drop _)⟩ .non⟩
    next => cases e
def muExtend : D → List D → Option (D × D)
  | .lst xs, [.lst ys] => if xs.length + ys.length ≤ sizeLine then some (.lst (xs ++ ys), .non) else none
  | _, _ => none
theorem mo_extend : MutOk X rExtend muExtend := by
  intro G B H a o d xs ds d' res Q ha c sb k e q
  match d, ds, e, c, k with
  | .lst zs, [.lst ys], e, ⟨us, eo, ku⟩, .cons (.lst hb kb) .nil =>
    simp only [muExtend] at e
    split at e
    next hz =>
      cases e
      subst eo
      exact ⟨a, _, us, _, rfl, rfl, ha, sb.ex hb rfl, by rw [ku.len, kb.len]; exact hz, q _ _ ⟨_, rfl, ku.app kb⟩ .non⟩
    next => cases e
def muPop : D → List D → Option (D × D)
  | .lst xs, [] => (xs[xs.length - 1]?).map fun y => (.lst xs.dropLast, y)
  | _, _ => none
theorem DtAll.dropLast {G : Gx} {B : Hp} : ∀ {vs : List V} {ds : List D}, DtAll G B vs ds → DtAll G B vs.dropLast ds.dropLast
  | _, _, .nil => .nil
  | _, _, .cons _ .nil => .nil
  | _, _, .cons a (.cons b c) => .cons a (DtAll.dropLast (.cons b c))
theorem DtAll.erase {G : Gx} {B : Hp} : ∀ {vs : List V} {ds : List D} (i : Nat), DtAll G B vs ds → DtAll G B (vs.eraseIdx i) (ds.eraseIdx i)
  | _, _, _, .nil => .nil
  | _, _, 0, .cons _ t => t
  | _, _, i + 1, .cons a t => .cons a (t.erase i)
theorem mo_pop : MutOk X rPop muPop := by
  intro G B H a o d xs ds d' res Q ha c sb k e q
  match d, ds, e, c, k with
  | .lst zs, [], e, ⟨us, eo, ku⟩, .nil =>
    obtain ⟨y, hy, er⟩ := Option.map_eq_some_iff.mp e
    cases er
    subst eo
    obtain ⟨v, hv, kv⟩ := ku.at hy
    rw [← ku.len] at hv
    exact ⟨a, us, v, rfl, rfl, ha, hv, q _ _ ⟨_, rfl, ku.dropLast⟩ kv⟩
def muPopAt : D → List D → Option (D × D)
  | .lst xs, [.int i] => if -(2 ^ 63) ≤ i ∧ i < 2 ^ 63 then match seqIndex? i xs.length with
    | some k => (xs[k]?).map fun y => (.lst (xs.eraseIdx k), y)
    | none => none
    else none
  | _, _ => none
theorem mo_popAt : MutOk X rPopAt muPopAt := by
  intro G B H a o d xs ds d' res Q ha c sb k e q
  match d, ds, e, c, k with
  | .lst zs, [.int i], e, ⟨us, eo, ku⟩, .cons ki .nil =>
    simp only [muPopAt] at e
    split at e
    next hz =>
      split at e
      next j hj =>
        obtain ⟨y, hy, er⟩ := Option.map_eq_some_iff.mp e
        cases er
        subst eo
        cases ki
        obtain ⟨v, hv, kv⟩ := ku.at hy
        exact ⟨a, us, i, j, v, rfl, rfl, ha, hz.1, hz.2, by rw [ku.len]; exact hj, hv, q _ _ ⟨_, rfl, ku.erase j⟩ kv⟩
      next => cases e
    next => cases e
def muClear : D → List D → Option (D × D)
  | .lst _, [] => some (.lst [], .non)
  | _, _ => none
theorem mo_clear : MutOk X rClear muClear := by
  intro G B H a o d xs ds d' res Q ha c sb k e q
  match d, ds, e, c, k with
  | .lst zs, [], e, ⟨us, eo, ku⟩, .nil =>
    cases e
    subst eo
    exact ⟨a, us, rfl, rfl, ha, q _ _ ⟨_, rfl, .nil⟩ .non⟩
def muReverse : D → List D → Option (D × D)
  | .lst xs, [] => some (.lst xs.reverse, .non)
  | _, _ => none
theorem DtAll.rev {G : Gx} {B : Hp} : ∀ {vs : List V} {ds : List D}, DtAll G B vs ds → DtAll G B vs.reverse ds.reverse
  | _, _, .nil => .nil
  | _, _, .cons a t => by rw [List.reverse_cons, List.reverse_cons]; exact t.rev.app (.one a)
theorem mo_reverse : MutOk X rReverse muReverse := by
  intro G B H a o d xs ds d' res Q ha c sb k e q
  match d, ds, e, c, k with
  | .lst zs, [], e, ⟨us, eo, ku⟩, .nil =>
    cases e
    subst eo
    exact ⟨a, us, rfl, rfl, ha, q _ _ ⟨_, rfl, ku.rev⟩ .non⟩
end
section
variable {X : Cx} {F : Fx} {G : Gx} {B B1 B2 H H1 H2 : Hp} {e a b : Expr} {pos p apos cpos : Pos}
theorem var_ow {σ : L2.St} {env : Env} (s : F.Sf B H σ env) {i : Nat} {d : D} (h : env[i]? = some (some (.ow d))) : ∃ a o, σ[i]? = some (some (.ref a)) ∧ H a = some o ∧ Cont F.G B o d ∧ a ≠ F.G.b ∧ B a = none := by
  obtain ⟨v, hv, a, o, rfl, n, ha, k⟩ := s.val i _ h
  have h0 := s.own i a ⟨d, h, hv⟩
  exact ⟨a, o, hv, ha, k, (s.w0.bag.neb h0).1, n⟩
/-- the reading of x.m(..) with x a name that holds a list alone -/
theorem mut_read {i : Nat} {r : V → List V → Hp → VK → Prop} {mu : D → List D → Option (D × D)} {ms : Env → M (List R)} {σ : L2.St} {env : Env} {Q0 : D × D → Prop} {E0 : Xn → Prop} {Q : VK} (ho : MutOk X r mu) (s : F.Sf B H σ env)
    (h : (do let d ← M.opt (owSlot env[i]?); M.need (∃ xs, d = .lst xs); let rs ← ms env; let ds ← M.opt (escs rs); M.opt (mu d ds) : M (D × D)) Q0 E0)
    (hq : ∀ d' res, Q0 (d', res) → ∀ v H' B', F.Sf B' H' σ (env.set i (some (.ow d'))) → Same B B' → Dt F.G B' v res → Q v H')
    (hx : ∀ x, E0 x → ∀ cls d H' B', Ext F.G B H B' H' → ExnR F.G B' H' x cls d → F.W cls d σ H') : tVar i σ H fun x H1 => tyV X.K "list" x H1 ∧ rdA F ms σ H1 fun ys H2 => r x ys H2 Q := by
  obtain ⟨d, ed, h⟩ := opt_run h
  obtain ⟨⟨zs, ez⟩, h⟩ := h
  have hs := owSlot_some ed
  obtain ⟨a, o, ha, ho1, k, nb, nB⟩ := var_ow s hs
  have hl : ∃ us, o = .lst us := by
    subst ez
    obtain ⟨us, e, _⟩ := k
    exact ⟨us, e⟩
  refine ⟨.ref a, ha, ?_, ?_⟩
  · obtain ⟨us, e⟩ := hl
    subst e
    exact .inl ⟨rfl, us, SqL.of ho1⟩
  · refine rdA_step s h (fun rs h1 vs H1 B1 e1 r1 => ?_) hx
    obtain ⟨ds, eds, h2⟩ := opt_run h1
    obtain ⟨⟨d', res⟩, em, h3⟩ := opt_run h2
    obtain ⟨B2, s2, e2, k2⟩ := r1.escape s.wf e1 eds
    have ha1 : H1 a = some o := e1.kp a o nb ho1
    exact ho F.G B2 H1 a o d vs ds d' res Q ha1 (k.keep (.of e2.bb)) e2.sub k2 em fun o' v c kv => hq d' res h3 v _ B2 ((s.ext1 e2).mut hs ha c) e2.bb kv
end
end IP

/-! IP12: x.m(..) as a statement; x[k] = v; a, b = x, y. -/
namespace IP
open PySem PySem.Spec PyProof.Rows L2 FA
def mutM (i : Nat) (mu : D → List D → Option (D × D)) (ms : Env → M (List R)) (env : Env) : M (D × D) := do
  let d ← M.opt (owSlot env[i]?)
  M.need (∃ xs, d = .lst xs)
  let rs ← ms env
  let ds ← M.opt (escs rs)
  M.opt (mu d ds)
section
variable {X : Cx} {F : Fx} {G : Gx} {B B1 B2 H H1 H2 : Hp} {e a b : Expr} {pos p apos cpos : Pos}
/-- x.m(e, ..) -/
theorem ss_mut {i : Nat} {x name : Str} {id : String} {es : List Expr} {r : V → List V → Hp → VK → Prop} {mu : D → List D → Option (D × D)} {ms : Env → M (List R)} (ho : MutOk X r mu) (slot : Slot "list" name id) (hty : typeOf (.builtin id) = pure (.type "method_descriptor")) (hm : MtR X id r)
    (hN : X.N[i]? = some x) (hv : Vis X.env.scope x) (hd : (x == ("__debug__" : Str)) = false) (hcd : (x == ("__classdict__" : Str)) = false) (ha : PA X (e :: es) (rdA F ms))
    (hfew : ((backTo cpos (starEach (e :: es) X.env)).all (fun x => !x.1) && (backToKw cpos (keywordEach [] X.env)).all (fun x => x.1.isSome) && decide ((e :: es).length + ([] : List Keyword).length + (if ([] : List Keyword).isEmpty then 0 else 1) < 30)) = true)
    (hline : (apos.endLine == cpos.line) = true) (hs : starEach (e :: es) X.env = (false, eval e X.env) :: starEach es X.env) (hplain : (backTo cpos (starEach es X.env)).any (·.1) = false) :
    PS X (.Expr (.Call (.Attribute (.Name x p) name apos) (e :: es) [] cpos) pos) (rdS F fun env => MS.of (mutM i mu ms env) env fun q => MS.ret (.nx (env.set i (some (.ow q.1))))) := by
  refine ps_imp (ps_expr (pe_bm PySem.F.plainAttrs_list slot hty hm (pe_var hN hv hd hcd) ha rfl hfew hline hs hplain) rfl) ?_
  rintro Dn σ H ⟨B, env, Q0, s, h, hq⟩
  exact mut_read ho s h (fun d' res h1 v H' B' s' k kv => hq _ h1 σ H' B' s' k) (exOk s hq)
theorem ss_mut0 {i : Nat} {x name : Str} {id : String} {r : V → List V → Hp → VK → Prop} {mu : D → List D → Option (D × D)} (ho : MutOk X r mu) (slot : Slot "list" name id) (hty : typeOf (.builtin id) = pure (.type "method_descriptor")) (hm : MtR X id r)
    (hN : X.N[i]? = some x) (hv : Vis X.env.scope x) (hd : (x == ("__debug__" : Str)) = false) (hcd : (x == ("__classdict__" : Str)) = false) (hline : (apos.endLine == cpos.line) = true) :
    PS X (.Expr (.Call (.Attribute (.Name x p) name apos) [] [] cpos) pos) (rdS F fun env => MS.of (mutM i mu (fun _ => pure []) env) env fun q => MS.ret (.nx (env.set i (some (.ow q.1))))) := by
  refine ps_imp (ps_expr (pe_bm0 PySem.F.plainAttrs_list slot hty hm (pe_var hN hv hd hcd) rfl hline) rfl) ?_
  rintro Dn σ H ⟨B, env, Q0, s, h, hq⟩
  obtain ⟨d, ed, h⟩ := opt_run h
  obtain ⟨⟨zs, ez⟩, h⟩ := h
  obtain ⟨a, o, ha, ho1, k, nb, nB⟩ := var_ow s (owSlot_some ed)
  obtain ⟨ds0, e0, h⟩ := opt_run h
  cases e0
  obtain ⟨⟨d', res⟩, em, h3⟩ := opt_run h
  refine ⟨.ref a, ha, ?_, ?_⟩
  · subst ez
    obtain ⟨us, eo, _⟩ := k
    subst eo
    exact .inl ⟨rfl, us, SqL.of ho1⟩
  · exact ho F.G B H a o d [] [] d' res _ ho1 k s.wf.sub .nil em fun o' v c kv => hq _ h3 σ _ B (s.mut (owSlot_some ed) ha c) (Same.refl _)
/-- y = x.m(e, ..) -/
theorem ss_setMut {i j : Nat} {x y name : Str} {id : String} {es : List Expr} {r : V → List V → Hp → VK → Prop} {mu : D → List D → Option (D × D)} {ms : Env → M (List R)} {py : Pos} (hij : j ≠ i) (ho : MutOk X r mu) (slot : Slot "list" name id) (hty : typeOf (.builtin id) = pure (.type "method_descriptor")) (hm : MtR X id r)
    (hN : X.N[i]? = some x) (hv : Vis X.env.scope x) (hd : (x == ("__debug__" : Str)) = false) (hcd : (x == ("__classdict__" : Str)) = false) (hnd : X.N.Nodup) (hj : X.N[j]? = some y) (hy : Loc X.env.scope y) (hf : X.fn y = true ∨ X.env.scope.names.lookup y = some .local) (ha : PA X (e :: es) (rdA F ms))
    (hfew : ((backTo cpos (starEach (e :: es) X.env)).all (fun x => !x.1) && (backToKw cpos (keywordEach [] X.env)).all (fun x => x.1.isSome) && decide ((e :: es).length + ([] : List Keyword).length + (if ([] : List Keyword).isEmpty then 0 else 1) < 30)) = true)
    (hline : (apos.endLine == cpos.line) = true) (hs : starEach (e :: es) X.env = (false, eval e X.env) :: starEach es X.env) (hplain : (backTo cpos (starEach es X.env)).any (·.1) = false) :
    PS X (.Assign [.Name y py] (.Call (.Attribute (.Name x p) name apos) (e :: es) [] cpos) pos) (rdS F fun env => MS.of (mutM i mu ms env) env fun q => MS.ret (.nx ((env.set i (some (.ow q.1))).set j (some (.sh q.2))))) := by
  refine ps_imp (ps_set hnd hj hy (pe_bm PySem.F.plainAttrs_list slot hty hm (pe_var hN hv hd hcd) ha rfl hfew hline hs hplain) rfl hf) ?_
  rintro Dn σ H ⟨B, env, Q0, s, h, hq⟩
  exact mut_read ho s h (fun d' res h1 v H' B' s' k kv => hq _ h1 _ H' B' (s'.setSh kv) k) (exOk s hq)
theorem ss_setMut0 {i j : Nat} {x y name : Str} {id : String} {r : V → List V → Hp → VK → Prop} {mu : D → List D → Option (D × D)} {py : Pos} (hij : j ≠ i) (ho : MutOk X r mu) (slot : Slot "list" name id) (hty : typeOf (.builtin id) = pure (.type "method_descriptor")) (hm : MtR X id r)
    (hN : X.N[i]? = some x) (hv : Vis X.env.scope x) (hd : (x == ("__debug__" : Str)) = false) (hcd : (x == ("__classdict__" : Str)) = false) (hnd : X.N.Nodup) (hj : X.N[j]? = some y) (hy : Loc X.env.scope y) (hf : X.fn y = true ∨ X.env.scope.names.lookup y = some .local) (hline : (apos.endLine == cpos.line) = true) :
    PS X (.Assign [.Name y py] (.Call (.Attribute (.Name x p) name apos) [] [] cpos) pos) (rdS F fun env => MS.of (mutM i mu (fun _ => pure []) env) env fun q => MS.ret (.nx ((env.set i (some (.ow q.1))).set j (some (.sh q.2))))) := by
  refine ps_imp (ps_set hnd hj hy (pe_bm0 PySem.F.plainAttrs_list slot hty hm (pe_var hN hv hd hcd) rfl hline) rfl hf) ?_
  rintro Dn σ H ⟨B, env, Q0, s, h, hq⟩
  obtain ⟨d, ed, h⟩ := opt_run h
  obtain ⟨⟨zs, ez⟩, h⟩ := h
  obtain ⟨a, o, ha, ho1, k, nb, nB⟩ := var_ow s (owSlot_some ed)
  obtain ⟨ds0, e0, h⟩ := opt_run h
  cases e0
  obtain ⟨⟨d', res⟩, em, h3⟩ := opt_run h
  refine ⟨.ref a, ha, ?_, ?_⟩
  · subst ez
    obtain ⟨us, eo, _⟩ := k
    subst eo
    exact .inl ⟨rfl, us, SqL.of ho1⟩
  · exact ho F.G B H a o d [] [] d' res _ ho1 k s.wf.sub .nil em fun o' v c kv => hq _ h3 _ _ B ((s.mut (owSlot_some ed) ha c).setSh kv) (Same.refl _)
/-! ### x[k] = v -/
/-- an empty dict is of both kinds -/
theorem Inv.retT {pins : List (Addr × Obj)} {σ : L2.St} {s : Shared} {a : Addr} (I : Inv X pins σ H s) (h : H a = some (.dK [])) : Inv X pins σ (upd H a (.dT [])) s := by
  obtain ⟨hn, o, es, ep, ho, hx, hd, he, _, _⟩ := nil_dictOfH I (.inl h)
  exact d_write (t' := s.toks) I (by rw [h]; exact True.intro) ⟨rfl, fun _ _ => rfl⟩ ⟨o, ho⟩ ⟨Nat.zero_le _, hn, [], .nil, o, es, ep, ho, hx, hd, he, by simp⟩
theorem Inv.retK {pins : List (Addr × Obj)} {σ : L2.St} {s : Shared} {a : Addr} (I : Inv X pins σ H s) (h : H a = some (.dT [])) : Inv X pins σ (upd H a (.dK [])) s := by
  obtain ⟨hn, dd⟩ := nil_dictOf I (.inl h)
  have dd' := dd
  obtain ⟨o, es, ep, ho, _⟩ := dd'
  exact d_write (t' := s.toks) I (by rw [h]; exact True.intro) ⟨rfl, fun _ _ => rfl⟩ ⟨o, ho⟩ ⟨Nat.zero_le _, hn, [], .nil, dd⟩
def putD (es : List (D × D)) (k v : D) (same : D → Bool) : List (D × D) :=
  if (es.any fun p => same p.1) = true then es.map (fun p => if same p.1 = true then (p.1, v) else p) else es ++ [(k, v)]
def dPut (es : List (D × D)) (x v : D) : Option (List (D × D)) :=
  match x with
  | .int i => if (es.all fun p => (keyOf p.1).isSome) = true then some (putD es (.int i) v fun d => decide (keyOf d = some (.inl i))) else none
  | .str z => if (es.all fun p => (keyOf p.1).isSome) = true then some (putD es (.str z) v fun d => decide (keyOf d = some (.inr z))) else none
  | .tup (d :: ds) => match keysOf (d :: ds) with
    | some k => if (es.all fun p => (tupOf p.1).isSome) = true then some (putD es (.tup (d :: ds)) v fun d => decide (tupOf d = some k)) else none
    | none => none
  | _ => none
theorem DtK.any (k : Key) : ∀ {ks : List (Key × V)} {es : List (D × D)}, DtK G B ks es → (ks.any fun kv => decide (kv.1 = k)) = es.any fun p => decide (keyOf p.1 = some k)
  | _, _, .nil => rfl
  | _, _, .cons _ t => by
    simp only [List.any_cons, keyOf_kD, Option.some.injEq]
    rw [t.any k]
theorem DtK.mapPut {v : V} {d : D} (kd : Dt G B v d) (k : Key) : ∀ {ks : List (Key × V)} {es : List (D × D)}, DtK G B ks es → DtK G B (ks.map fun kv => if kv.1 = k then (kv.1, v) else kv) (es.map fun p => if decide (keyOf p.1 = some k) = true then (p.1, d) else p)
  | _, _, .nil => .nil
  | _, _, .cons (k := k0) a t => by
    have ih := t.mapPut kd k
    simp only [List.map_cons, keyOf_kD, Option.some.injEq, decide_eq_true_eq] at ih ⊢
    by_cases e : k0 = k
    · rw [if_pos e, if_pos e]
      exact .cons kd ih
    · rw [if_neg e, if_neg e]
      exact .cons a ih
theorem DtK.snoc {v : V} {d : D} (kd : Dt G B v d) (k : Key) : ∀ {ks : List (Key × V)} {es : List (D × D)}, DtK G B ks es → DtK G B (ks ++ [(k, v)]) (es ++ [(kD k, d)])
  | _, _, .nil => .cons kd .nil
  | _, _, .cons a t => .cons a (t.snoc kd k)
theorem DtK.put {v : V} {d : D} (kd : Dt G B v d) (k : Key) {ks : List (Key × V)} {es : List (D × D)} (h : DtK G B ks es) : DtK G B (putK ks k v) (putD es (kD k) d fun d => decide (keyOf d = some k)) := by
  unfold putK putD
  rw [h.any k]
  split
  · exact h.mapPut kd k
  · exact h.snoc kd k
theorem DtT.any (k : List Key) : ∀ {ks : List (List Key × V)} {es : List (D × D)}, DtT G B ks es → (ks.any fun kv => decide (kv.1 = k)) = es.any fun p => decide (tupOf p.1 = some k)
  | _, _, .nil => rfl
  | _, _, .cons _ t => by
    rw [List.any_cons, List.any_cons, t.any k]
    congr 1
    simp only [tupOf, keysOf_kD, Option.some.injEq]
theorem DtT.mapPut {v : V} {d : D} (kd : Dt G B v d) (k : List Key) : ∀ {ks : List (List Key × V)} {es : List (D × D)}, DtT G B ks es → DtT G B (ks.map fun kv => if kv.1 = k then (kv.1, v) else kv) (es.map fun p => if decide (tupOf p.1 = some k) = true then (p.1, d) else p)
  | _, _, .nil => .nil
  | _, _, .cons (k := k0) a t => by
    have ih := t.mapPut kd k
    rw [List.map_cons, List.map_cons]
    by_cases e : k0 = k
    · rw [if_pos e, if_pos (by simp [tupOf, keysOf_kD, e])]
      exact .cons kd ih
    · rw [if_neg e, if_neg (by simp [tupOf, keysOf_kD, e])]
      exact .cons a ih
theorem DtT.snoc {v : V} {d : D} (kd : Dt G B v d) (k : List Key) : ∀ {ks : List (List Key × V)} {es : List (D × D)}, DtT G B ks es → DtT G B (ks ++ [(k, v)]) (es ++ [(.tup (k.map kD), d)])
  | _, _, .nil => .cons kd .nil
  | _, _, .cons a t => .cons a (t.snoc kd k)
theorem DtT.put {v : V} {d : D} (kd : Dt G B v d) (k : List Key) {ks : List (List Key × V)} {es : List (D × D)} (h : DtT G B ks es) : DtT G B (putK ks k v) (putD es (.tup (k.map kD)) d fun d => decide (tupOf d = some k)) := by
  unfold putK putD
  rw [h.any k]
  split
  · exact h.mapPut kd k
  · exact h.snoc kd k
/-- o[i] = v by trees: o is at a, held alone -/
def setD : D → D → D → Option D
  | .lst ds, .int i, v => (ixN ds.length i).map fun j => .lst (ds.set j v)
  | .dct es, k, v => if es.length < sizeLine then (dPut es k v).map D.dct else none
  | _, _, _ => none
def rdSet (G : Gx) : TSet := fun o i v H Q => ∃ B a ob d di dv d', Wf G B H ∧ o = .ref a ∧ B a = none ∧ H a = some ob ∧ Cont G B ob d ∧ View G B H i di ∧ Dt G B v dv ∧ setD d di dv = some d' ∧ ∀ ob', Cont G B ob' d' → Q (upd H a ob')
theorem dput_go {pins : List (Addr × Obj)} {σ : L2.St} {s : Shared} {a : Addr} {ob : HO} {es es' : List (D × D)} {y v : V} {u r : Value} {di dv : D} {Q : Hp → Prop} (hu : X.A.units + 1 < cLine) (I : Inv X pins σ H s) (w : Wf G B H) (ha : H a = some ob) (c : Cont G B ob (.dct es)) (vy : View G B H y di) (kv : Dt G B v dv)
    (hz : es.length < sizeLine) (hp : dPut es di dv = some es') (ry : RelV y u) (rv : RelV v r) (q : ∀ ob', Cont G B ob' (.dct es') → Q (upd H a ob')) : wpAny (model X.prog X.w) X.A (setItem (.ref a) u r) (fun _ s' => ∃ H', Inv X pins σ H' s' ∧ Q H') X.xe s := by
  have sc : ∀ k : Key, y = kV k → (es.all fun p => (keyOf p.1).isSome) = true → es' = putD es (kD k) dv (fun d => decide (keyOf d = some k)) → wpAny (model X.prog X.w) X.A (setItem (.ref a) u r) (fun _ s' => ∃ H', Inv X pins σ H' s' ∧ Q H') X.xe s := by
    rintro k rfl hal rfl
    rcases c with ⟨ks, eo, h⟩ | ⟨ks, eo, h⟩
    · subst eo
      exact d_setItem hu I (DPut.k (k := k) ha (by rw [h.len]; exact hz)) ry rv fun s' I' => ⟨_, I', q _ (.inl ⟨_, rfl, h.put kv k⟩)⟩
    · obtain ⟨rfl, rfl⟩ := h.all hal
      subst eo
      have e2 : upd (upd H a (.dK [])) a (.dK (putK [] k v)) = upd H a (.dK (putK [] k v)) := upd_upd
      exact d_setItem hu (IP.Inv.retK I ha) (DPut.k (k := k) (kvs := []) upd_same (by decide)) ry rv fun s' I' => ⟨_, e2 ▸ I', q _ (.inl ⟨_, rfl, DtK.nil.put kv k⟩)⟩
  match di, hp, vy with
  | .int i, hp, vy =>
    simp only [dPut] at hp
    split at hp
    next hal => exact sc (.inl i) vy.int hal (Option.some.inj hp).symm
    next => cases hp
  | .str i, hp, vy =>
    simp only [dPut] at hp
    split at hp
    next hal => exact sc (.inr i) vy.str hal (Option.some.inj hp).symm
    next => cases hp
  | .tup (d :: ds), hp, vy =>
    simp only [dPut] at hp
    split at hp
    next k hk =>
      split at hp
      next hal =>
        have er := Option.some.inj hp
        subst er
        have eds := keysOf_map hk
        obtain ⟨_, _, _, _, _, hdt⟩ := vy.tup w
        cases hdt with
        | @tup p xs _ hp2 hxs =>
          rw [eds] at hxs
          have ex := hxs.kVs
          subst ex
          have hp' := w.sub.ex hp2 rfl
          rcases c with ⟨ks, eo, h⟩ | ⟨ks, eo, h⟩
          · obtain ⟨rfl, rfl⟩ := h.all hal
            subst eo
            have e2 : upd (upd H a (.dT [])) a (.dT (putK [] k v)) = upd H a (.dT (putK [] k v)) := upd_upd
            have hpa : p ≠ a := ne_of hp' ha (fun z => nomatch z)
            refine d_setItem hu (IP.Inv.retT I ha) (DPut.t (k := k) (kvs := []) upd_same (by rw [upd_ne hpa]; exact hp') (by decide)) ry rv fun s' I' => ⟨_, e2 ▸ I', q _ (.inr ⟨_, rfl, ?_⟩)⟩
            rw [eds]
            exact DtT.nil.put kv k
          · subst eo
            refine d_setItem hu I (DPut.t (k := k) ha hp' (by rw [h.len]; exact hz)) ry rv fun s' I' => ⟨_, I', q _ (.inr ⟨_, rfl, ?_⟩)⟩
            rw [eds]
            exact h.put kv k
      next => cases hp
    next => cases hp
theorem ob_set (hu : X.A.units + 1 < cLine) : PSet X (rdSet G) := by
  intro pins s σ H o i v ov iv u Q I ro ri rv h
  obtain ⟨B, a, ob, d, di, dv, d', w, rfl, hb, ha, c, vy, kv, e, q⟩ := h
  cases ro
  match d, di, e, c, vy with
  | .lst ds, .int k, e, ⟨us, eo, ku⟩, vy =>
    obtain ⟨j, hj, er⟩ := Option.map_eq_some_iff.mp e
    subst er
    subst eo
    exact set_list pins s σ H (.ref a) _ v _ iv u Q I rfl ri rv ⟨a, us, k, j, rfl, vy.int, ha, by rw [ku.len]; exact hj, q _ ⟨_, rfl, ku.set kv j⟩⟩
  | .dct es, di, e, c, vy =>
    simp only [setD] at e
    split at e
    next hz =>
      obtain ⟨es', he, er⟩ := Option.map_eq_some_iff.mp e
      subst er
      exact dput_go hu I w ha c vy kv hz he ri rv q
    next => cases e
/-- x[k] = e, x a name that holds its list or dict alone -/
def putM (i : Nat) (mk me : Env → M R) (env : Env) : M D := do
  let r ← me env
  let v ← M.opt r.esc
  let d ← M.opt (owSlot env[i]?)
  let k ← mk env
  M.opt (setD d k.d v)
theorem ss_put {i : Nat} {x : Str} {tpos : Pos} {k value : Expr} {mk me : Env → M R} (hu : X.A.units + 1 < cLine) (hN : X.N[i]? = some x) (hv : Vis X.env.scope x) (hd : (x == ("__debug__" : Str)) = false) (hcd : (x == ("__classdict__" : Str)) = false) (hk : PE X k (rdE F mk)) (he : PE X value (rdE F me))
    (hsub : ∀ v, assign (.Subscript (.Name x p) k tpos) X.env v = (do
      let ov ← holding [v] (eval (.Name x p) X.env)
      let iv ← holding [v, ov] (eval k X.env)
      standAt tpos
      holding [v, ov, iv] (setItem ov iv v)
      release [v, ov, iv] []))
    (hs : swapsWithSole [.Subscript (.Name x p) k tpos] value pos.line X.env = pure false) (hw : swappedStores [.Subscript (.Name x p) k tpos] value X.env = pure none) (h1 : (assignEach [.Subscript (.Name x p) k tpos] X.env).map (·.2) = [assign (.Subscript (.Name x p) k tpos) X.env]) :
    PS X (.Assign [.Subscript (.Name x p) k tpos] value pos) (rdS F fun env => MS.of (putM i mk me env) env fun d => MS.ret (.nx (env.set i (some (.ow d))))) := by
  refine ps_imp (ps_asg he (pg_sub (pe_var hN hv hd hcd) hk (ob_set (G := F.G) hu) hsub) hs hw h1) ?_
  rintro Dn σ H ⟨B, env, Q0, s, h, hq⟩
  refine rdE_step s h (fun r h1 v H1 B1 e1 r1 => ?_) (exOk s hq)
  obtain ⟨dv, ev, h2⟩ := opt_run h1
  obtain ⟨d, ed, h3⟩ := opt_run h2
  obtain ⟨B2, s2, e2, k2, _⟩ := r1.escape s.wf e1 ev
  have sf2 := s.ext1 e2
  have hs2 := owSlot_some ed
  obtain ⟨a, o, ha, ho1, k, nb, nB⟩ := var_ow sf2 hs2
  refine ⟨.ref a, ha, ?_⟩
  refine rdE_step sf2 h3 (fun rk h4 y H3 B3 e3 r3 => ?_) fun x hx cls d H' B' e' k' => hq _ hx σ H' B' cls d (sf2.ext1 e') (e2.bb.trans e'.bb) k'
  obtain ⟨d', ed', h5⟩ := opt_run h4
  have sf3 := sf2.ext1 e3
  obtain ⟨a', o', ha', ho3, k3, _, nB3⟩ := var_ow sf3 hs2
  rw [ha] at ha'
  cases Option.some.inj (Option.some.inj ha')
  exact ⟨B3, a, o', d, rk.d, dv, d', sf3.wf, rfl, nB3, ho3, k3, r3.view sf2.wf e3, k2.same e3.bb, ed', fun ob' c => hq _ h5 σ _ B3 (sf3.mut hs2 ha c) (e2.bb.trans e3.bb)⟩
end
end IP

/-! IP13: defs called; the draw; errors raised. -/
namespace IP
open PySem PySem.Spec PyProof.Rows L2 FA
/-- what is fixed through a law, but the bag -/
structure Ux where
  K : PySem.W.Frag
  cl : Str → Option Addr
  fl : Str → List Str
def Ux.G (U : Ux) (b c : Addr) : Gx := ⟨U.K, b, c, U.cl, U.fl⟩
/-- the promise of a def: what sem tells of trees -/
def spF (U : Ux) (n : Nat) (sem : List D → M R) : Sp := fun vs H Q E => ∃ b c B ds Q0 E0, Wf (U.G b c) B H ∧ DtAll (U.G b c) B vs ds ∧ ds.length = n ∧ sem ds Q0 E0 ∧ (∀ r, Q0 r → ∀ v H' B', Ext (U.G b c) B H B' H' → RelR (U.G b c) H B' H' v r → Q v H') ∧
  ∀ x, E0 x → ∀ cls d H' B', Ext (U.G b c) B H B' H' → ExnR (U.G b c) B' H' x cls d → E cls d H'
theorem spF.len {U : Ux} {n : Nat} {sem : List D → M R} : ∀ vs H Q E, spF U n sem vs H Q E → vs.length = n := fun vs H Q E ⟨b, c, B, ds, Q0, E0, _, k, hl, _⟩ => k.len.trans hl
section
variable {X : Cx} {F : Fx} {G : Gx} {B B1 B2 H H1 H2 : Hp} {e a b : Expr} {pos p : Pos} {U : Ux}
theorem se_call {b0 c0 : Addr} {k j : Nat} {x : Str} {ps : List Str} {es : List Expr} {ms : Env → M (List R)} {sem : List D → M R} (hF : F.G = U.G b0 c0) (C : ClN X.prog X.w X.K X.mg X.base k x ps (spF U ps.length sem)) (hr : Room j X.A) (hG : X.A.guards = some []) (tk : L2N.Takes X F.W) (ha : PA X (e :: es) (rdA F ms)) (hkj : k ≤ j) (hg : Gl X x) (hdb : (x == ("__debug__" : Str)) = false)
    (he : starEach (e :: es) X.env = (false, eval e X.env) :: starEach es X.env) (hpl : (backTo pos (starEach es X.env)).any (·.1) = false) : PE X (.Call (.Name x p) (e :: es) [] pos) (rdE F fun env => do let rs ← ms env; let ds ← M.opt (escs rs); M.need (ds.length = ps.length); sem ds) := by
  refine pe_imp (pe_clN C hr hG tk ha hkj hg hdb he hpl) ?_
  rintro σ H Q ⟨B, env, Q0, E0, s, h, hq, hx⟩
  refine rdA_step s h (fun rs h1 vs H1 B1 e1 r1 => ?_) hx
  obtain ⟨ds, eds, h2⟩ := opt_run h1
  obtain ⟨hl, h3⟩ := h2
  obtain ⟨B2, s2, e2, k2⟩ := r1.escape s.wf e1 eds
  have w2 := s.wf.ext e2
  refine ⟨b0, c0, B2, ds, Q0, E0, hF ▸ w2, hF ▸ k2, hl, h3, fun r hr v H' B' e3 r3 => ?_, fun xn hxn cls d H' B' e3 k3 => ?_⟩
  · rw [← hF] at e3 r3
    exact hq r hr v H' B' (e2.trans e3) (r3.back e2)
  · rw [← hF] at e3 k3
    exact hx xn hxn cls d H' B' (e2.trans e3) k3
/-- _law_take(bag, m): any number below m -/
theorem se_draw {k j : Nat} {x : Str} {ps : List Str} {mb mm : Env → M R} (C : Cl X.prog X.w X.K X.mg X.base k x ps spTake) (hr : Room j X.A) (hG : X.A.guards = some []) (ha : PE X a (rdE F mb)) (hb : PE X b (rdE F mm)) (hkj : k ≤ j) (hg : Gl X x) (hdb : (x == ("__debug__" : Str)) = false)
    (hs1 : starEach [a, b] X.env = (false, eval a X.env) :: starEach [b] X.env) (hs2 : starEach [b] X.env = (false, eval b X.env) :: starEach [] X.env) :
    PE X (.Call (.Name x p) [a, b] [] pos) (rdE F fun env => do let rb ← mb env; M.need (rb = .sh .bag); let rm ← mm env; let m ← M.opt (asI rm.d); M.need (0 < m ∧ m.natAbs.log2 < 9000); let r ← M.draw m; pure (.sh (.int r))) := by
  refine pe_imp (pe_cl C (hr.mono hkj) hG (pa_cons ha (pa_cons hb pa_nil hs2) hs1) hg hdb hs1 (by rw [hs2]; rfl)) ?_
  rintro σ H Q ⟨B, env, Q0, E0, s, h, hq, hx⟩
  refine rdE_step s h (fun rx h1 x H1 B1 e1 r1 => ?_) hx
  obtain ⟨eb, h1⟩ := h1
  subst eb
  have s1 := s.ext1 e1
  refine rdE_step s1 h1 (fun ry h2 y H2 B2 e2 r2 => ?_) fun xn hxn cls d H' B' e' k => hx xn hxn cls d H' B' (e1.trans e') k
  obtain ⟨m, em, h3⟩ := opt_run h2
  obtain ⟨⟨m0, m1⟩, h4⟩ := h3
  have s2 := s1.ext1 e2
  have v2 := r2.view s1.wf e2
  have ey : ry.d = .int m := by
    cases q : ry.d <;> rw [q] at em <;> simp [asI] at em
    rw [em]
  rw [ey] at v2
  cases r1
  have ev := v2.int
  subst ev
  refine ⟨F.G.b, F.G.c, m, rfl, s2.wf.bag, m0, m1, fun r H3 r0 rm bag but => ?_⟩
  refine hq _ (h4 r r0 rm) _ H3 B2 ((e1.trans e2).trans ⟨fun a o n h => (but a n).trans h, Same.refl _, fun a o h => ?_, s2.wf.nf, fun a o h => .inl h, bag⟩) (Dt.int _)
  have n : a ≠ F.G.b := fun z => by rw [z, s2.wf.nb] at h; cases h
  rw [but a n]
  exact s2.wf.sub a o h
end
/-! ### a def by its body -/
def startE (N : List Str) (ds : List D) : Env := ds.map (fun d => some (.sh d)) ++ List.replicate (N.length - ds.length) none
/-- what a body tells of its arguments -/
def runB (N : List Str) (m : Env → MS) (ds : List D) : M R := fun Q E => m (startE N ds) fun o => match o with
  | .nx _ => Q (.sh .non)
  | .rt r => Q r
  | .ex x _ => E x
  | _ => False
theorem sf_start {G : Gx} {B H : Hp} {N : List Str} {vs : List V} {ds : List D} (w : Wf G B H) (k : DtAll G B vs ds) : Sf G B H B H (L2.start N vs) (startE N ds) := by
  have no : ∀ i a, ¬ ownedAt (startE N ds) (L2.start N vs) i a := by
    rintro i a ⟨d, e1, _⟩
    unfold startE at e1
    by_cases hi : i < ds.length
    · rw [List.getElem?_append_left (by simpa using hi), List.getElem?_map] at e1
      obtain ⟨d', _, e2⟩ := Option.map_eq_some_iff.mp e1
      cases e2
    · rw [List.getElem?_append_right (by simpa using hi), List.getElem?_replicate] at e1
      split at e1 <;> cases e1
  refine ⟨w, Ext.refl w, by simp [L2.start, startE, k.len], fun i sl h => ?_, fun i a h => absurd h (no i a), fun i j a h => absurd h (no i a), fun i a c fs h => ?_⟩
  · unfold startE at h
    by_cases hi : i < ds.length
    · rw [List.getElem?_append_left (by simpa using hi), List.getElem?_map] at h
      obtain ⟨d', e1, e2⟩ := Option.map_eq_some_iff.mp h
      cases e2
      obtain ⟨v, hv, kv⟩ := k.at e1
      refine ⟨v, ?_, kv⟩
      unfold L2.start
      rw [List.getElem?_append_left (by rw [List.length_map, k.len]; exact hi), List.getElem?_map, hv]
      rfl
    · rw [List.getElem?_append_right (by simpa using hi), List.getElem?_replicate] at h
      split at h <;> cases h
  · unfold startE at h
    by_cases hi : i < ds.length
    · rw [List.getElem?_append_left (by simpa using hi), List.getElem?_map] at h
      obtain ⟨d', e1, e2⟩ := Option.map_eq_some_iff.mp h
      cases e2
    · rw [List.getElem?_append_right (by simpa using hi), List.getElem?_replicate] at h
      split at h <;> cases h
section
variable {P : Program} {w : World} {K : PySem.W.Frag} {mg : Str → Option Value} {base : Heap} {U : Ux}
/-- the context of a def's body, with its frame -/
structure Body (P : Program) (w : World) (K : PySem.W.Frag) (mg : Str → Option Value) (base : Heap) (N : List Str) (sc : Scope) (U : Ux) (k : Nat) (X : Cx) (F : Fx) : Prop where
  prog : X.prog = P
  w : X.w = w
  K : X.K = K
  mg : X.mg = mg
  base : X.base = base
  N : X.N = N
  sc : X.env.scope = sc
  fn : ∀ x, X.fn x = true
  calm : X.calm = true
  nd : X.N.Nodup
  room : Room k X.A
  guards : X.A.guards = some []
  tk : L2N.Takes X F.W
  po : PassesOwn (model X.prog X.w) X.A X.env X.xe
  stk : X.stack = X.env :: X.outer
  frm : X.env.frame = some X.env.locals
  G : ∃ b c, F.G = U.G b c
theorem ok_def {x qual : Str} {st : Stmt} {f : Addr} {fd : FuncData} {N ps : List Str} {k : Nat} {m : Env → MS} (hU : U.K = K) (Fn : Fun K x qual st f fd) (S : FnScope N ps (defScope st))
    (hb : ∀ X F, Body P w K mg base N (defScope st) U k X F → PSs X (defBody st) (rdS F m)) : FnG P w K mg base (L2N.CX P w) (k + 1) f fd ps (spF U ps.length (runB N m)) := by
  refine okGN Fn S spF.len fun cdv A outer s H vs Q E hr hG h => ?_
  obtain ⟨b, c, B, ds, Q0, E0, wf, kd, hl, hm, hq, hx⟩ := h
  refine wss_of (hb _ ⟨U.G b c, B, H, fun cls d _ H' => E cls d H'⟩ ⟨rfl, rfl, rfl, rfl, rfl, rfl, rfl, fun _ => rfl, rfl, S.nd, hr, hG, L2N.takes_of rfl rfl rfl rfl, passes_of rfl, rfl, rfl, ⟨b, c, rfl⟩⟩) ?_
  refine ⟨B, startE N ds, _, sf_start wf kd, hm, fun o ho => ?_⟩
  match o, ho with
  | .nx env, ho => exact fun σ H' B' s' _ => hq _ ho .non H' B' s'.ext Dt.non
  | .rt r, ho => exact fun v H' B' e' r' => hq _ ho v H' B' e' r'
  | .ex xn env, ho => exact fun σ H' B' cls d s' _ k' => hx _ ho cls d H' B' s'.ext k'
  | .bk env, ho => exact ho.elim
  | .ct env, ho => exact ho.elim
end
end IP

/-! IP14: {}; methods of texts and dicts; isinstance; chains; truth of what is no truth value; several names stored. -/
namespace IP
open PySem PySem.Spec PyProof.Rows L2 FA
section
variable {X : Cx} {F : Fx} {G : Gx} {B B1 B2 H H1 H2 : Hp} {e a b c o : Expr} {pos p apos cpos : Pos}
theorem se_dct0 : PE X (.Dict [] [] pos) (rdE F fun _ => pure (.ow (.dct []))) := by
  refine pe_imp pe_dnewK ?_
  rintro σ H Q ⟨B, env, Q0, E0, s, h, hq, hx⟩ q hp
  exact hq _ h _ _ B (Ext.lay s.wf _ hp) ⟨q, _, rfl, hp, s.wf.sub.free hp, upd_same, .inl ⟨[], rfl, .nil⟩⟩
/-! ### methods that change nothing -/
def tyD : D → Option String
  | .str _ => some "str"
  | .lst _ => some "list"
  | .dct _ => some "dict"
  | _ => none
theorem View.typeIs {pins : List (Addr × Obj)} {σ : L2.St} {s : Shared} {v : V} {u : Value} {d : D} {T : String} (hK : G.K = X.K) (I : Inv X pins σ H s) (w : Wf G B H) (h : View G B H v d) (ht : tyD d = some T) (r : RelV v u) : s.TypeIs u T ∧ ∀ a, u = .ref a → ∃ ob, s.heap.get? a = some ob ∧ ob.dict = none := by
  match d, ht, h with
  | .str z, ht, h =>
    cases ht
    have := h.str
    subst this
    obtain ⟨t, rfl⟩ := r
    exact ⟨typeIs_str s z t, fun _ e => nomatch e⟩
  | .lst ds, ht, h =>
    cases ht
    obtain ⟨a, xs, rfl, _, ha, k⟩ := h.lst w
    exact tyV_is I r (.inl ⟨rfl, xs, SqL.of ha⟩)
  | .dct es, ht, h =>
    cases ht
    obtain ⟨a, rfl, _, hd⟩ := h.dct w
    cases r
    rcases hd with ⟨ks, h1, h2⟩ | ⟨ks, h1, h2⟩
    · obtain ⟨_, _, vs, _, dd⟩ := dk_rd I.hok h1
      have dd' := dd
      obtain ⟨ob, _, _, q1, q2, _⟩ := dd'
      exact ⟨dd.typeIs, fun b e => by cases e; exact ⟨ob, q1, q2.2.1⟩⟩
    · obtain ⟨_, _, xs, _, dd⟩ := dt_rd I.hok h1
      have dd' := dd
      obtain ⟨ob, _, _, q1, q2, _⟩ := dd'
      exact ⟨dd.typeIs, fun b e => by cases e; exact ⟨ob, q1, q2.2.1⟩⟩
def rdMt (G : Gx) (sem : D → List D → Option R) : V → List V → Hp → VK → Prop := fun x xs H Q => ∃ B dx ds r, Wf G B H ∧ View G B H x dx ∧ Views G B H xs ds ∧ sem dx ds = some r ∧ ∀ v H' B', Ext G B H B' H' → RelR G H B' H' v r → Q v H'
theorem se_mth {name : Str} {T id : String} {es : List Expr} {mo : Env → M R} {ms : Env → M (List R)} {sem : D → List D → Option R} (hK : F.G.K = X.K) (pa : PlainAttrs T) (slot : Slot T name id) (hty : typeOf (.builtin id) = pure (.type "method_descriptor")) (hm : MtR X id (rdMt F.G sem)) (ho : PE X o (rdE F mo)) (ha : PA X (e :: es) (rdA F ms))
    (hbase : attributeBase o name X.env (eval o X.env) = eval o X.env)
    (hfew : ((backTo cpos (starEach (e :: es) X.env)).all (fun x => !x.1) && (backToKw cpos (keywordEach [] X.env)).all (fun x => x.1.isSome) && decide ((e :: es).length + ([] : List Keyword).length + (if ([] : List Keyword).isEmpty then 0 else 1) < 30)) = true)
    (hline : (apos.endLine == cpos.line) = true) (hs : starEach (e :: es) X.env = (false, eval e X.env) :: starEach es X.env) (hplain : (backTo cpos (starEach es X.env)).any (·.1) = false) :
    PE X (.Call (.Attribute o name apos) (e :: es) [] cpos) (rdE F fun env => do let r ← mo env; M.need (tyD r.d = some T); let rs ← ms env; M.opt (sem r.d (rs.map R.d))) := by
  refine ⟨fun pins s σ H Q I ⟨B, env, Q0, E0, sf, h, hq, hx⟩ => ?_⟩
  refine wpAny_Call_method_late hbase hfew hline rfl (thn (ho.run pins s σ H (fun x H1 => ∃ B1 r, Ext F.G B H B1 H1 ∧ View F.G B1 H1 x r.d ∧ tyD r.d = some T ∧ (do let rs ← ms env; M.opt (sem r.d (rs.map R.d)) : M R) Q0 E0) I (rdE_step sf h (fun r h1 x H1 B1 e1 r1 => ⟨B1, r, e1, r1.view sf.wf e1, h1.1, h1.2⟩) hx)) fun v s1 ⟨x, H1, I1, rx, B1, r, e1, vx, ty, h2⟩ => ?_)
  have sf1 := sf.ext1 e1
  obtain ⟨t1, t2⟩ := vx.typeIs hK I1 sf1.wf ty rx
  refine ⟨T, id, pa, slot, hty, t1, t2, ?_⟩
  have hA := ha.run cpos pins s1 σ H1 (fun xs H2 => rdMt F.G sem x xs H2 Q) I1 (rdA_step sf1 h2 (fun rs h3 vs H2 B2 e2 r2 => by
    obtain ⟨r', er, h4⟩ := opt_run h3
    exact ⟨B2, r.d, rs.map R.d, r', sf1.wf.ext e2, vx.ext e2, r2.views sf1.wf e2, er, fun v H' B' e3 r3 => hq _ h4 v H' B' ((e1.trans e2).trans e3) ((r3.back e2).back e1)⟩) fun xn hxn cls d H' B' e' k => hx xn hxn cls d H' B' (e1.trans e') k)
  rw [hs] at hA ⊢
  refine Calls.callWith_builtin (by show (false || (backTo cpos (starEach es X.env)).any (·.1)) = false; rw [hplain] <;> rfl) (Calls.evalArgs_plain ?_)
  exact thn hA fun us s2 ⟨ys, H2, I2, r2, q2⟩ => hm pins s2 σ H2 x ys v us Q I2 rx r2 q2
/-- d.get(k), d.get(k, x): x as it is in the base -/
def mGet : D → List D → Option R
  | .dct es, [k] => (dGet es k).map fun o => R.sh (o.getD .non)
  | .dct es, [k, .int i] => (dGet es k).map fun o => R.sh (o.getD (.int i))
  | .dct es, [k, .str i] => (dGet es k).map fun o => R.sh (o.getD (.str i))
  | .dct es, [k, .bl i] => (dGet es k).map fun o => R.sh (o.getD (.bl i))
  | .dct es, [k, .non] => (dGet es k).map fun o => R.sh (o.getD .non)
  | .dct es, [k, .tup ds] => (dGet es k).map fun o => R.sh (o.getD (.tup ds))
  | _, _ => none
theorem ob_get (hu : X.A.units + 1 < cLine) : MtR X "dict.get" (rdMt G mGet) := by
  intro pins s σ H x xs v us Q I rx rxs h
  obtain ⟨B, dx, ds, r, w, vx, vs, e, q⟩ := h
  have two : ∀ es k dd, dx = .dct es → ds = [k, dd] → (∀ y, View G B H y dd → Dt G B y dd) → (dGet es k).map (fun o => R.sh (o.getD dd)) = some r → wpAny (model X.prog X.w) X.A (call (.builtin "dict.get") (v :: us)) (EP X pins σ Q) X.xe s := by
    rintro es k dd rfl rfl hdd e
    obtain ⟨o, ho, er⟩ := Option.map_eq_some_iff.mp e
    subst er
    obtain ⟨y, z, rfl, vy, vz⟩ := vs.two
    obtain ⟨u1, u2, rfl, ry, rz⟩ := vals2 rxs
    obtain ⟨a, ov, rfl, g, ro⟩ := dget_go w vx vy ho
    obtain rfl : v = .ref a := rx
    refine dx_get2 hu I g ry rz fun w' s' I' rw' => ⟨ov.getD z, H, I', rw', q _ H B (Ext.refl w) ?_⟩
    match ov, o, ro with
    | some _, some _, ro => exact ro
    | none, none, _ => exact hdd z vz
  match dx, ds, e, vx, vs, two with
  | .dct es, [k], e, vx, vs, _ =>
    obtain ⟨o, ho, er⟩ := Option.map_eq_some_iff.mp e
    subst er
    obtain ⟨y, rfl, vy⟩ := vs.one
    obtain ⟨u1, rfl, ry⟩ := vals1 rxs
    obtain ⟨a, ov, rfl, g, ro⟩ := dget_go w vx vy ho
    obtain rfl : v = .ref a := rx
    refine dx_get1 hu I g ry fun w' s' I' rw' => ⟨ov.getD .non, H, I', rw', q _ H B (Ext.refl w) ?_⟩
    match ov, o, ro with
    | some _, some _, ro => exact ro
    | none, none, _ => exact Dt.non
  | .dct es, [k, .int i], e, vx, vs, two => exact two es k _ rfl rfl (fun y h => by rw [h.int]; exact .int _) e
  | .dct es, [k, .str i], e, vx, vs, two => exact two es k _ rfl rfl (fun y h => by rw [h.str]; exact .str _) e
  | .dct es, [k, .bl i], e, vx, vs, two => exact two es k _ rfl rfl (fun y h => by rw [h.bl]; exact .bl _) e
  | .dct es, [k, .non], e, vx, vs, two => exact two es k _ rfl rfl (fun y h => by rw [h.non]; exact .non) e
  | .dct es, [k, .tup ds], e, vx, vs, two => exact two es k _ rfl rfl (fun y h => (h.tup w).choose_spec.choose_spec.2.2.2) e
def strsD : List D → Option (List Str)
  | [] => some []
  | .str i :: r => (strsD r).map (i :: ·)
  | _ => none
theorem strsD_vs : ∀ {ds : List D} {ns : List Str} {xs : List V}, strsD ds = some ns → DtAll G B xs ds → xs = ns.map V.str
  | [], ns, xs, h, k => by simp [strsD] at h; subst h; cases k; rfl
  | d :: ds, ns, xs, h, k => by
    match d, h, k with
    | .str i, h, .cons a b =>
      simp only [strsD] at h
      obtain ⟨m, hm, e⟩ := Option.map_eq_some_iff.mp h
      subst e
      cases a
      rw [strsD_vs hm b]
      rfl
def joinD (a : Str) (ds : List D) : Option R := match strsD ds with
  | some ys => if (ys.map (·.length)).sum + ys.length * a.length ≤ 16777216 then some (.sh (.str (Txt.join a ys))) else none
  | none => none
def mJoin : D → List D → Option R
  | .str a, [.lst ds] => joinD a ds
  | .str a, [.tup ds] => joinD a ds
  | _, _ => none
theorem ob_join (hK : G.K = X.K) : MtR X "str.join" (rdMt G mJoin) := by
  intro pins s σ H x xs v us Q I rx rxs h
  obtain ⟨B, dx, ds, r, w, vx, vs, e, q⟩ := h
  have main : ∀ a ds p zs, dx = .str a → joinD a ds = some r → xs = [.ref p] → (SqL X.K H p zs ∨ SqT X.K H p zs) → DtAll G B zs ds → wpAny (model X.prog X.w) X.A (call (.builtin "str.join") (v :: us)) (EP X pins σ Q) X.xe s := by
    rintro a ds p zs rfl e rfl hs k
    unfold joinD at e
    split at e
    next ys hy =>
      split at e
      next hz =>
        cases e
        have ez := strsD_vs hy k
        subst ez
        exact mt_join pins s σ H x _ v us Q I rx rxs ⟨a, p, ys, vx.str, rfl, hs, hz, q _ H B (Ext.refl w) (Dt.str _)⟩
      next => cases e
    next => cases e
  match dx, ds, e, vx, vs, main with
  | .str a, [.lst ds], e, vx, vs, main =>
    obtain ⟨y, rfl, vy⟩ := vs.one
    obtain ⟨p, zs, rfl, _, hp, k⟩ := vy.lst w
    exact main a ds p zs rfl e rfl (.inl (SqL.of hp)) k
  | .str a, [.tup ds], e, vx, vs, main =>
    obtain ⟨y, rfl, vy⟩ := vs.one
    obtain ⟨p, zs, rfl, hp, k, _⟩ := vy.tup w
    exact main a ds p zs rfl e rfl (.inr (hK ▸ hp)) k
theorem dt_strs : ∀ ys : List Str, DtAll G B (ys.map V.str) (ys.map D.str)
  | [] => .nil
  | y :: ys => .cons (.str y) (dt_strs ys)
def mSplit : D → List D → Option R
  | .str a, [.str b] => if (b.length == 0) = false ∧ a.length + 2 ≤ sizeLine then some (.ow (.lst ((Txt.split a b).map D.str))) else none
  | _, _ => none
theorem ob_split : MtR X "str.split" (rdMt G mSplit) := by
  intro pins s σ H x xs v us Q I rx rxs h
  obtain ⟨B, dx, ds, r, w, vx, vs, e, q⟩ := h
  match dx, ds, e, vx, vs with
  | .str a, [.str b], e, vx, vs =>
    simp only [mSplit] at e
    split at e
    next hz =>
      cases e
      obtain ⟨y, rfl, vy⟩ := vs.one
      exact mt_split pins s σ H x _ v us Q I rx rxs ⟨a, b, vx.str, by rw [vy.str], hz.1, hz.2, fun p hp => q _ _ B (Ext.lay w _ hp) ⟨p, _, rfl, hp, w.sub.free hp, upd_same, _, rfl, dt_strs _⟩⟩
    next => cases e
/-! ### isinstance of data -/
theorem kit_dt {pins : List (Addr × Obj)} {σ : L2.St} {s : Shared} {v : V} {u : Value} {d : PyData} (I : Inv X pins σ H s) (h : FA.Dt X.K H v d) (r : RelV v u) : ∃ P : Heap → Prop, PySem.W.KitX X.K u (.type (tn d)) P ∧ P s.heap ∧ u ≠ .builtin "__main__.__loader__#opaque" := by
  by_cases hn : ∃ a o ks, v = .ref a ∧ H a = some (.frz o (.dT ks))
  · obtain ⟨a, o, ks, rfl, ha⟩ := hn
    cases r
    cases h with
    | dT r k =>
      obtain ⟨_, _, xs, _, ob, _, _, q1, q2, _⟩ := dt_rd I.hok r
      exact ⟨_, PySem.W.kitx_dict, ⟨ob, q1, q2.1⟩, fun z => nomatch z⟩
    | dK r k =>
      obtain ⟨_, _, xs, _, ob, _, _, q1, q2, _⟩ := dk_rd I.hok r
      exact ⟨_, PySem.W.kitx_dict, ⟨ob, q1, q2.1⟩, fun z => nomatch z⟩
    | lst r k => exact absurd r (by rintro (z | ⟨_, z⟩) <;> rw [ha] at z <;> cases z)
    | tup r k =>
      rcases r with (z | ⟨_, z⟩) | ⟨o, its, n, e, c, _⟩
      · rw [ha] at z; cases z
      · rw [ha] at z; cases z
      · exact ⟨_, PySem.W.kitx_tuple, ⟨o, I.kIn _ _ e, c⟩, fun z => nomatch z⟩
  · refine kit_of I r ?_
    cases h with
    | non => exact .base .non
    | bl b => exact .base (.bl b)
    | int i => exact .base (.int i)
    | str x => exact .base (.str x)
    | lst q k =>
      rcases q with q | ⟨o, q⟩
      · exact .base (.lst q)
      · exact .base (.frz q)
    | tup q k =>
      rcases q with (q | ⟨o, q⟩) | ⟨o, its, n, e, c, _⟩
      · exact .base (.tup q)
      · exact .fTuple q
      · exact .kTuple e c
    | dK q k =>
      rcases q with q | ⟨o, q⟩
      · exact .base (.dK q)
      · exact .fDict q
    | dT q k =>
      rcases q with q | ⟨o, q⟩
      · exact .base (.dT q)
      · exact absurd ⟨_, _, _, rfl, q⟩ hn
/-- the built-in types -/
def isTy (d : D) : String → Option Bool
  | "int" => if pl d = true then some (isInt (toP d) || isBl (toP d)) else none
  | "bool" => if pl d = true then some (isBl (toP d)) else none
  | "str" => if pl d = true then some (isTxt (toP d)) else none
  | "list" => if pl d = true then some (isLst (toP d)) else none
  | "tuple" => if pl d = true then some (isTup (toP d)) else none
  | "dict" => if pl d = true then some (isDct (toP d)) else none
  | _ => none
theorem isTy_kit {d : D} {T : String} {b : Bool} (h : isTy d T = some b) : pl d = true ∧ kitB (tn (toP d)) T = some b := by
  unfold isTy at h
  split at h <;> first
    | (split at h
       · rename_i hp
         cases h
         refine ⟨hp, ?_⟩
         first | exact kit_int _ | exact kit_bool _ | exact kit_str _ | exact kit_list _ | exact kit_tuple _ | exact kit_dict _
       · cases h)
    | cases h
def isTys (d : D) : List String → Option Bool
  | [] => if pl d = true then some false else none
  | T :: Ts => match isTy d T, isTys d Ts with
    | some b, some c => some (b || c)
    | _, _ => none
theorem isTys_kit {K : PySem.W.Frag} {d : D} : ∀ {Ts : List String} {b : Bool}, isTys d Ts = some b → pl d = true ∧ PySem.W.kitAny K (.type (tn (toP d))) (Ts.map Value.type) = some b
  | [], b, h => by
    simp only [isTys] at h
    split at h
    next hp => cases h; exact ⟨hp, rfl⟩
    next => cases h
  | T :: Ts, b, h => by
    simp only [isTys] at h
    split at h
    next x y h1 h2 =>
      cases h
      obtain ⟨hp, k1⟩ := isTy_kit h1
      obtain ⟨_, k2⟩ := isTys_kit (K := K) h2
      refine ⟨hp, kitAny_cons (kit_ty k1) (fun e => ?_) fun e => ?_⟩
      · subst e
        exact k2
      · subst e
        rfl
    next => cases h
/-- the classes, written as names -/
theorem pe_ty {x : Str} {T : String} (hg : Gl X x) (hm : X.mg x = none) (hv : bootBuiltins x = some (.type T)) (hn : x ≠ "__name__") (hd : (x == ("__debug__" : Str)) = false) : PE X (.Name x pos) (tC (.ty T)) := pe_bltn hg hm hv rfl hn hd
/-- isinstance(e, T) -/
theorem se_isi1 {x : Str} {T : String} {p2 : Pos} {m : Env → M R} (hK : F.G.K = X.K) (hgi : Gl X "isinstance") (hmi : X.mg "isinstance" = none) (hg : Gl X x) (hm : X.mg x = none) (hv : bootBuiltins x = some (.type T)) (hn : x ≠ "__name__") (hd : (x == ("__debug__" : Str)) = false) (he : PE X e (rdE F m))
    (hs : starEach [e, .Name x p2] X.env = (false, eval e X.env) :: starEach [.Name x p2] X.env) : PE X (.Call (.Name "isinstance" p) [e, .Name x p2] [] pos) (rdE F fun env => do let r ← m env; M.opt ((isTy r.d T).map R.b)) := by
  have cr : CallR X (.builtin "isinstance") (fun xs H Q => ∃ B v d b, Wf F.G B H ∧ xs = [v, .ty T] ∧ View F.G B H v d ∧ isTy d T = some b ∧ Q (.bl b) H) := by
    intro pins s σ H xs us Q I r h
    obtain ⟨B, v, d, b, w, rfl, vv, e, q⟩ := h
    obtain ⟨u1, u2, rfl, r1, r2⟩ := vals2 r
    cases (show u2 = Value.type T from r2)
    obtain ⟨hp, hk⟩ := isTy_kit e
    obtain ⟨P, Z, p, hx⟩ := kit_dt I (hK ▸ vv.fa w hp) r1
    exact PySem.W.kia_one Z I.kIn p (kit_ty hk) hx fun tk => ⟨.bl b, H, I.tok tk, rfl, q⟩
  refine pe_imp (pe_callB cr hgi hmi (by decide +kernel) (pa_cons he (pa_cons (pe_ty hg hm hv hn hd) pa_nil rfl) hs) (by decide) (by decide) hs rfl) ?_
  rintro σ H Q ⟨B, env, Q0, E0, s, h, hq, hx⟩
  refine rdE_step s h (fun r h1 v H1 B1 e1 r1 => ?_) hx
  obtain ⟨r', er, h2⟩ := opt_run h1
  obtain ⟨b, hb, e2⟩ := Option.map_eq_some_iff.mp er
  subst e2
  exact ⟨B1, v, r.d, b, s.wf.ext e1, rfl, r1.view s.wf e1, hb, hq _ h2 _ H1 B1 e1 (Dt.bl _)⟩
/-- isinstance(e, (S, T)) -/
theorem se_isi2 {x y : Str} {S T : String} {p2 p3 p4 : Pos} {k : Nat} {m : Env → M R} (hK : F.G.K = X.K) (hgi : Gl X "isinstance") (hmi : X.mg "isinstance" = none) (hg : Gl X x) (hm : X.mg x = none) (hv : bootBuiltins x = some (.type S)) (hn : x ≠ "__name__") (hd : (x == ("__debug__" : Str)) = false)
    (hg' : Gl X y) (hm' : X.mg y = none) (hv' : bootBuiltins y = some (.type T)) (hn' : y ≠ "__name__") (hd' : (y == ("__debug__" : Str)) = false) (he : PE X e (rdE F m))
    (hs : starEach [e, .Tuple [.Name x p2, .Name y p3] k p4] X.env = (false, eval e X.env) :: starEach [.Tuple [.Name x p2, .Name y p3] k p4] X.env) : PE X (.Call (.Name "isinstance" p) [e, .Tuple [.Name x p2, .Name y p3] k p4] [] pos) (rdE F fun env => do let r ← m env; M.opt ((isTys r.d [S, T]).map R.b)) := by
  have cr : CallR X (.builtin "isinstance") (fun xs H Q => ∃ B v d b q, Wf F.G B H ∧ xs = [v, .ref q] ∧ H q = some (.tup [.ty S, .ty T]) ∧ View F.G B H v d ∧ isTys d [S, T] = some b ∧ Q (.bl b) H) := by
    intro pins s σ H xs us Q I r h
    obtain ⟨B, v, d, b, tp, w, rfl, ht, vv, e, q⟩ := h
    obtain ⟨u1, u2, rfl, r1, r2⟩ := vals2 r
    cases (show u2 = Value.ref tp from r2)
    obtain ⟨hp, hk⟩ := isTys_kit (K := X.K) e
    obtain ⟨P, Z, p, hx⟩ := kit_dt I (hK ▸ vv.fa w hp) r1
    obtain ⟨_, its, rv, o, h1, h2, n, h3⟩ := (show ObjOk X.prog X.w H s.heap tp (.tup [.ty S, .ty T]) from I.hok tp _ ht)
    obtain ⟨w1, w2, rfl, q1, q2⟩ := vals2 rv
    cases (show w1 = Value.type S from q1)
    cases (show w2 = Value.type T from q2)
    obtain ⟨oc, od, dt, sl⟩ := o
    simp only at h2 h3
    subst h2 h3
    exact PySem.W.kia_tup Z I.kIn p h1 hk hx fun tk => ⟨.bl b, H, I.tok tk, rfl, q⟩
  refine pe_imp (pe_callB cr hgi hmi (by decide +kernel) (pa_cons he (pa_cons (pe_tup (pa_cons (pe_ty hg hm hv hn hd) (pa_cons (pe_ty hg' hm' hv' hn' hd') pa_nil rfl) rfl)) pa_nil rfl) hs) (by decide) (by decide) hs rfl) ?_
  rintro σ H Q ⟨B, env, Q0, E0, s, h, hq, hx⟩
  refine rdE_step s h (fun r h1 v H1 B1 e1 r1 => ?_) hx
  obtain ⟨r', er, h2⟩ := opt_run h1
  obtain ⟨b, hb, e2⟩ := Option.map_eq_some_iff.mp er
  subst e2
  have w1 := s.wf.ext e1
  refine ⟨(by show 2 ≤ sizeLine; decide), fun q hp => ?_⟩
  have e2 := Ext.lay w1 (.tup [.ty S, .ty T]) hp
  exact ⟨B1, v, r.d, b, q, w1.ext e2, rfl, upd_same, (r1.view s.wf e1).ext e2, hb, hq _ h2 _ _ B1 (e1.trans e2) (Dt.bl _)⟩
/-! ### a op b op c -/
def ch2 (s1 s2 : D → D → Option R) (ma mb mc : Env → M R) (env : Env) : M R := do
  let x ← ma env
  let y ← mb env
  let r ← M.opt (s1 x.d y.d)
  let k ← M.opt (asB r.d)
  if k = true then (do let z ← mc env; M.opt (s2 y.d z.d)) else pure (R.b false)
theorem ch_go {s1 s2 : D → D → Option R} {ma mb mc : Env → M R} {σ : L2.St} {Q : VK} (h : rdE F (ch2 s1 s2 ma mb mc) σ H Q) : tChain (rd2 F.G s1) (rd2 F.G s2) (rdE F ma) (rdE F mb) (rdE F mc) σ H Q := by
  obtain ⟨B, env, Q0, E0, s, h, hq, hx⟩ := h
  refine rdE_step s h (fun rx h1 x H1 B1 e1 r1 => ?_) hx
  have s1' := s.ext1 e1
  refine rdE_step s1' h1 (fun ry h2 y H2 B2 e2 r2 => ?_) fun xn hxn cls d H' B' e' k => hx xn hxn cls d H' B' (e1.trans e') k
  obtain ⟨r, er, h3⟩ := opt_run h2
  obtain ⟨k, ek, h4⟩ := opt_run h3
  have s2' := s1'.ext1 e2
  refine ⟨B2, rx.d, ry.d, r, s2'.wf, (r1.view s.wf e1).ext e2, r2.view s1'.wf e2, er, fun v H3 B3 e3 r3 => ?_⟩
  have v3 := r3.view s2'.wf e3
  have ed : r.d = .bl k := by
    cases q : r.d <;> rw [q] at ek <;> simp [asB] at ek
    rw [ek]
  rw [ed] at v3
  refine ⟨k, v3.bl, ?_⟩
  have s3' := s2'.ext1 e3
  have e03 := (e1.trans e2).trans e3
  cases k with
  | false => exact hq _ h4 _ H3 B3 e03 (Dt.bl _)
  | true =>
    refine rdE_step s3' h4 (fun rz h5 z H4 B4 e4 r4 => ?_) fun xn hxn cls d H' B' e' k => hx xn hxn cls d H' B' (e03.trans e') k
    obtain ⟨r', er', h6⟩ := opt_run h5
    have s4' := s3'.ext1 e4
    exact ⟨B4, ry.d, rz.d, r', s4'.wf, ((r2.view s1'.wf e2).ext e3).ext e4, r4.view s3'.wf e4, er', fun v H' B' e5 r5 => hq _ h6 v H' B' ((e03.trans e4).trans e5) ((((r5.back e4).back e3).back e2).back e1)⟩
theorem se_chain {op op' : CmpOp} {s1 s2 : D → D → Option R} {ma mb mc : Env → M R} (ho : OpR X (compareOp op) (rd2 F.G s1)) (ho' : OpR X (compareOp op') (rd2 F.G s2)) (ha : PE X a (rdE F ma)) (hb : PE X b (rdE F mb)) (hc : PE X c (rdE F mc)) (hm : lastMarks [op, op'] [b, c] = false) :
    PE X (.Compare a [op, op'] [b, c] pos) (rdE F (ch2 s1 s2 ma mb mc)) := pe_imp (pe_chain ho ho' ha hb hc hm) fun _ _ _ => ch_go
theorem st_chain {op op' : CmpOp} {s1 s2 : D → D → Option R} {ma mb mc : Env → M R} (ho : OpR X (compareOp op) (rd2 F.G s1)) (ho' : OpR X (compareOp op') (rd2 F.G s2)) (ha : PE X a (rdE F ma)) (hb : PE X b (rdE F mb)) (hc : PE X c (rdE F mc)) (hm : lastMarks [op, op'] [b, c] = false) :
    PT X (.Compare a [op, op'] [b, c] pos) (rdT F fun env => do let r ← ch2 s1 s2 ma mb mc env; M.opt (asB r.d)) := pt_imp (pt_chain ho ho' ha hb hc hm) fun σ H Q h => ch_go (Q := fun x H' => ∃ k, x = .bl k ∧ Q k H') (rdT_of h)
/-! ### truth -/
def truD : D → Option Bool
  | .bl b => some b
  | .non => some false
  | .int i => some (i != 0)
  | .str y => if y.length ≤ sizeLine then some ((y.length : Int) != 0) else none
  | .lst ds => some (!ds.isEmpty)
  | .tup ds => some (!ds.isEmpty)
  | _ => none
theorem truD_ok (hK : G.K = X.K) {v : V} {d : D} {k : Bool} (w : Wf G B H) (h : View G B H v d) (e : truD d = some k) : TruV X.K v H k := by
  match d, e, h with
  | .bl b, e, h => cases e; rw [h.bl]; exact rfl
  | .non, e, h => cases e; rw [h.non]; exact rfl
  | .int i, e, h => cases e; rw [h.int]; exact rfl
  | .str y, e, h =>
    simp only [truD] at e
    split at e
    next hz => cases e; rw [h.str]; exact ⟨hz, rfl⟩
    next => cases e
  | .lst ds, e, h =>
    cases e
    obtain ⟨a, xs, rfl, _, ha, kk⟩ := h.lst w
    refine .inl ⟨xs, SqL.of ha, ?_⟩
    cases kk <;> rfl
  | .tup ds, e, h =>
    cases e
    obtain ⟨a, xs, rfl, ha, kk, _⟩ := h.tup w
    refine .inr (.inl ⟨xs, hK ▸ ha, ?_⟩)
    cases kk <;> rfl
theorem st_tru {m : Env → M R} (hK : F.G.K = X.K) (h : PE X e (rdE F m)) (he : ∀ whole, isTrue e X.env whole = (do let v ← whole; standAt e.pos; holding [v] (truthy v))) : PT X e (rdT F fun env => do let x ← m env; M.opt (truD x.d)) := by
  refine pt_imp (pt_truth h he) ?_
  rintro σ H Q ⟨B, env, Q0, E0, s, h, hq, hx⟩
  refine rdE_step s h (fun rx h1 x H1 B1 e1 r1 => ?_) hx
  obtain ⟨k, ek, h2⟩ := opt_run h1
  exact ⟨k, truD_ok hK (s.wf.ext e1) (r1.view s.wf e1) ek, hq k h2 H1 B1 e1⟩
end
end IP

/-! IP15: a small tree of expressions of its own; what it tells; that it goes with the text. -/
namespace IP
open PySem PySem.Spec PyProof.Rows L2 FA
/-! ### and, or, not by truth -/
section
variable {X : Cx} {F : Fx} {G : Gx} {B B1 B2 H H1 H2 : Hp} {e a b c o : Expr} {pos p : Pos}
def mAnd (ma mb : Env → M R) (env : Env) : M R := do
  let x ← ma env
  let k ← M.opt (truD x.d)
  if k = true then mb env else pure x
def mOr (ma mb : Env → M R) (env : Env) : M R := do
  let x ← ma env
  let k ← M.opt (truD x.d)
  if k = true then pure x else mb env
def mNot (ma : Env → M R) (env : Env) : M R := do
  let x ← ma env
  let k ← M.opt (truD x.d)
  pure (R.b (!k))
/-- the truth of what comes -/
def tst (m : Env → M R) (env : Env) : M Bool := do
  let x ← m env
  M.opt (truD x.d)
theorem se_andT {ma mb : Env → M R} {rest : List Expr} (hK : F.G.K = X.K) (ha : PE X a (rdE F ma)) (hb : PE X (.BoolOp .And (b :: rest) pos) (rdE F mb)) : PE X (.BoolOp .And (a :: b :: rest) pos) (rdE F (mAnd ma mb)) := by
  refine pe_imp (pe_andT ha hb) ?_
  rintro σ H Q ⟨B, env, Q0, E0, s, h, hq, hx⟩
  refine rdE_step s h (fun rx h1 x H1 B1 e1 r1 => ?_) hx
  obtain ⟨k, ek, h2⟩ := opt_run h1
  refine ⟨k, truD_ok hK (s.wf.ext e1) (r1.view s.wf e1) ek, ?_⟩
  cases k with
  | true => exact rdE_step (s.ext1 e1) h2 (fun y h3 v H2 B2 e2 r2 => hq y h3 v H2 B2 (e1.trans e2) (r2.back e1)) fun xn hxn cls d H' B' e' k => hx xn hxn cls d H' B' (e1.trans e') k
  | false => exact hq _ h2 _ H1 B1 e1 r1
theorem se_orT {ma mb : Env → M R} {rest : List Expr} (hK : F.G.K = X.K) (ha : PE X a (rdE F ma)) (hb : PE X (.BoolOp .Or (b :: rest) pos) (rdE F mb)) : PE X (.BoolOp .Or (a :: b :: rest) pos) (rdE F (mOr ma mb)) := by
  refine pe_imp (pe_orT ha hb) ?_
  rintro σ H Q ⟨B, env, Q0, E0, s, h, hq, hx⟩
  refine rdE_step s h (fun rx h1 x H1 B1 e1 r1 => ?_) hx
  obtain ⟨k, ek, h2⟩ := opt_run h1
  refine ⟨k, truD_ok hK (s.wf.ext e1) (r1.view s.wf e1) ek, ?_⟩
  cases k with
  | false => exact rdE_step (s.ext1 e1) h2 (fun y h3 v H2 B2 e2 r2 => hq y h3 v H2 B2 (e1.trans e2) (r2.back e1)) fun xn hxn cls d H' B' e' k => hx xn hxn cls d H' B' (e1.trans e') k
  | true => exact hq _ h2 _ H1 B1 e1 r1
theorem se_notT {ma : Env → M R} (hK : F.G.K = X.K) (ha : PE X a (rdE F ma)) : PE X (.UnaryOp .Not a pos) (rdE F (mNot ma)) := by
  refine pe_imp (pe_notT ha) ?_
  rintro σ H Q ⟨B, env, Q0, E0, s, h, hq, hx⟩
  refine rdE_step s h (fun rx h1 x H1 B1 e1 r1 => ?_) hx
  obtain ⟨k, ek, h2⟩ := opt_run h1
  exact ⟨k, truD_ok hK (s.wf.ext e1) (r1.view s.wf e1) ek, hq _ h2 _ H1 B1 e1 (Dt.bl _)⟩
theorem tst_and (ma mb : Env → M R) : tst (mAnd ma mb) = (fun env => do let x ← tst ma env; if x = true then tst mb env else pure false) := by
  funext env Q E
  show ma env _ E = ma env _ E
  congr 1
  funext r
  show M.opt (truD r.d) _ E = M.opt (truD r.d) _ E
  cases q : truD r.d with
  | none => rw [opt_none, opt_none]
  | some k =>
    rw [opt_some, opt_some]
    cases k with
    | true => rfl
    | false =>
      show M.opt (truD r.d) Q E = Q false
      rw [q, opt_some]
theorem tst_or (ma mb : Env → M R) : tst (mOr ma mb) = (fun env => do let x ← tst ma env; if x = true then pure true else tst mb env) := by
  funext env Q E
  show ma env _ E = ma env _ E
  congr 1
  funext r
  show M.opt (truD r.d) _ E = M.opt (truD r.d) _ E
  cases q : truD r.d with
  | none => rw [opt_none, opt_none]
  | some k =>
    rw [opt_some, opt_some]
    cases k with
    | false => rfl
    | true =>
      show M.opt (truD r.d) Q E = Q true
      rw [q, opt_some]
theorem tst_not (ma : Env → M R) : tst (mNot ma) = (fun env => do let x ← tst ma env; pure (!x)) := by
  funext env Q E
  show ma env _ E = ma env _ E
  congr 1
  funext r
  show M.opt (truD r.d) _ E = M.opt (truD r.d) _ E
  cases q : truD r.d with
  | none => rw [opt_none, opt_none]
  | some k =>
    rw [opt_some, opt_some]
    show M.opt (truD (.bl (!k))) Q E = Q (!k)
    exact opt_some _ _ _
theorem sw_andT {ma mb : Env → M R} {rest : List Expr} (ha : PT X a (rdT F (tst ma))) (hb : PW X (.BoolOp .And (b :: rest) pos) (rdT F (tst mb))) : PW X (.BoolOp .And (a :: b :: rest) pos) (rdT F (tst (mAnd ma mb))) := by
  rw [tst_and]
  exact sw_and ha hb
theorem sw_orT {ma mb : Env → M R} {rest : List Expr} (ha : PT X a (rdT F (tst ma))) (hb : PW X (.BoolOp .Or (b :: rest) pos) (rdT F (tst mb))) : PW X (.BoolOp .Or (a :: b :: rest) pos) (rdT F (tst (mOr ma mb))) := by
  rw [tst_or]
  exact sw_or ha hb
theorem st_notT {ma : Env → M R} (ha : PT X a (rdT F (tst ma))) : PT X (.UnaryOp .Not a pos) (rdT F (tst (mNot ma))) := by
  rw [tst_not]
  exact st_not ha
/-- where it is known that a truth value comes, its truth is it -/
theorem truD_bl (r : R) (b : Bool) (h : r = R.b b) : truD r.d = asB r.d := by subst h; rfl
end
/-! ### the text's side conditions -/
def isStar : Expr → Bool
  | .Starred _ _ => true
  | _ => false
theorem star_no {e : Expr} {es : List Expr} {env : PySem.Env} (h : isStar e = false) : starEach (e :: es) env = (false, eval e env) :: starEach es env := by
  cases e <;> first | rfl | (cases h)
theorem star_all : ∀ {es : List Expr} {env : PySem.Env} {pos : Pos}, es.all (fun e => !isStar e) = true → (backTo pos (starEach es env)).any (·.1) = false
  | [], _, _, _ => rfl
  | e :: es, env, pos, h => by
    rw [List.all_cons, Bool.and_eq_true] at h
    have h1 : isStar e = false := by simpa using h.1
    rw [star_no h1]
    show (false || (backTo pos (starEach es env)).any (·.1)) = false
    rw [star_all h.2]
    rfl
theorem star_len : ∀ {es : List Expr} {env : PySem.Env}, (starEach es env).length = es.length
  | [], _ => rfl
  | e :: es, env => by
    cases e <;> (show (starEach es env).length + 1 = es.length + 1; rw [star_len])
theorem few_ok {e : Expr} {es : List Expr} {env : PySem.Env} {cpos : Pos} (h : (e :: es).all (fun e => !isStar e) = true) (hl : (e :: es).length < 30) :
    ((backTo cpos (starEach (e :: es) env)).all (fun x => !x.1) && (backToKw cpos (keywordEach [] env)).all (fun x => x.1.isSome) && decide ((e :: es).length + ([] : List Keyword).length + (if ([] : List Keyword).isEmpty then 0 else 1) < 30)) = true := by
  have h1 : (backTo cpos (starEach (e :: es) env)).all (fun x => !x.1) = true := by
    have := star_all (env := env) (pos := cpos) h
    rw [List.all_eq_true]
    intro x hx
    rw [List.any_eq_false] at this
    simpa using this x hx
  rw [h1]
  show decide ((e :: es).length + 0 + 0 < 30) = true
  exact decide_eq_true (by simpa using hl)
/-- a test that is the truth of its value -/
def plainT : Expr → Bool
  | .UnaryOp .Not _ _ => false
  | .BoolOp _ _ _ => false
  | .IfExp _ _ _ _ => false
  | .Compare _ _ _ _ => false
  | _ => true
theorem plainT_ok {e : Expr} {env : PySem.Env} (h : plainT e = true) : ∀ whole, isTrue e env whole = (do let v ← whole; standAt e.pos; holding [v] (truthy v)) := by
  intro whole
  cases e <;> first | rfl | (cases h) | skip
  case UnaryOp op x p => cases op <;> first | rfl | (cases h)
def isSet : Expr → Bool
  | .Set _ _ _ => true
  | _ => false
theorem marks_no {op : CmpOp} {e : Expr} (h : isSet e = false) : behindInMarks op e = false := by
  cases e <;> first | rfl | (cases h)
theorem last_no {op op' : CmpOp} {b c : Expr} (h : isSet c = false) : lastMarks [op, op'] [b, c] = false := marks_no h
def isSlice : Expr → Bool
  | .Slice _ _ _ _ => true
  | _ => false
theorem plainIx_no {e : Expr} (h : isSlice e = false) : PlainIx e := by
  intro o i
  cases e <;> first | rfl | (cases h)
theorem folded_no {e : Expr} {env : PySem.Env} (h : isSet e = false) : ∀ x, foldedSetIterable e env x = pure x := by
  intro x
  cases e <;> first | rfl | (cases h)
/-- no call without arguments: the base of an attribute is its value -/
def noSup : Expr → Bool
  | .Call (.Name _ _) [] [] _ => false
  | _ => true
theorem base_ok {e : Expr} {n : Str} {env : PySem.Env} (h : noSup e = true) : attributeBase e n env (eval e env) = eval e env := by
  unfold attributeBase
  split
  · cases h
  · rfl
def isComp : Expr → Bool
  | .ListComp _ _ _ _ => true
  | .SetComp _ _ _ _ => true
  | .DictComp _ _ _ _ _ => true
  | _ => false
theorem swaps_no {e : Expr} {t : Option Expr} {n : Nat} {env : PySem.Env} (h : isComp e = false) : swapsWith e t n env = pure false := by
  cases e <;> first | rfl | (cases h)
end IP

/-! IC1: classes with slots: fields read and stored, methods, new instances; the rules under the trees. -/
namespace IP
open PySem PySem.Spec PyProof.Rows L2 FA
section
variable {X : Cx} {CX : CXT} {k : Nat} {f C : Addr} {fd : FuncData} {ps : List Str} {sp : Sp} {x m : Str} {p pos apos : Pos} {e o : Expr} {es : List Expr} {ta : TE} {t : TA} {W : WX}
theorem meth_go {prog : Program} {w : World} {A : Around} {env : PySem.Env} {s : Shared} {E : Value → Shared → Prop} {args : List Expr} {Q : Value → Shared → Prop} (hbase : attributeBase o m env (eval o env) = eval o env)
    (hfew : ((backTo pos (starEach args env)).all (fun x => !x.1) && (backToKw pos (keywordEach [] env)).all (fun x => x.1.isSome) && decide (args.length + ([] : List Keyword).length + (if ([] : List Keyword).isEmpty then 0 else 1) < 30)) = true)
    (hline : (apos.endLine == pos.line) = true)
    (h : wpAny (model prog w) A (eval o env) (fun ov s1 => ∀ pl, wpAny (model prog w) A (getMethod ov m pl) (fun fx s2 => wpAny (model prog w) A (callWith pos fx.1 fx.2 (backTo pos (starEach args env)) (backToKw pos (keywordEach [] env))) Q E s2) E s1) E s) :
    wpAny (model prog w) A (eval (.Call (.Attribute o m apos) args [] pos) env) Q E s := by
  rw [arm_eval_Call, hbase]
  refine wpAny_bind (wpAny_mono h (fun ov s1 h1 => ?_) fun _ _ e => e)
  refine wpAny_bind (wpAny_standAt ?_)
  have hform : methodCallForm (args.length + ([] : List Keyword).length) (backTo pos (starEach args env)) (backToKw pos (keywordEach [] env)) = true := hfew
  have hpos : methodCallPos true o env apos pos = pure pos := by unfold methodCallPos; simp [hline]
  unfold methodCall
  rw [hform]
  refine wpAny_bind (wpAny_holding (wpAny_mono (h1 _) (fun fx s2 h2 => ?_) fun _ _ e => e))
  exact wpAny_bind (wpAny_of_eq hpos h2)
/-- a call of a def that may raise, self ahead -/
theorem run_gS {pins : List (Addr × Obj)} {σ : L2.St} {H : Hp} {s : Shared} {Q : VK} {us : List Value} {vs : List V} (F : FnG X.prog X.w X.K X.mg X.base (L2N.CX X.prog X.w) k f fd ps sp) (hr : Room k X.A) (hG : X.A.guards = some []) (hb : Binds X.K fd ps []) (tk : L2N.Takes X W)
    (I : Inv X pins σ H s) (r : Vals vs us) (h : sp vs H Q (L2.WE W σ)) : wpAny (model X.prog X.w) X.A (call (.ref f) us) (EP X pins σ Q) X.xe s := by
  have hl : (us ++ ([] : List Value)).length = ps.length := by rw [List.append_nil, ← r.length]; exact F.len _ _ _ _ h
  have b := hb s us I.kIn hl
  rw [List.append_nil] at b
  refine wpAny_call (codeAny_mono (F.go X.A X.stack s H ⟨us, []⟩ us vs Q (L2.WE W σ) hr hG I.env0 b r h) fun r s' hq => ?_)
  match r, hq with
  | .error e, hq => exact L2N.passAt tk σ pins H s e s' I hq
  | .ok (.ret u), hq => exact I.after hq
/-- a method of a class -/
structure MthG (X : Cx) (C : Addr) (m : Str) (k : Nat) (ps : List Str) (sp : Sp) : Prop where
  ex : ∃ (g : Addr) (fd : FuncData), Meth X.K C m g ∧ FnG X.prog X.w X.K X.mg X.base (L2N.CX X.prog X.w) k g fd ps sp ∧ Binds X.K fd ps []
/-- o.m(e, ..): which class, is told by the object -/
def tMthG (X : Cx) (m : Str) (W : WX) (ta : TE) (t : TA) : TE := fun σ H Q => ta σ H fun x H1 => ∃ a C dx vs k ps sp, x = .ref a ∧ SlX.Slt H1 a C dx vs ∧ SlX.SCls X.K C ∧ MthG X C m k ps sp ∧ Room k X.A ∧ t σ H1 fun ws H2 => sp (x :: ws) H2 Q (L2.WE W σ)
theorem pe_mthG (he : PE X o ta) (ha : PA X (e :: es) t) (hG : X.A.guards = some []) (tk : L2N.Takes X W) (hbase : attributeBase o m X.env (eval o X.env) = eval o X.env)
    (hfew : ((backTo pos (starEach (e :: es) X.env)).all (fun x => !x.1) && (backToKw pos (keywordEach [] X.env)).all (fun x => x.1.isSome) && decide ((e :: es).length + ([] : List Keyword).length + (if ([] : List Keyword).isEmpty then 0 else 1) < 30)) = true)
    (hline : (apos.endLine == pos.line) = true) (h1 : starEach (e :: es) X.env = (false, eval e X.env) :: starEach es X.env) (h2 : (backTo pos (starEach es X.env)).any (·.1) = false) :
    PE X (.Call (.Attribute o m apos) (e :: es) [] pos) (tMthG X m W ta t) := by
  refine ⟨fun pins s σ H Q I h => ?_⟩
  refine meth_go hbase hfew hline (thn (he.run pins s σ H _ I h) fun u s1 ⟨x, H1, I1, rx, a, C, dx, vs, k, ps, sp, ex, hsl, c, M, hr, q⟩ pl => ?_)
  subst ex
  obtain rfl : u = Value.ref a := rx
  obtain ⟨g, fd, hm, F, hb⟩ := M.ex
  refine SlX.getmethsl_ok I1 hsl c hm ?_
  refine PySem.W.callWith_K (first := [.ref a]) (h₀ := X.base) I1.ok.mod.kin hm.kp (thn (ha.run pos pins s1 σ H1 _ I1 q) fun us s2 ⟨ws, H2, I2, r, q2⟩ => ⟨I2.kIn, ?_⟩) h1 h2
  exact run_gS (us := .ref a :: us) (vs := .ref a :: ws) F hr hG hb tk I2 (.cons rfl r) q2
theorem pe_mthG0 (he : PE X o ta) (hG : X.A.guards = some []) (tk : L2N.Takes X W) (hbase : attributeBase o m X.env (eval o X.env) = eval o X.env) (hline : (apos.endLine == pos.line) = true) :
    PE X (.Call (.Attribute o m apos) [] [] pos) (tMthG X m W ta tNil) := by
  refine ⟨fun pins s σ H Q I h => ?_⟩
  refine meth_go hbase rfl hline (thn (he.run pins s σ H _ I h) fun u s1 ⟨x, H1, I1, rx, a, C, dx, vs, k, ps, sp, ex, hsl, c, M, hr, q⟩ pl => ?_)
  subst ex
  obtain rfl : u = Value.ref a := rx
  obtain ⟨g, fd, hm, F, hb⟩ := M.ex
  refine SlX.getmethsl_ok I1 hsl c hm ?_
  exact PySem.W.callWith_K0 (first := [.ref a]) I1.kIn hm.kp (run_gS (us := [.ref a]) (vs := [.ref a]) F hr hG hb tk I1 (.cons rfl .nil) q)
/-- C(e, ..) -/
structure NewG (X : Cx) (x : Str) (C : Addr) (k : Nat) (ps : List Str) (sp : Sp) : Prop where
  ex : ∃ (f : Addr) (fd : FuncData), Mk X.K C f ∧ X.mg x = some (.ref C) ∧ FnG X.prog X.w X.K X.mg X.base (L2N.CX X.prog X.w) k f fd ps sp ∧ Binds X.K fd ps []
theorem run_newG {pins : List (Addr × Obj)} {σ : L2.St} {H : Hp} {s : Shared} {Q : VK} {us ds : List Value} {vs dvs : List V} (M : Mk X.K C f) (F : FnG X.prog X.w X.K X.mg X.base (L2N.CX X.prog X.w) k f fd ps sp) (hr : Room (k + 1) X.A) (hG : X.A.guards = some []) (hb : Binds X.K fd ps ds) (hd : Vals dvs ds) (tk : L2N.Takes X W)
    (I : Inv X pins σ H s) (r : Vals vs us)
    (h : ∀ x dx, H x = none → H dx = none → dx ≠ x → sp (.ref x :: (vs ++ dvs)) (upd (upd H dx (.own x)) x (.ins C dx [])) (fun v H2 => v = .non ∧ Q (.ref x) H2) (L2.WE W σ)) :
    wpAny (model X.prog X.w) X.A (call (.ref C) us) (EP X pins σ Q) X.xe s := by
  have hq := h (s.heap.objs.size + 1) s.heap.objs.size (I.hok.fresh (Nat.le_succ _)) (I.hok.fresh (Nat.le_refl _)) (Nat.ne_of_lt (Nat.lt_succ_self _))
  have I2 := Inv.made (C := C) I
  have r2 : Vals (V.ref (s.heap.objs.size + 1) :: (vs ++ dvs)) (Value.ref (s.heap.objs.size + 1) :: (us ++ ds)) := .cons rfl (r.append hd)
  have hl : (Value.ref (s.heap.objs.size + 1) :: us ++ ds).length = ps.length := by
    have e := r2.length
    rw [F.len _ _ _ _ hq] at e
    exact e.symm
  have hG2 : (X.A.under (.builtin "type.__call__" ⟨.ref C :: us, []⟩)).guards = some [] := by first | exact hG | (simp [Around.under, hG])
  refine wpAny_call (make_map (f := f) I.kIn M.makes M.init (beq_iff_eq.mp M.fn) (codeAny_mono (F.go _ X.stack _ _ ⟨Value.ref (s.heap.objs.size + 1) :: us, []⟩ (Value.ref (s.heap.objs.size + 1) :: (us ++ ds)) _ _ (L2.WE W σ) (hr.make C us []) hG2
    (I2.env0.make C us []) (hb _ (Value.ref (s.heap.objs.size + 1) :: us) I2.kIn hl) r2 hq) fun r s' hq' => ?_))
  match r, hq' with
  | .error e, hq' => exact L2N.passAt tk σ pins _ _ e s' I2 hq'
  | .ok (.ret u), hq' =>
    obtain ⟨v, H', I3, rv, ev, q3⟩ := I2.after hq'
    subst ev
    exact ⟨rv, ⟨V.ref (s.heap.objs.size + 1), H', I3, rfl, q3⟩⟩
def tNewG (C : Addr) (sp : Sp) (W : WX) (t : TA) : TE := fun σ H Q => t σ H fun vs H1 => ∀ x dx, H1 x = none → H1 dx = none → dx ≠ x → sp (.ref x :: vs) (upd (upd H1 dx (.own x)) x (.ins C dx [])) (fun v H2 => v = .non ∧ Q (.ref x) H2) (L2.WE W σ)
theorem pe_newG (N : NewG X x C k ps sp) (hr : Room (k + 1) X.A) (hG : X.A.guards = some []) (tk : L2N.Takes X W) (ha : PA X (e :: es) t) (hg : Gl X x) (hdb : (x == ("__debug__" : Str)) = false)
    (he : starEach (e :: es) X.env = (false, eval e X.env) :: starEach es X.env) (hpl : (backTo pos (starEach es X.env)).any (·.1) = false) : PE X (.Call (.Name x p) (e :: es) [] pos) (tNewG C sp W t) := by
  obtain ⟨f, fd, M, hm, F, hb⟩ := N.ex
  refine ⟨fun pins s σ H Q I h => ?_⟩
  refine wpAny_Call_Name_kw (ld_glob I hg hm ?_ hdb)
  refine PySem.W.callWith_K (h₀ := X.base) I.ok.mod.kin M.kp (thn (ha.run pos pins s σ H _ I h) fun us s1 ⟨vs, H1, I1, r, q⟩ => ⟨I1.kIn, ?_⟩) he hpl
  refine run_newG M F hr hG hb (dvs := []) .nil tk I1 r ?_
  rw [List.append_nil]
  exact q
end
end IP

/-! IC2: classes with slots by trees. -/
namespace IP
open PySem PySem.Spec PyProof.Rows L2 FA
def idxS : List Str → Str → Option Nat
  | [], _ => none
  | x :: xs, f => if x = f then some 0 else (idxS xs f).map (· + 1)
theorem idxS_ok : ∀ {ns : List Str} {f : Str} {i : Nat}, idxS ns f = some i → ns[i]? = some f
  | [], _, _, h => by cases h
  | x :: xs, f, i, h => by
    unfold idxS at h
    split at h
    next e => cases h; rw [e]; rfl
    next e =>
      obtain ⟨j, hj, rfl⟩ := Option.map_eq_some_iff.mp h
      simpa using idxS_ok hj
structure SlOk (K : PySem.W.Frag) (cl : Str → Option Addr) (sl : Str → Option (List Str)) : Prop where
  ok : ∀ c ns, sl c = some ns → ∃ C, cl c = some C ∧ SlX.SCls K C ∧ ∀ i f, ns[i]? = some f → ∃ p, SlX.Slot1 K C f p i
def fldS (sl : Str → Option (List Str)) (f c : Str) (fs : List (Option D)) : Option D := match sl c with
  | none => none
  | some ns => match idxS ns f with
    | none => none
    | some i => match fs[i]? with
      | some (some d) => some d
      | _ => none
def fldD (sl : Str → Option (List Str)) (f : Str) : D → Option D
  | .ins c fs => fldS sl f c fs
  | _ => none
theorem fldS_ok {sl : Str → Option (List Str)} {f c : Str} {fs : List (Option D)} {d : D} (h : fldS sl f c fs = some d) : ∃ ns i, sl c = some ns ∧ idxS ns f = some i ∧ fs[i]? = some (some d) := by
  unfold fldS at h
  split at h
  · cases h
  next ns e1 =>
    split at h
    · cases h
    next i e2 =>
      split at h
      next d' e3 => cases h; exact ⟨ns, i, e1, e2, e3⟩
      · cases h
def putF (i : Nat) (d : D) (fs : List (Option D)) : List (Option D) := (fs ++ List.replicate (i + 1 - fs.length) Option.none).set i (some d)
section
variable {G : Gx} {B : Hp}
theorem DtSl.at : ∀ {ws : List (Option V)} {fs : List (Option D)} {i : Nat} {d : D}, DtSl G B ws fs → fs[i]? = Option.some (Option.some d) → ∃ v, ws[i]? = Option.some (Option.some v) ∧ Dt G B v d
  | _, _, _, _, .nil, h => by simp at h
  | _, _, 0, _, .none _, h => by simp at h
  | _, _, 0, _, .some k _, h => by
    simp at h
    subst h
    exact ⟨_, rfl, k⟩
  | _, _, i + 1, _, .none t, h => by
    obtain ⟨v, h1, h2⟩ := DtSl.at (i := i) t (by simpa using h)
    exact ⟨v, by simpa using h1, h2⟩
  | _, _, i + 1, _, .some _ t, h => by
    obtain ⟨v, h1, h2⟩ := DtSl.at (i := i) t (by simpa using h)
    exact ⟨v, by simpa using h1, h2⟩
theorem DtSl.len : ∀ {ws : List (Option V)} {fs : List (Option D)}, DtSl G B ws fs → ws.length = fs.length
  | _, _, .nil => rfl
  | _, _, .none t => by simp [DtSl.len t]
  | _, _, .some _ t => by simp [DtSl.len t]
theorem DtSl.app : ∀ {ws us : List (Option V)} {fs gs : List (Option D)}, DtSl G B ws fs → DtSl G B us gs → DtSl G B (ws ++ us) (fs ++ gs)
  | _, _, _, _, .nil, k => k
  | _, _, _, _, .none t, k => .none (t.app k)
  | _, _, _, _, .some a t, k => .some a (t.app k)
theorem DtSl.reps : ∀ n : Nat, DtSl G B (List.replicate n Option.none) (List.replicate n Option.none)
  | 0 => .nil
  | n + 1 => by rw [List.replicate_succ, List.replicate_succ]; exact .none (DtSl.reps n)
theorem DtSl.set {v : V} {d : D} (r : Dt G B v d) : ∀ {ws : List (Option V)} {fs : List (Option D)} (i : Nat), DtSl G B ws fs → DtSl G B (ws.set i (Option.some v)) (fs.set i (Option.some d))
  | _, _, _, .nil => .nil
  | _, _, 0, .none t => .some r t
  | _, _, 0, .some _ t => .some r t
  | _, _, i + 1, .none t => .none (t.set r i)
  | _, _, i + 1, .some q t => .some q (t.set r i)
theorem DtSl.put {v : V} {d : D} {ws : List (Option V)} {fs : List (Option D)} (h : DtSl G B ws fs) (r : Dt G B v d) (i : Nat) : DtSl G B (SlX.putS i v ws) (putF i d fs) := by
  unfold SlX.putS putF
  rw [h.len]
  exact (h.app (DtSl.reps _)).set r i
end
section
variable {X : Cx} {F : Fx} {G : Gx} {B B0 B1 B2 H H0 H1 H2 : Hp} {e o : Expr} {pos p p' : Pos} {sl : Str → Option (List Str)} {f x : Str} {σ : L2.St} {env : Env}
theorem slO_noDc {a C dx : Addr} {ws : List (Option V)} : isDc (SlX.SlO a C dx ws) = false := rfl
/-- e.f -/
theorem se_fld {m : Env → M R} (S : SlOk X.K F.G.cl sl) (he : PE X e (rdE F m)) (hb : attributeBase e f X.env (eval e X.env) = eval e X.env) : PE X (.Attribute e f pos) (rdE F fun env => do let r ← m env; let d ← M.opt (fldD sl f r.d); pure (.sh d)) := by
  refine pe_imp (SlX.pe_sl he hb) ?_
  rintro σ H Q ⟨B, env, Q0, E0, s, h, hq, hx⟩
  refine rdE_step s h (fun r h1 x H1 B1 e1 r1 => ?_) hx
  obtain ⟨d, ed, h2⟩ := opt_run h1
  have v1 := r1.view s.wf e1
  have w1 := s.wf.ext e1
  generalize r.d = dd at ed v1
  match dd, ed, v1 with
  | .ins c fs, ed, v1 =>
    obtain ⟨ns, i, es, ei, ef⟩ := fldS_ok ed
    rcases v1 with v1 | ⟨_, _, _, _, _, k⟩
    · cases v1 with
      | ins hc ha hd kk =>
        rename_i a C dx ws
        obtain ⟨C', hC, sc, sl1⟩ := S.ok c ns es
        rw [hc] at hC
        cases hC
        obtain ⟨p, hp⟩ := sl1 i f (idxS_ok ei)
        obtain ⟨v, hv, kv⟩ := kk.at ef
        exact ⟨a, C, dx, p, ws, i, v, rfl, .inr ⟨w1.sub.ex ha rfl, w1.sub.ex hd rfl⟩, sc, hp, hv, hq _ h2 v H1 B1 e1 kv⟩
    · exact k.elim
def fldI (sl : Str → Option (List Str)) (f : Str) : Option (Option Sl) → Option D
  | some (some (.ini _ c fs)) => fldS sl f c fs
  | _ => none
/-- self.f, self being made -/
theorem se_fldI {i : Nat} (S : SlOk X.K F.G.cl sl) (hN : X.N[i]? = some x) (hv : Vis X.env.scope x) (hd : (x == ("__debug__" : Str)) = false) (hcd : (x == ("__classdict__" : Str)) = false) :
    PE X (.Attribute (.Name x p) f pos) (rdE F fun env => do let d ← M.opt (fldI sl f env[i]?); pure (.sh d)) := by
  refine pe_imp (SlX.pe_sl (pe_var hN hv hd hcd) (base_ok rfl)) ?_
  rintro σ H Q ⟨B, env, Q0, E0, s, h, hq, hx⟩
  obtain ⟨d, ed, h2⟩ := opt_run h
  generalize eq : env[i]? = oo at ed
  match oo, ed with
  | some (some (.ini a c fs)), ed =>
    obtain ⟨v, hv, C, dx, ws, rfl, ii, kk⟩ := s.val i _ eq
    obtain ⟨ns, j, es, ei, ef⟩ := fldS_ok ed
    obtain ⟨C', hC, sc, sl1⟩ := S.ok c ns es
    rw [ii.cl] at hC
    cases hC
    obtain ⟨p, hp⟩ := sl1 j f (idxS_ok ei)
    obtain ⟨v, hv', kv⟩ := kk.at ef
    exact ⟨_, hv, a, C, dx, p, ws, j, v, rfl, ii.slt, sc, hp, hv', hq _ h2 v H B (Ext.refl s.wf) kv⟩
end
end IP

/-! IC3: self.f = e; methods; new instances. -/
namespace IP
open PySem PySem.Spec PyProof.Rows L2 FA
section
variable {X : Cx} {F : Fx} {G : Gx} {B B0 B1 B2 H H0 H1 H2 : Hp} {e o : Expr} {es : List Expr} {pos p p' apos : Pos} {sl : Str → Option (List Str)} {f x m : Str} {σ : L2.St} {env : Env} {U : Ux}
theorem Sf.fput (s : Sf G B0 H0 B H σ env) {a C dx : Addr} {c : Str} {fs : List (Option D)} {ws : List (Option V)} (h : env[0]? = some (some (.ini a c fs))) (hv : σ[0]? = some (some (.ref a))) (ii : Ini G H0 B H c a C dx ws) (kk : DtSl G B ws fs) {v : V} {d : D} (kd : Dt G B v d) (i : Nat) :
    Sf G B0 H0 B (SlX.slH H a C dx (SlX.putS i v ws)) σ (env.set 0 (some (.ini a c (putF i d fs)))) := by
  have hlt : 0 < env.length := (List.getElem?_eq_some_iff.mp h).1
  obtain ⟨na1, na2⟩ := s.w0.bag.neb ii.a0
  obtain ⟨nd1, nd2⟩ := s.w0.bag.neb ii.d0
  have own_ne : ∀ {j : Nat} {y : Addr}, ownedAt (env.set 0 (some (.ini a c (putF i d fs)))) σ j y → ownedAt env σ j y := by
    rintro j y ⟨d', q1, q2⟩
    by_cases z : 0 = j
    · subst z
      rw [List.getElem?_set_self hlt] at q1; cases q1
    · rw [List.getElem?_set_ne z] at q1
      exact ⟨d', q1, q2⟩
  refine ⟨s.w0, ⟨fun b u n q => ?_, s.ext.bb, fun b u q => ?_, s.ext.nf, s.ext.new, ?_⟩, by simp [s.len], fun j sl hj => ?_, fun j y hj => s.own j y (own_ne hj), fun j l y hj hl => s.sep j l y (own_ne hj) (own_ne hl), fun j a' c' fs' hj => ?_⟩
  · rw [SlX.slH_ne (ne_of_none q ii.a0) (ne_of_none q ii.d0)]
    exact s.ext.kp b u n q
  · rw [SlX.slH_ne (ne_of_none q ii.aB) (ne_of_none q ii.dB)]
    exact s.ext.sub b u q
  · exact (s.ext.bag.put ⟨nd1, nd2⟩).put ⟨na1, na2⟩
  · by_cases z : 0 = j
    · subst z
      rw [List.getElem?_set_self hlt] at hj
      cases hj
      refine ⟨_, hv, C, dx, _, rfl, ⟨ii.cl, ii.a0, ii.d0, ii.ab, ii.db, ii.aB, ii.dB, SlX.slH_slt ii.ne, .inr ?_, ii.ne⟩, kk.put kd i⟩
      unfold SlX.slH
      rw [upd_ne ii.ne, upd_same]
    · rw [List.getElem?_set_ne z] at hj
      obtain ⟨w, hw, r⟩ := s.val j sl hj
      refine ⟨w, hw, ?_⟩
      match sl, r, hj with
      | .sh d', r, _ => exact r
      | .ow d', ⟨a', o', q1, q2, q3, q4⟩, hj =>
        obtain ⟨⟨o1, p1, _, p3⟩, ⟨o2, r1, _, r3⟩⟩ := ii.at
        have n1 : a' ≠ a := fun y => by
          subst y
          rw [q3] at p1
          cases Option.some.inj p1
          exact p3 _ _ q4
        have n2 : a' ≠ dx := fun y => by
          subst y
          rw [q3] at r1
          cases Option.some.inj r1
          exact r3 _ _ q4
        exact ⟨a', o', q1, q2, by rw [SlX.slH_ne n1 n2]; exact q3, q4⟩
      | .ini a' c' fs', _, hj => exact absurd (s.i0 j a' c' fs' hj).symm z
  · by_cases z : 0 = j
    · exact z.symm
    · rw [List.getElem?_set_ne z] at hj
      exact s.i0 j a' c' fs' hj
def putI (sl : Str → Option (List Str)) (f : Str) (d : D) (env : Env) : Option Env := match (env[0]? : Option (Option Sl)) with
  | some (some (.ini a c fs)) => match sl c with
    | none => none
    | some ns => match idxS ns f with
      | none => none
      | some i => some (env.set 0 (some (.ini a c (putF i d fs))))
  | _ => none
theorem putI_ok {d : D} {env env' : Env} (h : putI sl f d env = some env') : ∃ a c fs ns i, env[0]? = some (some (.ini a c fs)) ∧ sl c = some ns ∧ idxS ns f = some i ∧ env' = env.set 0 (some (.ini a c (putF i d fs))) := by
  unfold putI at h
  split at h
  next a c fs e0 =>
    split at h
    · cases h
    next ns e1 =>
      split at h
      · cases h
      next i e2 => cases h; exact ⟨a, c, fs, ns, i, e0, e1, e2, rfl⟩
  · cases h
/-- self.f = e, self being made -/
theorem ss_fset {m : Env → M R} (S : SlOk X.K F.G.cl sl) (hN : X.N[0]? = some x) (hv : Vis X.env.scope x) (hd : (x == ("__debug__" : Str)) = false) (hcd : (x == ("__classdict__" : Str)) = false) (he : PE X e (rdE F m)) (hs : swapsWith e (some (.Attribute (.Name x p) f p')) pos.line X.env = pure false) :
    PS X (.Assign [.Attribute (.Name x p) f p'] e pos) (rdS F fun env => MS.of (do let r ← m env; let d ← M.opt r.esc; M.opt (putI sl f d env)) env fun env' => MS.ret (.nx env')) := by
  refine ps_imp (SlX.ps_sl (pe_var hN hv hd hcd) he hs) ?_
  rintro Dn σ H ⟨B, env, Q0, s, h, hq⟩
  refine rdE_step s h (fun r h1 v H1 B1 e1 r1 => ?_) (exOk s hq)
  obtain ⟨d, ed, h1⟩ := opt_run h1
  obtain ⟨env', ee, h2⟩ := opt_run h1
  obtain ⟨a, c, fs, ns, i, e0, es, ei, rfl⟩ := putI_ok ee
  obtain ⟨B2, s2, e2, k2, _⟩ := r1.escape s.wf e1 ed
  have sf2 := s.ext1 e2
  obtain ⟨u, hu, C, dx, ws, rfl, ii, kk⟩ := sf2.val 0 _ e0
  obtain ⟨C', hC, sc, sl1⟩ := S.ok c ns es
  rw [ii.cl] at hC
  cases hC
  obtain ⟨p, hp⟩ := sl1 i f (idxS_ok ei)
  exact ⟨_, hu, a, C, dx, p, ws, i, rfl, ii.slt, sc, hp, hq _ h2 _ _ B2 (sf2.fput e0 hu ii kk k2 i) e2.bb⟩
/-! ### methods -/
/-- the methods of the classes, by trees -/
structure Mths (X : Cx) (cl : Str → Option Addr) (U : Ux) (L : Nat) (mt : Str → Str → Option (List Str)) (ms : Str → Str → List D → M R) : Prop where
  ok : ∀ c m ps, mt c m = some ps → ∃ C k, cl c = some C ∧ k ≤ L ∧ SlX.SCls X.K C ∧ MthG X C m k ps (spF U ps.length (ms c m))
def mthM (mt : Str → Str → Option (List Str)) (ms : Str → Str → List D → M R) (c m : Str) (ds : List D) : M R := match mt c m with
  | none => M.fail
  | some ps => do
    M.need (ds.length = ps.length)
    ms c m ds
theorem mthM_ok {mt : Str → Str → Option (List Str)} {ms : Str → Str → List D → M R} {c m : Str} {ds : List D} {Q0 : R → Prop} {E0 : Xn → Prop} (h : mthM mt ms c m ds Q0 E0) : ∃ ps, mt c m = some ps ∧ ds.length = ps.length ∧ ms c m ds Q0 E0 := by
  unfold mthM at h
  cases q : mt c m with
  | none => rw [q] at h; exact h.elim
  | some ps => rw [q] at h; exact ⟨ps, rfl, h.1, h.2⟩
def insC : D → Option Str
  | .ins c _ => some c
  | _ => none
/-- the object is seen, the arguments follow -/
def mthR (mt : Str → Str → Option (List Str)) (ms : Str → Str → List D → M R) (m : Str) (mo : Env → M R) (ma : Env → M (List R)) (env : Env) : M R := do
  let r ← mo env
  let c ← M.opt (insC r.d)
  let _ ← M.opt (mt c m)
  let rs ← ma env
  let ds ← M.opt (escs rs)
  mthM mt ms c m (r.d :: ds)
theorem mth_go {b0 c0 : Addr} {L : Nat} {mt : Str → Str → Option (List Str)} {ms : Str → Str → List D → M R} {mo : Env → M R} {ma : Env → M (List R)} {t : TA} (hF : F.G = U.G b0 c0) (Mo : Mths X F.G.cl U L mt ms) (hr : Room L X.A) (ht : ∀ σ H Q, rdA F ma σ H Q → t σ H Q) {Q : VK} (h : rdE F (mthR mt ms m mo ma) σ H Q) : tMthG X m F.W (rdE F mo) t σ H Q := by
  obtain ⟨B, env, Q0, E0, s, h, hq, hx⟩ := h
  refine rdE_step s h (fun r h1 x H1 B1 e1 r1 => ?_) hx
  obtain ⟨c, ec, h2⟩ := opt_run h1
  obtain ⟨ps, ep, h3⟩ := opt_run h2
  have v1 := r1.view s.wf e1
  have w1 := s.wf.ext e1
  have s1 := s.ext1 e1
  obtain ⟨C, k, hC, hk, sc, MM⟩ := Mo.ok c m ps ep
  generalize r.d = dd at ec v1 h3
  match dd, ec, v1, h3 with
  | .ins c' fs, ec, v1, h3 =>
    cases ec
    rcases v1 with v1 | ⟨_, _, _, _, _, k⟩
    · have v1' := v1
      cases v1 with
      | ins hc ha hd kk =>
        rename_i a C' dx ws
        rw [hC] at hc
        cases hc
        refine ⟨a, C, dx, ws, k, ps, _, rfl, .inr ⟨w1.sub.ex ha rfl, w1.sub.ex hd rfl⟩, sc, MM, hr.mono hk, ht _ _ _ ?_⟩
        refine rdA_step s1 h3 (fun rs h4 vs H2 B2 e2 r2 => ?_) fun xn hxn cls d H' B' e' k => hx xn hxn cls d H' B' (e1.trans e') k
        obtain ⟨ds, eds, h5⟩ := opt_run h4
        obtain ⟨ps', ep', hl, h6⟩ := mthM_ok h5
        rw [ep] at ep'
        cases ep'
        obtain ⟨B3, s3, e3, k3⟩ := r2.escape s1.wf e2 eds
        have w3 := s1.wf.ext e3
        have e13 := e1.trans e3
        refine ⟨b0, c0, B3, _ :: ds, Q0, E0, hF ▸ w3, hF ▸ (DtAll.cons (v1'.same e3.bb) k3), hl, h6, fun r hr v H' B' e4 r4 => ?_, fun xn hxn cls d H' B' e4 k4 => ?_⟩
        · rw [← hF] at e4 r4
          exact hq r hr v H' B' (e13.trans e4) (r4.back e13)
        · rw [← hF] at e4 k4
          exact hx xn hxn cls d H' B' (e13.trans e4) k4
    · exact k.elim
end
end IP

/-! IC4: methods, of what is and of what is being made; new instances. -/
namespace IP
open PySem PySem.Spec PyProof.Rows L2 FA
section
variable {X : Cx} {F : Fx} {G : Gx} {B B0 B1 B2 H H0 H1 H2 : Hp} {e o : Expr} {es : List Expr} {pos p p' apos : Pos} {sl : Str → Option (List Str)} {f x m : Str} {σ : L2.St} {env : Env} {U : Ux} {L : Nat} {mt : Str → Str → Option (List Str)} {ms : Str → Str → List D → M R} {mo : Env → M R} {ma : Env → M (List R)} {b0 c0 : Addr}
theorem rdA_nil {Q : List V → Hp → Prop} (h : rdA F (fun _ => pure []) σ H Q) : tNil σ H Q := by
  obtain ⟨B, env, Q0, E0, s, h, hq, hx⟩ := h
  exact hq _ h [] H B (Ext.refl s.wf) .nil
theorem se_meth (hF : F.G = U.G b0 c0) (Mo : Mths X F.G.cl U L mt ms) (hr : Room L X.A) (hG : X.A.guards = some []) (tk : L2N.Takes X F.W) (he : PE X o (rdE F mo)) (ha : PA X (e :: es) (rdA F ma)) (hbase : attributeBase o m X.env (eval o X.env) = eval o X.env)
    (hfew : ((backTo pos (starEach (e :: es) X.env)).all (fun x => !x.1) && (backToKw pos (keywordEach [] X.env)).all (fun x => x.1.isSome) && decide ((e :: es).length + ([] : List Keyword).length + (if ([] : List Keyword).isEmpty then 0 else 1) < 30)) = true)
    (hline : (apos.endLine == pos.line) = true) (h1 : starEach (e :: es) X.env = (false, eval e X.env) :: starEach es X.env) (h2 : (backTo pos (starEach es X.env)).any (·.1) = false) :
    PE X (.Call (.Attribute o m apos) (e :: es) [] pos) (rdE F (mthR mt ms m mo ma)) :=
  pe_imp (pe_mthG he ha hG tk hbase hfew hline h1 h2) fun σ H Q h => mth_go hF Mo hr (fun _ _ _ z => z) h
theorem se_meth0 (hF : F.G = U.G b0 c0) (Mo : Mths X F.G.cl U L mt ms) (hr : Room L X.A) (hG : X.A.guards = some []) (tk : L2N.Takes X F.W) (he : PE X o (rdE F mo)) (hbase : attributeBase o m X.env (eval o X.env) = eval o X.env) (hline : (apos.endLine == pos.line) = true) :
    PE X (.Call (.Attribute o m apos) [] [] pos) (rdE F (mthR mt ms m mo fun _ => pure [])) :=
  pe_imp (pe_mthG0 he hG tk hbase hline) fun σ H Q h => mth_go hF Mo hr (fun _ _ _ z => rdA_nil z) h
/-! ### self being made -/
def flatD : D → Bool
  | .non | .bl _ | .int _ | .str _ => true
  | _ => false
def flatR : R → Bool
  | .sh d => flatD d
  | .ow (.lst ds) => ds.all flatD
  | _ => false
def flatM (m : M R) : M R := fun Q E => m (fun r => flatR r = true ∧ Q r) fun x => x.args.all flatD = true ∧ E x
theorem Dt.flat {v : V} {d : D} (h : Dt G B v d) (f : flatD d = true) : Dt G B1 v d := by
  cases h with
  | non => exact .non
  | bl x => exact .bl x
  | int i => exact .int i
  | str x => exact .str x
  | _ => cases f
theorem DtAll.flat : ∀ {vs : List V} {ds : List D}, DtAll G B vs ds → ds.all flatD = true → DtAll G B1 vs ds
  | _, _, .nil, _ => .nil
  | _, _, .cons a t, f => by
    rw [List.all_cons, Bool.and_eq_true] at f
    exact .cons (a.flat f.1) (t.flat f.2)
/-- the base with the instance in it -/
theorem Ini.base {a C dx : Addr} {c : Str} {ws : List (Option V)} {fs : List (Option D)} (w : Wf G B H) (w0 : Wf G B0 H0) (ii : Ini G H0 B H c a C dx ws) (kk : DtSl G B ws fs) (hn : fs ≠ []) :
    ∃ B3, Same B B3 ∧ Wf G B3 H ∧ Dt G B3 (.ref a) (.ins c fs) ∧ ∀ b u, B3 b = some u → B b = some u ∨ H0 b = none := by
  obtain ⟨na1, na2⟩ := w0.bag.neb ii.a0
  obtain ⟨nd1, nd2⟩ := w0.bag.neb ii.d0
  have hS : H a = some (SlX.SlO a C dx ws) ∧ H dx = some (.xd []) := by
    rcases ii.slt with ⟨_, z⟩ | z
    · subst z
      cases kk
      exact absurd rfl hn
    · exact z
  obtain ⟨h1, h2⟩ := hS
  obtain ⟨e1, w1⟩ := Ext.into w h2 ii.dB nd1 nd2 (fun _ _ z => nomatch z)
  have aB1 : upd B dx (.xd []) a = none := by rw [upd_ne ii.ne.symm]; exact ii.aB
  obtain ⟨e2, w2⟩ := Ext.into w1 h1 aB1 na1 na2 (fun _ _ z => by unfold SlX.SlO at z; cases z)
  refine ⟨_, e1.trans e2, w2, .ins ii.cl upd_same ?_ (kk.keep (.of (e1.trans e2))), fun b u q => ?_⟩
  · rw [upd_ne ii.ne, upd_same]
  · by_cases z : b = a
    · subst z; exact .inr ii.a0
    · rw [upd_ne z] at q
      by_cases z2 : b = dx
      · subst z2; exact .inr ii.d0
      · rw [upd_ne z2] at q
        exact .inl q
theorem Ext.forget {B3 B4 H4 : Hp} (w : Wf G B H) (s : Same B B3) (e : Ext G B3 H B4 H4) : Ext G B H B H4 := by
  refine ⟨e.kp, Same.refl _, fun b u q => ?_, w.nf, fun b u q => .inl q, e.bag⟩
  exact e.sub b u (e.bb _ _ (s _ _ q))
theorem RelR.flat {B4 H4 : Hp} {v : V} {r : R} (w : Wf G B H) (h : RelR G H B4 H4 v r) (f : flatR r = true) : RelR G H B H4 v r := by
  match r, h, f with
  | .sh d, h, f => exact Dt.flat h f
  | .ow (.lst ds), ⟨a, o, e1, n, n1, e2, xs, e3, k⟩, f => exact ⟨a, o, e1, n, w.sub.free n, e2, xs, e3, k.flat f⟩
theorem ExnR.flat {B4 H4 : Hp} {xn : Xn} {cls : Value} {d : Option Addr} (h : ExnR G B4 H4 xn cls d) (f : xn.args.all flatD = true) : ExnR G B H4 xn cls d := by
  obtain ⟨C, h1, h2, h3⟩ := h
  refine ⟨C, h1, h2, ?_⟩
  rcases h3 with h3 | ⟨dd, vs, q1, q2, q3, q4⟩
  · exact .inl h3
  · exact .inr ⟨dd, vs, q1, q2, q3, q4.flat f⟩
def iniC : Option (Option Sl) → Option (Str × List (Option D))
  | some (some (.ini _ c fs)) => some (c, fs)
  | _ => none
def mthI (mt : Str → Str → Option (List Str)) (ms : Str → Str → List D → M R) (m : Str) (ma : Env → M (List R)) (env : Env) : M R := do
  let q ← M.opt (iniC env[0]?)
  let _ ← M.opt (mt q.1 m)
  M.need (q.2 ≠ [])
  let rs ← ma env
  let ds ← M.opt (escs rs)
  flatM (mthM mt ms q.1 m (.ins q.1 q.2 :: ds))
theorem iniC_ok {oo : Option (Option Sl)} {c : Str} {fs : List (Option D)} (h : iniC oo = some (c, fs)) : ∃ a, oo = some (some (.ini a c fs)) := by
  unfold iniC at h
  split at h
  · cases h; exact ⟨_, rfl⟩
  · cases h
theorem mthI_go {t : TA} (hF : F.G = U.G b0 c0) (Mo : Mths X F.G.cl U L mt ms) (hr : Room L X.A) (ht : ∀ σ H Q, rdA F ma σ H Q → t σ H Q) {Q : VK} (h : rdE F (mthI mt ms m ma) σ H Q) : tMthG X m F.W (tVar 0) t σ H Q := by
  obtain ⟨B, env, Q0, E0, s, h, hq, hx⟩ := h
  obtain ⟨⟨c, fs⟩, ec, h2⟩ := opt_run h
  obtain ⟨ps, ep, h3⟩ := opt_run h2
  obtain ⟨hn, h3⟩ := h3
  obtain ⟨a, e0⟩ := iniC_ok ec
  obtain ⟨C, k, hC, hk, sc, MM⟩ := Mo.ok c m ps ep
  obtain ⟨v, hv, C', dx, ws, rfl, ii, kk⟩ := s.val 0 _ e0
  have hc := ii.cl
  rw [hC] at hc
  cases hc
  refine ⟨_, hv, a, C, dx, ws, k, ps, _, rfl, ii.slt, sc, MM, hr.mono hk, ht _ _ _ ?_⟩
  refine rdA_step s h3 (fun rs h4 vs H2 B2 e2 r2 => ?_) hx
  obtain ⟨ds, eds, h5⟩ := opt_run h4
  obtain ⟨ps', ep', hl, h6⟩ := mthM_ok (Q0 := fun r => flatR r = true ∧ Q0 r) (E0 := fun x => x.args.all flatD = true ∧ E0 x) h5
  rw [ep] at ep'
  cases ep'
  obtain ⟨B3, s3, e3, k3⟩ := r2.escape s.wf e2 eds
  have sf3 := s.ext1 e3
  obtain ⟨v', hv', C2, dx2, ws2, ev, ii2, kk2⟩ := sf3.val 0 _ e0
  obtain ⟨B4, s4, w4, k4, _⟩ := ii2.base sf3.wf s.w0 kk2 hn
  refine ⟨b0, c0, B4, _ :: ds, _, _, hF ▸ w4, hF ▸ (DtAll.cons k4 (k3.same s4)), hl, h6, fun r hr v H' B' e5 r5 => ?_, fun xn hxn cls d H' B' e5 k5 => ?_⟩
  · rw [← hF] at e5 r5
    have e6 := Ext.forget sf3.wf s4 e5
    exact hq r hr.2 v H' B3 (e3.trans e6) ((RelR.flat sf3.wf r5 hr.1).back e3)
  · rw [← hF] at e5 k5
    have e6 := Ext.forget sf3.wf s4 e5
    exact hx xn hxn.2 cls d H' B3 (e3.trans e6) (k5.flat hxn.1)
theorem se_methI (hF : F.G = U.G b0 c0) (Mo : Mths X F.G.cl U L mt ms) (hr : Room L X.A) (hG : X.A.guards = some []) (tk : L2N.Takes X F.W) (hN : X.N[0]? = some x) (hv : Vis X.env.scope x) (hd : (x == ("__debug__" : Str)) = false) (hcd : (x == ("__classdict__" : Str)) = false) (ha : PA X (e :: es) (rdA F ma))
    (hfew : ((backTo pos (starEach (e :: es) X.env)).all (fun x => !x.1) && (backToKw pos (keywordEach [] X.env)).all (fun x => x.1.isSome) && decide ((e :: es).length + ([] : List Keyword).length + (if ([] : List Keyword).isEmpty then 0 else 1) < 30)) = true)
    (hline : (apos.endLine == pos.line) = true) (h1 : starEach (e :: es) X.env = (false, eval e X.env) :: starEach es X.env) (h2 : (backTo pos (starEach es X.env)).any (·.1) = false) :
    PE X (.Call (.Attribute (.Name x p) m apos) (e :: es) [] pos) (rdE F (mthI mt ms m ma)) :=
  pe_imp (pe_mthG (pe_var hN hv hd hcd) ha hG tk (base_ok rfl) hfew hline h1 h2) fun σ H Q h => mthI_go hF Mo hr (fun _ _ _ z => z) h
theorem se_methI0 (hF : F.G = U.G b0 c0) (Mo : Mths X F.G.cl U L mt ms) (hr : Room L X.A) (hG : X.A.guards = some []) (tk : L2N.Takes X F.W) (hN : X.N[0]? = some x) (hv : Vis X.env.scope x) (hd : (x == ("__debug__" : Str)) = false) (hcd : (x == ("__classdict__" : Str)) = false) (hline : (apos.endLine == pos.line) = true) :
    PE X (.Call (.Attribute (.Name x p) m apos) [] [] pos) (rdE F (mthI mt ms m fun _ => pure [])) :=
  pe_imp (pe_mthG0 (pe_var hN hv hd hcd) hG tk (base_ok rfl) hline) fun σ H Q h => mthI_go hF Mo hr (fun _ _ _ z => rdA_nil z) h
end
/-! ### new instances -/
/-- the promise of an __init__: entered ahead of the instance -/
def spI (U : Ux) (cn : Str) (n : Nat) (sem : List D → M D) : Sp := fun vs H Q E => ∃ b c B H0 a dx C ws ds Q0 E0, vs = .ref a :: ws ∧ H = upd (upd H0 dx (.own a)) a (.ins C dx []) ∧ H0 a = none ∧ H0 dx = none ∧ dx ≠ a ∧ U.cl cn = some C ∧ Wf (U.G b c) B H0 ∧ DtAll (U.G b c) B ws ds ∧ ds.length + 1 = n ∧ sem ds Q0 E0 ∧
  (∀ r, Q0 r → ∀ H' B', Ext (U.G b c) B H0 B' H' → Dt (U.G b c) B' (.ref a) r → Q .non H') ∧ ∀ x, E0 x → ∀ cls d H' B', Ext (U.G b c) B H0 B' H' → ExnR (U.G b c) B' H' x cls d → E cls d H'
theorem spI.len {U : Ux} {cn : Str} {n : Nat} {sem : List D → M D} : ∀ vs H Q E, spI U cn n sem vs H Q E → vs.length = n := fun vs H Q E ⟨b, c, B, H0, a, dx, C, ws, ds, Q0, E0, h1, _, _, _, _, _, _, k, hl, _⟩ => by
  rw [h1, List.length_cons, k.len, hl]
section
variable {X : Cx} {F : Fx} {G : Gx} {B B0 B1 B2 H H0 H1 H2 : Hp} {e o : Expr} {es : List Expr} {pos p p' apos : Pos} {f x m cn : Str} {σ : L2.St} {env : Env} {U : Ux} {k : Nat} {ma : Env → M (List R)} {b0 c0 : Addr} {C : Addr} {ps : List Str} {sem : List D → M D}
theorem se_new (hF : F.G = U.G b0 c0) (hc : U.cl cn = some C) (N : NewG X cn C k ps (spI U cn ps.length sem)) (hr : Room (k + 1) X.A) (hG : X.A.guards = some []) (tk : L2N.Takes X F.W) (ha : PA X (e :: es) (rdA F ma)) (hg : Gl X cn) (hdb : (cn == ("__debug__" : Str)) = false)
    (he : starEach (e :: es) X.env = (false, eval e X.env) :: starEach es X.env) (hpl : (backTo pos (starEach es X.env)).any (·.1) = false) :
    PE X (.Call (.Name cn p) (e :: es) [] pos) (rdE F fun env => do let rs ← ma env; let ds ← M.opt (escs rs); M.need (ds.length + 1 = ps.length); let d ← sem ds; pure (.sh d)) := by
  refine pe_imp (pe_newG N hr hG tk ha hg hdb he hpl) ?_
  rintro σ H Q ⟨B, env, Q0, E0, s, h, hq, hx⟩
  refine rdA_step s h (fun rs h1 vs H1 B1 e1 r1 => fun a dx na nd ne => ?_) hx
  obtain ⟨ds, eds, h2⟩ := opt_run h1
  obtain ⟨hl, h3⟩ := h2
  obtain ⟨B2, s2, e2, k2⟩ := r1.escape s.wf e1 eds
  have w2 := s.wf.ext e2
  refine ⟨b0, c0, B2, H1, a, dx, C, vs, ds, _, E0, rfl, rfl, na, nd, ne, hc, hF ▸ w2, hF ▸ k2, hl, h3, fun r hr H' B' e3 r3 => ⟨rfl, ?_⟩, fun xn hxn cls d H' B' e3 k3 => ?_⟩
  · rw [← hF] at e3 r3
    exact hq _ hr _ H' B' (e2.trans e3) r3
  · rw [← hF] at e3 k3
    exact hx xn hxn cls d H' B' (e2.trans e3) k3
end
def startI (a : Addr) (cn : Str) (N : List Str) (ds : List D) : Env := some (.ini a cn []) :: (ds.map (fun d => some (.sh d)) ++ List.replicate (N.length - (ds.length + 1)) none)
def runI (cn : Str) (N : List Str) (m : Env → MS) (ds : List D) : M D := fun Q E => ∀ a, m (startI a cn N ds) fun o => match o with
  | .nx env => ∃ fs, env[0]? = some (some (.ini a cn fs)) ∧ fs ≠ [] ∧ Q (.ins cn fs)
  | .ex x _ => E x
  | _ => False
theorem sf_init {G : Gx} {B H : Hp} {N : List Str} {vs : List V} {ds : List D} {cn : Str} {a dx C : Addr} (w : Wf G B H) (k : DtAll G B vs ds) (ha : H a = none) (hd : H dx = none) (ne : dx ≠ a) (hc : G.cl cn = some C) :
    Sf G B H B (upd (upd H dx (.own a)) a (.ins C dx [])) (L2.start N (.ref a :: vs)) (startI a cn N ds) := by
  obtain ⟨na1, na2⟩ := w.bag.neb ha
  obtain ⟨nd1, nd2⟩ := w.bag.neb hd
  have rest : ∀ (i : Nat) (sl : Sl), (startI a cn N ds)[i + 1]? = some (some sl) → ∃ d, ds[i]? = some d ∧ sl = .sh d := by
    intro i sl h
    unfold startI at h
    rw [List.getElem?_cons_succ] at h
    by_cases hi : i < ds.length
    · rw [List.getElem?_append_left (by simpa using hi), List.getElem?_map] at h
      obtain ⟨d', e1, e2⟩ := Option.map_eq_some_iff.mp h
      cases e2
      exact ⟨d', e1, rfl⟩
    · rw [List.getElem?_append_right (by simpa using hi), List.getElem?_replicate] at h
      split at h <;> cases h
  have no : ∀ i y, ¬ ownedAt (startI a cn N ds) (L2.start N (.ref a :: vs)) i y := by
    rintro i y ⟨d, e1, _⟩
    cases i with
    | zero => cases e1
    | succ i => obtain ⟨_, _, z⟩ := rest i _ e1; cases z
  have aB : B a = none := w.sub.free ha
  have dB : B dx = none := w.sub.free hd
  refine ⟨w, ⟨fun b u n q => ?_, Same.refl _, fun b u q => ?_, w.nf, fun b u q => .inl q, ?_⟩, ?_, fun i sl h => ?_, fun i y h => absurd h (no i y), fun i j y h => absurd h (no i y), fun i y c fs h => ?_⟩
  · rw [upd_ne (ne_of_none q ha), upd_ne (ne_of_none q hd)]; exact q
  · rw [upd_ne (ne_of_none q aB), upd_ne (ne_of_none q dB)]; exact w.sub b u q
  · exact (w.bag.put ⟨nd1, nd2⟩).put ⟨na1, na2⟩
  · simp [L2.start, startI, k.len]
  · cases i with
    | zero =>
      have : sl = .ini a cn [] := by
        have h' : some (some (Sl.ini a cn [])) = some (some sl) := h
        exact (Option.some.inj (Option.some.inj h')).symm
      subst this
      refine ⟨.ref a, rfl, C, dx, [], rfl, ⟨hc, ha, hd, na1, nd1, aB, dB, .inl ⟨upd_same, rfl⟩, .inl ?_, ne⟩, .nil⟩
      rw [upd_ne ne, upd_same]
    | succ i =>
      obtain ⟨d, e1, rfl⟩ := rest i _ h
      obtain ⟨v, hv, kv⟩ := k.at e1
      refine ⟨v, ?_, kv⟩
      have hi : i < vs.length := (List.getElem?_eq_some_iff.mp hv).1
      unfold L2.start
      rw [List.map_cons, List.cons_append, List.getElem?_cons_succ, List.getElem?_append_left (by rw [List.length_map]; exact hi), List.getElem?_map, hv]
      rfl
  · cases i with
    | zero => rfl
    | succ i => obtain ⟨_, _, z⟩ := rest i _ h; cases z
/-- a def of the text, its defaults left open -/
structure FunA (K : PySem.W.Frag) (qual : Str) (st : Stmt) (f : Addr) (fd : FuncData) : Prop where
  ex : ∃ (x : Str) (params : Arguments) (oc : Value) (od : Option Addr) (dV kV doc pm : Value) (an : Option Addr) (cdv ct : Value) (osl : Array (Option Value)), fd = PySem.W.fnOf x qual params (defBody st) (defScope st) dV kV doc pm an cdv ct ∧ K.lookup f = some ⟨oc, od, .func fd, osl⟩ ∧ PySem.W.codeIn K cdv qual = true
theorem FunA.of {K : PySem.W.Frag} {x qual : Str} {st : Stmt} {f : Addr} {fd : FuncData} (F : Fun K x qual st f fd) : FunA K qual st f fd := by
  obtain ⟨oc, od, kV, doc, pm, an, cdv, ct, osl, rfl, lk, hcd⟩ := F.ex
  exact ⟨_, _, oc, od, _, kV, doc, pm, an, cdv, ct, osl, rfl, lk, hcd⟩
section
variable {P : Program} {w : World} {K : PySem.W.Frag} {mg : Str → Option Value} {base : Heap} {U : Ux}
theorem okA {qual : Str} {st : Stmt} {f : Addr} {fd : FuncData} {N ps : List Str} {k : Nat} {sp : Sp} (F : FunA K qual st f fd) (S : FnScope N ps (defScope st)) (len : ∀ vs H Q E, sp vs H Q E → vs.length = ps.length)
    (hb : ∀ (cdv : Value) (A : Around) (outer : List PySem.Env) (s : Shared) (H : Hp) (vs : List V) (Q : VK) (E : XK), Room k (A.deeper (envOfC qual (defScope st) s.heap.objs.size f cdv)) → (A.deeper (envOfC qual (defScope st) s.heap.objs.size f cdv)).guards = some [] →
      sp vs H Q E → WSs (cxOf (L2N.CX P w) P w K mg base N qual (defScope st) f cdv A outer s H E) (defBody st) { nx := fun _ H' => Q .non H', rt := Q } (start N vs) H) : FnG P w K mg base (L2N.CX P w) (k + 1) f fd ps sp := by
  obtain ⟨x, params, oc, od, dV, kV, doc, pm, an, cdv, ct, osl, rfl, lk, hcd⟩ := F.ex
  exact fn_g lk hcd S len fun A outer s H vs Q E hr hG hsp => hb cdv A outer s H vs Q E hr hG hsp
theorem ok_init {qual cn : Str} {st : Stmt} {f : Addr} {fd : FuncData} {N ps : List Str} {k : Nat} {m : Env → MS} (hU : U.K = K) (Fn : FunA K qual st f fd) (S : FnScope N ps (defScope st))
    (hb : ∀ X F, Body P w K mg base N (defScope st) U k X F → PSs X (defBody st) (rdS F m)) : FnG P w K mg base (L2N.CX P w) (k + 1) f fd ps (spI U cn ps.length (runI cn N m)) := by
  refine okA Fn S spI.len fun cdv A outer s H vs Q E hr hG h => ?_
  obtain ⟨b, c, B, H0, a, dx, C, ws, ds, Q0, E0, rfl, rfl, na, nd, ne, hc, wf, kd, hl, hm, hq, hx⟩ := h
  refine wss_of (hb _ ⟨U.G b c, B, H0, fun cls d _ H' => E cls d H'⟩ ⟨rfl, rfl, rfl, rfl, rfl, rfl, rfl, fun _ => rfl, rfl, S.nd, hr, hG, L2N.takes_of rfl rfl rfl rfl, passes_of rfl, rfl, rfl, ⟨b, c, rfl⟩⟩) ?_
  refine ⟨B, startI a cn N ds, _, sf_init wf kd na nd ne hc, hm a, fun o ho => ?_⟩
  match o, ho with
  | .nx env, ⟨fs, e0, hn, ho⟩ =>
    intro σ H' B' s' _
    obtain ⟨v, hv, C2, dx2, ws2, ev, ii, kk⟩ := s'.val 0 _ e0
    obtain ⟨B3, s3, w3, k3, n3⟩ := ii.base s'.wf wf kk hn
    refine hq _ ho H' B3 ⟨s'.ext.kp, s'.ext.bb.trans s3, w3.sub, w3.nf, fun b u q => ?_, s'.ext.bag⟩ k3
    rcases n3 b u q with z | z
    · exact s'.ext.new b u z
    · exact .inr (.inl z)
  | .ex xn env, ho => exact fun σ H' B' cls d s' _ k' => hx _ ho cls d H' B' s'.ext k'
  | .rt r, ho => exact ho.elim
  | .bk env, ho => exact ho.elim
  | .ct env, ho => exact ho.elim
end
end IP

/-! IC5: set(x) of a list or tuple of keys, by its number of members. -/
namespace IP
open PySem PySem.Spec PyProof.Rows L2 FA
/-- how many different ones, the last one first -/
def cntR {α : Type} [DecidableEq α] : List α → Nat
  | [] => 0
  | k :: r => if k ∈ r then cntR r else cntR r + 1
def cntD {α : Type} [DecidableEq α] (l : List α) : Nat := cntR l.reverse
theorem cntD_snoc {α : Type} [DecidableEq α] (l : List α) (k : α) : cntD (l ++ [k]) = if k ∈ l then cntD l else cntD l + 1 := by
  unfold cntD
  rw [List.reverse_append]
  have e : cntR (k :: l.reverse) = if k ∈ l.reverse then cntR l.reverse else cntR l.reverse + 1 := rfl
  show cntR (k :: l.reverse) = _
  rw [e]
  simp only [List.mem_reverse]
theorem cntR_le {α : Type} [DecidableEq α] : ∀ l : List α, cntR l ≤ l.length
  | [] => Nat.le_refl _
  | k :: r => by
    unfold cntR
    have := cntR_le r
    split <;> simp <;> omega
theorem cntD_le {α : Type} [DecidableEq α] (l : List α) : cntD l ≤ l.length := by
  have := cntR_le l.reverse
  unfold cntD
  simpa using this
theorem cntR_eq {α : Type} [DecidableEq α] : ∀ l : List α, cntR l = l.length ↔ l.Nodup
  | [] => by simp [cntR]
  | k :: r => by
    unfold cntR
    have h1 := cntR_le r
    have h2 := cntR_eq r
    rw [List.nodup_cons]
    split
    next h =>
      constructor
      · intro z; simp at z; omega
      · intro z; exact absurd h z.1
    next h =>
      rw [List.length_cons]
      constructor
      · intro z; exact ⟨h, h2.mp (by omega)⟩
      · intro z; rw [h2.mpr z.2]
theorem cntD_eq {α : Type} [DecidableEq α] (l : List α) : cntD l = l.length ↔ l.Nodup := by
  unfold cntD
  have := cntR_eq l.reverse
  rw [List.length_reverse] at this
  rw [this]
  unfold List.Nodup
  rw [List.pairwise_reverse]
  exact ⟨fun h => h.imp fun z => z.symm, fun h => h.imp fun z => z.symm⟩
section
variable {prog : Program} {w : World} {A : Around} {R : Result → Shared → Prop} {I : Addr} {fp wr : List Addr} {G : Array GenState → Array GenState → Prop} {n : Nat} {P : Nat → Value → Prop} {St : Nat → Shared → Prop} {T : Type} [DecidableEq T] [BEq T] [LawfulBEq T] {knd : PySem.KeyKind prog w T}
/-- the members of a walk put into a set, one by one -/
theorem loopK (W : WalksS prog w A.in1 I fp wr G n P St) (S : Addr) (hSf : S ∉ fp) (ks : List T) (hsz : ks.length = n) (hb : n + 1 < scanBound) (hval : ∀ (i : Nat) (v : Value), P i v → ∃ k, ks[i]? = some k ∧ knd.is k v = true ∧ v.scannable = true) :
    ∀ (k i : Nat) (s : Shared), n - i = k → i ≤ n → St i s → s.heap.SetOf knd S (fun k' => decide (k' ∈ ks.take i)) (cntD (ks.take i)) →
      (∀ s', Moved (S :: wr) G s s' → s'.heap.SetOf knd S (fun k' => decide (k' ∈ ks)) (cntD ks) → R (.ok (.ret .none)) s') →
      codeAny (model prog w) A (.builtin "set.update.loop" ⟨[.ref S, .ref I], []⟩) R s := by
  have hSw : S ∉ wr := fun h => hSf (W.sub _ h)
  have hsub : ∀ b ∈ wr, b ∈ S :: wr := fun b hb => List.mem_cons_of_mem _ hb
  intro k
  induction k with
  | zero =>
    intro i s hk hi hst hS hR
    obtain rfl : i = n := by omega
    refine codeAny_builtin PyProof.Rows.F.entry_set_update_loop ?_
    rw [Around.under_plainId PyProof.Rows.F.plain_set_update_loop _]
    show wpAny _ A.in1 (pyNext (.ref I) >>= _) _ _ s
    refine wpAny_bind (W.done s _ _ hst fun s' hm => ?_)
    rw [List.take_of_length_le (by omega)] at hS
    obtain ⟨o, es, ep, t, ho, rest⟩ := hS
    exact wpAny_pure (hR s' (hm.mono hsub) ⟨o, es, ep, t, hm.heap S _ hSw ho, rest⟩)
  | succ k ih =>
    intro i s hk hi hst hS hR
    have hlt : i < n := by omega
    refine codeAny_builtin PyProof.Rows.F.entry_set_update_loop ?_
    rw [Around.under_plainId PyProof.Rows.F.plain_set_update_loop _]
    show wpAny _ A.in1 (pyNext (.ref I) >>= _) _ _ s
    refine wpAny_bind (W.item i s _ _ hlt hst fun v s' hP hst' hm => ?_)
    obtain ⟨y, hy, his, hsc⟩ := hval i v hP
    have hS' : s'.heap.SetOf knd S (fun k' => decide (k' ∈ ks.take i)) (cntD (ks.take i)) := by
      obtain ⟨o, es, ep, tb, ho, rest⟩ := hS
      exact ⟨o, es, ep, tb, hm.heap S _ hSw ho, rest⟩
    show wpAny _ A.in1 (holding [v] (setAdd S v) >>= _) _ _ s'
    refine wpAny_bind (wpAny_holding ?_)
    unfold setAdd
    refine wpAny_holding (wpAny_bind (knd.pyHash (k := y) his ?_))
    have room : cntD (ks.take i) + 1 < scanBound := by
      have h1 := cntD_le (ks.take i)
      rw [List.length_take] at h1
      omega
    refine wpAny_setAddHashed_of (knd := knd) (s := { s' with toks := s'.toks + 1 }) his hsc hS' room fun h' hsb hS2 => ?_
    have et : ks.take (i + 1) = ks.take i ++ [y] := by rw [List.take_add_one, hy]; rfl
    have hSi : h'.SetOf knd S (fun k' => decide (k' ∈ ks.take (i + 1))) (cntD (ks.take (i + 1))) := by
      rw [et]
      refine SetOf_congr hS2 (fun k' => ?_) ?_
      · simp only [List.mem_append, List.mem_singleton]
        by_cases h1 : k' ∈ ks.take i <;> by_cases h2 : k' = y <;> simp [h1, h2]
      · rw [cntD_snoc]
        simp
    refine wpAny_pure ⟨plainId_quiet PyProof.Rows.F.plain_set_update_loop _, ih (i + 1) _ (by omega) hlt (W.frame _ s' _ _ hst' (Nat.le_succ _) fun b hb o e => ?_) hSi fun s'' hm'' hS'' => ?_⟩
    · rw [hsb.2 b (fun h : b = S => hSf (by rw [← h]; exact hb))]; exact e
    · refine hR s'' (Moved.trans W.gtrans ((hm.mono hsub).then_heap (Nat.le_succ _) fun b o hb e => ?_) hm'') hS''
      rw [hsb.2 b (fun h : b = S => hb (by rw [h]; exact List.mem_cons_self))]; exact e
end
section
variable {prog : Program} {w : World} {A : Around} {E : Value → Shared → Prop} {s : Shared} {T : Type} [DecidableEq T] [BEq T] [LawfulBEq T] {knd : PySem.KeyKind prog w T}
/-- a list or a tuple as what set() walks over -/
def SeqOf (h : Heap) (l : Addr) (items : Array Value) : Prop := h.IsList l items ∨ h.IsTuple l items
theorem call_setK {l : Addr} {items : Array Value} {ks : List T} {Q : Value → Shared → Prop} (hh : A.handled = none) (hl : SeqOf s.heap l items) (hi : ∀ (i : Nat) (v : Value), items[i]? = some v → ∃ k, ks[i]? = some k ∧ knd.is k v = true ∧ v.scannable = true) (hsz : ks.length = items.size) (hb : items.size + 1 < scanBound)
    (h : ∀ (h' : Heap) (tk : Nat), h'.SetOf knd s.heap.objs.size (fun k' => decide (k' ∈ ks)) (cntD ks) → (∀ b o, b < s.heap.objs.size → s.heap.get? b = some o → h'.get? b = some o) → Q (.ref s.heap.objs.size) { s with heap := h', toks := tk }) :
    wpAny (model prog w) A (call (.type "set") [.ref l]) Q E s := by
  obtain ⟨c, tl, hmro⟩ := PySem.F.called_set.mro
  have hmade := PySem.F.called_set.made
  have hsub := PySem.F.called_set.sub
  refine wpAny_call (codeAny_of_tree ?_)
  show wpAny _ _ (callAny (.type "set") _) _ _ _
  refine wpAny_pure ⟨Code.quiet_builtin _ (by decide +kernel), codeAny_builtin PySem.F.entry_type_call ?_⟩
  rw [Around.under_plain (weight_type_call_type "set" [.ref l] []) rfl]
  have h1 := PySem.F.called_set.notType
  have h2 := PySem.F.called_set.canCreate
  have hct := PySem.F.typeCall_set_1 (.ref l)
  repeat (any_goals (first | assumption | wp_step))
  let o0 : Bool → Obj := fun led => { cls := .type "set", dict := none, data := .set #[] 0 (.fresh 0 0 led) }
  refine codeAny_mono (code_set_new_1 (.ref l) (E := E) (Q₁ := fun obj s₁ => ∃ led : Bool, obj = .ref s.heap.objs.size ∧ s₁ = { s with heap := s.heap.push (o0 led) }) fun led => ⟨led, rfl, rfl⟩) fun r s₁ hr => ?_
  match r, hr with
  | .error e, hr => exact hr
  | .ok (.ret obj), hr =>
    obtain ⟨led, rfl, rfl⟩ := hr
    have hS : (s.heap.push (o0 led)).get? s.heap.objs.size = some (o0 led) := Heap.get?_push_size _ rfl
    have hT : Shared.TypeIs { s with heap := s.heap.push (o0 led) } (.ref s.heap.objs.size) "set" := ⟨_, hS, rfl⟩
    have hli := PySem.F.called_set.init.lookup
    have hbi := PySem.F.called_set.init.bind (.ref s.heap.objs.size)
    repeat (any_goals (first | assumption | wp_step))
    refine codeAny_mono (codeAny_call_builtin (R := wants (fun r s₂ => r = .none ∧ ∃ h' tk, s₂ = { s with heap := h', toks := tk } ∧ h'.SetOf knd s.heap.objs.size (fun k' => decide (k' ∈ ks)) (cntD ks) ∧
        (∀ b o, b < s.heap.objs.size → s.heap.get? b = some o → h'.get? b = some o)) E) PySem.F.called_set.init.plain PySem.F.entry_set_init (check_set_init_1 hT ?_)) fun r₂ s₂ hr₂ => ?_
    · have hlS : l < s.heap.objs.size := by
        rcases hl with ⟨ol, hol, _⟩ | ⟨ol, hol, _⟩ <;> exact Heap.lt_size hol
      have hh3 : A.in1.in1.in1.handled = none := by simp [hh]
      have hneI : l ≠ (s.heap.push (o0 led)).objs.size := by
        rw [Heap.size_push]; exact Nat.ne_of_lt (Nat.lt_succ_of_lt hlS)
      have hSf : s.heap.objs.size ∉ [(s.heap.push (o0 led)).objs.size, l] := by
        rw [Heap.size_push]; simp only [List.mem_cons, List.not_mem_nil, or_false, not_or]
        exact ⟨Nat.ne_of_lt (Nat.lt_succ_self _), Nat.ne_of_gt hlS⟩
      rcases hl with ⟨ol, hol, hcl, nl, hdl⟩ | ⟨ol, hol, hcl, nl, hdl⟩
      · obtain ⟨ocls, odict, odata, oslots⟩ := ol
        simp only at hcl hdl
        subst hcl; subst hdl
        have hol' : (s.heap.push (o0 led)).get? l = some { cls := .type "list", dict := odict, data := .seq items nl, slots := oslots } := Heap.get?_push_of_some _ hol
        have hsls := PySem.F.sub_list_set
        have hslf := PySem.F.sub_list_frozenset
        have hne : (Value.type "list" == Value.type "dict") = false := by decide
        have hl1 : (s.heap.push (o0 led)).IsList l items := ⟨_, hol', rfl, nl, rfl⟩
        unfold Builtin.«set.__init__» noKeywords Builtin.Frozenset.updateFrom
        generalize hPI : pyIter = PI
        wp_walk
        subst hPI
        refine wpAny_pyIter_list hl1 (wpAny_bind (wpAny_runValue ?_))
        refine loopK (knd := knd) ((Walks.list hh3 _ l hneI items).toS) s.heap.objs.size hSf ks hsz hb (fun i v hv => hi i v hv) (items.size - 0) 0 _ (by omega) (Nat.zero_le _) ⟨⟨_, Heap.get?_push_size _ rfl, rfl, rfl⟩, (hl1.push _)⟩ ?hS0 ?hR
        case hS0 =>
          exact SetOf_congr ((setObjOf_fresh (knd := knd) led).setOf (Heap.get?_push_of_some _ hS) (by unfold scanBound; omega)) (fun _ => by simp) rfl
        case hR =>
          intro s' hm hS'
          obtain ⟨h', g', d', tk', os'⟩ := s'
          have eg : g' = s.gens := hm.gens
          have ed : d' = s.drawn := hm.drawn
          have eo : os' = s.os := hm.os
          subst eg; subst ed; subst eo
          refine wpAny_pure (wpAny_pure ⟨rfl, h', tk', rfl, hS', fun b o hb e => hm.heap b o ?_ (Heap.get?_push_of_some _ (Heap.get?_push_of_some _ e))⟩)
          have hb2 : b ≠ (s.heap.push (o0 led)).objs.size := by rw [Heap.size_push]; exact Nat.ne_of_lt (Nat.lt_succ_of_lt hb)
          simp only [List.mem_cons, List.not_mem_nil, or_false, not_or]
          exact ⟨Nat.ne_of_lt hb, hb2⟩
      · obtain ⟨ocls, odict, odata, oslots⟩ := ol
        simp only at hcl hdl
        subst hcl; subst hdl
        have hol' : (s.heap.push (o0 led)).get? l = some { cls := .type "tuple", dict := odict, data := .seq items nl, slots := oslots } := Heap.get?_push_of_some _ hol
        have hsls := PySem.F.sub_tuple_set
        have hslf := PySem.F.sub_tuple_frozenset
        have hne : (Value.type "tuple" == Value.type "dict") = false := by decide
        have hl1 : (s.heap.push (o0 led)).IsTuple l items := ⟨_, hol', rfl, nl, rfl⟩
        unfold Builtin.«set.__init__» noKeywords Builtin.Frozenset.updateFrom
        generalize hPI : pyIter = PI
        wp_walk
        subst hPI
        refine wpAny_pyIter_tuple hl1 (wpAny_bind (wpAny_runValue ?_))
        refine loopK (knd := knd) ((Walks.tuple hh3 _ l hneI items).toS) s.heap.objs.size hSf ks hsz hb (fun i v hv => hi i v hv) (items.size - 0) 0 _ (by omega) (Nat.zero_le _) ⟨⟨_, Heap.get?_push_size _ rfl, rfl, rfl⟩, (hl1.push _)⟩ ?hS0 ?hR
        case hS0 =>
          exact SetOf_congr ((setObjOf_fresh (knd := knd) led).setOf (Heap.get?_push_of_some _ hS) (by unfold scanBound; omega)) (fun _ => by simp) rfl
        case hR =>
          intro s' hm hS'
          obtain ⟨h', g', d', tk', os'⟩ := s'
          have eg : g' = s.gens := hm.gens
          have ed : d' = s.drawn := hm.drawn
          have eo : os' = s.os := hm.os
          subst eg; subst ed; subst eo
          refine wpAny_pure (wpAny_pure ⟨rfl, h', tk', rfl, hS', fun b o hb e => hm.heap b o ?_ (Heap.get?_push_of_some _ (Heap.get?_push_of_some _ e))⟩)
          have hb2 : b ≠ (s.heap.push (o0 led)).objs.size := by rw [Heap.size_push]; exact Nat.ne_of_lt (Nat.lt_succ_of_lt hb)
          simp only [List.mem_cons, List.not_mem_nil, or_false, not_or]
          exact ⟨Nat.ne_of_lt hb, hb2⟩
    · match r₂, hr₂ with
      | .error e, hr₂ => exact hr₂
      | .ok (.ret r), hr₂ =>
        obtain ⟨rfl, h', tk, rfl, hS', hk'⟩ := hr₂
        repeat (any_goals (first | assumption | wp_step))
        exact h _ _ hS' hk'
end
end IP

/-! IC6: len(set(x)); sorted(x) of a list. -/
namespace IP
open PySem PySem.Spec PyProof.Rows L2 FA
def keyOfD : D → Option Key
  | .int i => some (.inl i)
  | .str x => some (.inr x)
  | _ => none
def keysD : List D → Option (List Key)
  | [] => some []
  | d :: ds => match keyOfD d, keysD ds with
    | some k, some ks => some (k :: ks)
    | _, _ => none
local instance (priority := 10000) keyBEq : BEq Key := instBEqOfDecidableEq
def fLenSet : D → Option R
  | .lst ds => match keysD ds with
    | some ks => if ks.length ≤ 4000 then some (.sh (.int (cntD ks))) else none
    | none => none
  | .tup ds => match keysD ds with
    | some ks => if ks.length ≤ 4000 then some (.sh (.int (cntD ks))) else none
    | none => none
  | _ => none
section
variable {X : Cx} {F : Fx} {G : Gx} {B B1 B2 H H1 H2 : Hp} {e a b : Expr} {pos p p2 q : Pos}
theorem keyOfD_dt {v : V} {d : D} {k : Key} (h : keyOfD d = some k) (r : Dt G B v d) : v = kV k := by
  match d, h, r with
  | .int i, h, .int _ => cases h; rfl
  | .str i, h, .str _ => cases h; rfl
theorem keysD_dt : ∀ {ds : List D} {ks : List Key} {xs : List V}, keysD ds = some ks → DtAll G B xs ds → xs = ks.map kV
  | [], ks, xs, h, k => by cases k; cases h; rfl
  | d :: ds, ks, xs, h, k => by
    cases k with
    | cons r t =>
      unfold keysD at h
      split at h
      next k' ks' e1 e2 =>
        cases h
        rw [keyOfD_dt e1 r, keysD_dt e2 t]
        rfl
      · cases h
theorem valsKey_at : ∀ {ks : List Key} {us : List Value}, Vals (ks.map kV) us → ∀ (i : Nat) (u : Value), us[i]? = some u → ∃ k, ks[i]? = some k ∧ RelV (kV k) u
  | [], _, .nil, i, u, h => by simp at h
  | k :: ks, _, .cons r t, 0, u, h => by
    simp at h
    subst h
    exact ⟨k, rfl, r⟩
  | k :: ks, _, .cons r t, i + 1, u, h => by
    obtain ⟨k', h1, h2⟩ := valsKey_at t i u (by simpa using h)
    exact ⟨k', by simpa using h1, h2⟩
theorem se_lenSet {m : Env → M R} (hK : F.G.K = X.K) (hc : X.calm = true) (hg : Gl X "len") (hm : X.mg "len" = none) (hg2 : Gl X "set") (hm2 : X.mg "set" = none) (ha : PE X a (rdE F m)) (na : starEach [a] X.env = (false, eval a X.env) :: starEach [] X.env) :
    PE X (.Call (.Name "len" p) [.Call (.Name "set" p2) [a] [] q] [] pos) (rdE F fun env => do let r ← m env; M.opt (fLenSet r.d)) := by
  refine ⟨fun pins s σ H Q I ⟨B, env, Q0, E0, sf, h, hq, hx⟩ => ?_⟩
  refine Call_ (ld_blt I hg hm boot_len ?_)
  refine PyProof.Rows.callWith_builtin1 (PyProof.Rows.args_cons ?_ rfl) rfl rfl
  refine Call_ (ld_blt I hg2 hm2 boot_set ?_)
  refine PyProof.Rows.callWith_type1 (PyProof.Rows.args_cons (thn (ha.run pins s σ H (fun x H1 => ∃ B1 r, Ext F.G B H B1 H1 ∧ View F.G B1 H1 x r.d ∧ (M.opt (fLenSet r.d) : M R) Q0 E0) I (rdE_step sf h (fun r h1 x H1 B1 e1 r1 => ⟨B1, r, e1, r1.view sf.wf e1, h1⟩) hx)) fun v s1 ⟨x, H1, I1, rx, B1, r, e1, vx, h1⟩ => PyProof.Rows.args_nil ?_) na) na rfl
  obtain ⟨r', er, h2⟩ := opt_run h1
  have w1 := sf.wf.ext e1
  have main : ∀ (l : Addr) (its : List Value) (ks : List Key), v = .ref l → Vals (ks.map kV) its → SeqOf s1.heap l its.toArray → ks.length ≤ 4000 → r' = .sh (.int (cntD ks)) →
      wpAny (model X.prog X.w) X.A (call (.type "set") [v]) (fun v s₂ => wpAny (model X.prog X.w) X.A (spliced (backTo pos (starEach [] X.env))) (fun vs s₃ => wpAny (model X.prog X.w) X.A (call (.builtin "len") (v :: vs)) (EP X pins σ Q) X.xe s₃) X.xe s₂) X.xe s1 := by
    intro l its ks ev rv sq hl er'
    subst ev
    have hlen : ks.length = its.toArray.size := by rw [List.size_toArray, ← rv.length, List.length_map]
    refine call_setK (knd := mixKind X.prog X.w) (ks := ks) (I1.ok.hd hc) sq (fun i u hu => ?_) hlen (by rw [← hlen]; unfold scanBound; omega) fun h' tk hS hk => ?_
    · obtain ⟨k, hk, rk⟩ := valsKey_at rv i u (by simpa using hu)
      exact ⟨k, hk, kV_is rk, key_scan rk⟩
    · refine PyProof.Rows.args_nil ?_
      obtain ⟨o, es, ep, t, ho, hex, hd, _, _, _, hf, hn⟩ := hS
      have I2 : Inv X pins σ H1 { s1 with heap := h', toks := tk } := I1.kept fun b o e => hk b o (Heap.lt_size e) e
      have hcl := cntD_le ks
      refine call_len_set ho hex hd hf (by rw [hn] <;> omega) ⟨.int (cntD ks), H1, I2.tok _, ⟨_, by rw [hn]⟩, ?_⟩
      subst er'
      exact hq _ h2 _ H1 B1 e1 (Dt.int _)
  generalize r.d = dd at er vx
  match dd, er, vx with
  | .lst ds, er, vx =>
    obtain ⟨l, xs, rfl, _, hl, kd⟩ := vx.lst w1
    cases rx
    unfold fLenSet at er
    simp only at er
    split at er
    next ks ek =>
      split at er
      next hle =>
        cases er
        have ex := keysD_dt ek kd
        subst ex
        obtain ⟨its, rv, plist, hz⟩ := I1.list (SqL.of hl)
        exact main l its ks rfl rv (.inl plist.isList) hle rfl
      · cases er
    · cases er
  | .tup ds, er, vx =>
    obtain ⟨l, xs, rfl, hl, kd, _⟩ := vx.tup w1
    cases rx
    unfold fLenSet at er
    simp only at er
    split at er
    next ks ek =>
      split at er
      next hle =>
        cases er
        have ex := keysD_dt ek kd
        subst ex
        obtain ⟨its, rv, plist, hz⟩ := I1.tuple (hK ▸ hl)
        exact main l its ks rfl rv (.inr plist) hle rfl
      · cases er
    · cases er
/-! ### sorted -/
open Classical in
noncomputable def srtD (ds : List D) : Option (List D) := if pls ds = true ∧ PySem.W.AllAlike (ds.map toP) ∧ PySem.W.Sortable (ds.map toP) ∧ ds.length ≤ sizeLine ∧ ∀ d ∈ ds, (toP d).depth ≤ 40 then some (ds.mergeSort (PySem.W.dataLe false toP)) else none
noncomputable def fSorted : List D → Option R
  | [.lst ds] => (srtD ds).map fun es => .ow (.lst es)
  | _ => none
theorem pls_mem : ∀ {ds : List D}, pls ds = true → ∀ d ∈ ds, pl d = true
  | [], _, _, h => by cases h
  | x :: xs, h, d, hd => by
    rw [pls, Bool.and_eq_true] at h
    rcases List.mem_cons.mp hd with z | z
    · rw [z]; exact h.1
    · exact pls_mem h.2 d z
theorem each_of {us : List Value} {pins : List (Addr × Obj)} {σ : L2.St} {s : Shared} (hK : G.K = X.K) (I : Inv X pins σ H s) (w : Wf G B H) : ∀ {xs : List V} {ds : List D} {us : List Value}, DtAll G B xs ds → Vals xs us → pls ds = true → PySem.W.EachIs (fun u d => ∃ v, RelV v u ∧ Dt G B v d) us ds ∧ PySem.W.EachIs (fun u d => ∃ as, Reads s.heap u (toP d) as) us ds
  | _, _, _, .nil, .nil, _ => ⟨.nil, .nil⟩
  | _, _, _, .cons a t, .cons r rt, h => by
    rw [pls, Bool.and_eq_true] at h
    obtain ⟨h1, h2⟩ := each_of (us := us) hK I w t rt h.2
    have ra := (a.keep (.sub w.sub w.nf)).fa h.1
    rw [hK] at ra
    obtain ⟨as, r1, _⟩ := ra.reads I r
    exact ⟨.cons ⟨_, r, a⟩ h1, .cons ⟨as, r1⟩ h2⟩
theorem of_each : ∀ {us : List Value} {ds : List D}, PySem.W.EachIs (fun u d => ∃ v, RelV v u ∧ Dt G B v d) us ds → ∃ xs, Vals xs us ∧ DtAll G B xs ds
  | _, _, .nil => ⟨[], .nil, .nil⟩
  | _, _, .cons ⟨v, r, k⟩ t => by
    obtain ⟨xs, h1, h2⟩ := of_each t
    exact ⟨v :: xs, .cons r h1, .cons k h2⟩
theorem ob_sorted (hK : G.K = X.K) (hu : X.A.units + 64 < cLine) : CallR X (.builtin "sorted") (rdN G fSorted) := by
  intro pins s σ H xs us Q I r h
  obtain ⟨B, ds, r', w, vs, e, q⟩ := h
  match ds, e, vs with
  | [.lst ds], e, vs =>
    obtain ⟨es, ee, er⟩ := Option.map_eq_some_iff.mp e
    subst er
    unfold srtD at ee
    split at ee
    next hc =>
      cases ee
      obtain ⟨hp, hal, hk, hL, hd⟩ := hc
      obtain ⟨v, rfl, vx⟩ := vs.one
      obtain ⟨l, ys, rfl, _, hl, kd⟩ := vx.lst w
      obtain ⟨its, rv, plist, hz⟩ := I.list (SqL.of hl)
      rw [Vals.ref1 r]
      obtain ⟨e1, e2⟩ := each_of (us := us) hK I w kd rv hp
      refine PySem.W.sorted_data plist.isList e1 e2 hal hk hL (fun d hd' => by have := hd d hd'; omega) fun out ho eo => ?_
      obtain ⟨zs, r1, k1⟩ := of_each eo
      obtain ⟨ep, he'⟩ := PyProof.Rows.sortedAll_at s.heap its out.toArray
      have hlen : zs.length ≤ sizeLine := by rw [k1.len, List.length_mergeSort]; exact hL
      have fr := I.hok.fresh (Nat.le_succ s.heap.objs.size)
      refine ⟨.ref _, upd H (s.heap.objs.size + 1) (.lst zs), I.laid (t' := s.toks) (fun _ _ => PyProof.Rows.sortedAll_old) (Nat.le_succ _) ⟨hlen, out, ep, r1, he'⟩, rfl, ?_⟩
      exact q _ _ B (Ext.lay w _ fr) ⟨_, _, rfl, fr, w.sub.free fr, upd_same, zs, rfl, k1⟩
    · cases ee
end
end IP

/-! IC7: raise. -/
namespace IP
open PySem PySem.Spec PyProof.Rows L2 FA
/-- an own error of the top -/
structure ErrOk (X : Cx) (G : Gx) (c : Str) (fs : List Str) : Prop where
  ex : ∃ C fI, ErrTxt X.prog X.K X.mg c fs C fI ∧ G.cl c = some C ∧ G.fl c = fs ∧ fs.length ≤ 2
section
variable {X : Cx} {F : Fx} {G : Gx} {B B1 B2 H H1 H2 : Hp} {e : Expr} {es : List Expr} {pos p p2 : Pos} {c : Str} {fs : List Str} {k : Nat}
theorem ss_raise {ms : Env → M (List R)} (T : ErrOk X F.G c fs) (hr : Room k X.A) (hc : X.calm = true) (tk : L2N.Takes X F.W) (ha : PA X (e :: es) (rdA F ms)) (hg : Gl X c) (hdb : (c == ("__debug__" : Str)) = false)
    (he : starEach (e :: es) X.env = (false, eval e X.env) :: starEach es X.env) (hpl : (backTo p2 (starEach es X.env)).any (·.1) = false) :
    PS X (.Raise (some (.Call (.Name c p) (e :: es) [] p2)) none pos) (rdS F fun env => MS.of (do let rs ← ms env; let ds ← M.opt (escs rs); M.need (fs ≠ [] ∧ ds.length = fs.length); pure ds) env fun ds => MS.ret (.ex ⟨c, ds⟩ env)) := by
  obtain ⟨C, fI, T, hC, hf, hl⟩ := T.ex
  refine ps_imp (L2N.ps_raise hc tk (pmk_err T hr hl ha hg hdb he hpl)) ?_
  rintro Dn σ H ⟨B, env, Q0, s, h, hq⟩
  refine rdA_step s h (fun rs h1 vs H1 B1 e1 r1 => ?_) (exOk s hq)
  obtain ⟨ds, eds, h2⟩ := opt_run h1
  obtain ⟨⟨hn, hlen⟩, h3⟩ := h2
  obtain ⟨B2, s2, e2, k2⟩ := r1.escape s.wf e1 eds
  refine ⟨k2.len.trans hlen, ?_⟩
  rw [if_neg hn]
  intro dd hd
  have w2 := s.wf.ext e2
  have e3 := e2.trans (Ext.lay w2 (.xd (fs.zip vs)) hd)
  refine hq _ h3 σ _ B2 _ _ (s.ext1 e3) e3.bb ⟨C, rfl, hC, .inr ⟨dd, vs, rfl, ?_, ?_, k2⟩⟩
  · rw [hf]; exact upd_same
  · rw [hf, k2.len]; exact hlen.symm
theorem ss_raise0 (T : ErrOk X F.G c []) (hr : Room k X.A) (hc : X.calm = true) (tk : L2N.Takes X F.W) (hg : Gl X c) (hdb : (c == ("__debug__" : Str)) = false) :
    PS X (.Raise (some (.Call (.Name c p) [] [] p2)) none pos) (rdS F fun env => MS.ret (.ex ⟨c, []⟩ env)) := by
  obtain ⟨C, fI, T, hC, hf, hl⟩ := T.ex
  refine ps_imp (L2N.ps_raise hc tk (pmk_err0 T hr hg hdb)) ?_
  rintro Dn σ H ⟨B, env, Q0, s, h, hq⟩
  exact hq _ h σ H B _ _ s (Same.refl _) ⟨C, rfl, hC, .inl ⟨rfl, rfl, hf⟩⟩
end
end IP

/-! IP16: the tree of expressions, what it tells, how it is held against the text. -/
namespace IP
open PySem PySem.Spec PyProof.Rows L2 FA
inductive Bi where
  | len | abs | max | min | sum | all | any | int | str | repr | list | tuple | sorted
  deriving DecidableEq
inductive Mt where
  | get | join | split
  deriving DecidableEq
mutual
inductive Ex where
  | nev
  | var (i : Nat)
  | int (i : Int) | str (x : Str) | bl (b : Bool) | non
  | gc (x : Str)
  | bin (op : Operator) (a b : Ex)
  | neg (a : Ex)
  | cmp (op : CmpOp) (a b : Ex)
  | cmp2 (o1 o2 : CmpOp) (a b c : Ex)
  | and (a b : Ex) | or (a b : Ex) | not (a : Ex)
  | ite (c a b : Ex)
  | ix (a b : Ex)
  | sl (a : Ex) (lo hi : Ox)
  | tup (es : Exs) | lst (es : Exs) | dct0
  | bi (f : Bi) (es : Exs)
  | isi (a : Ex) (ts : List String)
  | call (f : Str) (es : Exs)
  | draw (f : Str) (a b : Ex)
  | mth (m : Mt) (o : Ex) (es : Exs)
  | lc (elt : Ex) (tg : Tg) (it : Iq) (c : Ox) (vs : List (Str × Nat))
  | fld (a : Ex) (f : Str) | fldI (f : Str)
  | meth (o : Ex) (m : Str) (es : Exs) | methI (m : Str) (es : Exs)
  | new (c : Str) (es : Exs)
  | lenSet (a : Ex)
inductive Ox where
  | none | some (e : Ex)
inductive Exs where
  | nil | cons (e : Ex) (es : Exs) | star (e : Ex) (es : Exs)
inductive Tg where
  | nm (i : Nat) | tp (ts : Tgs)
inductive Tgs where
  | nil | cons (t : Tg) (ts : Tgs)
inductive Iq where
  | any (e : Ex) | rng1 (a : Ex) | rng2 (a b : Ex)
end
def Bi.nm : Bi → String
  | .len => "len" | .abs => "abs" | .max => "max" | .min => "min" | .sum => "sum" | .all => "all" | .any => "any" | .int => "int" | .str => "str" | .repr => "repr" | .list => "list" | .tuple => "tuple" | .sorted => "sorted"
noncomputable def Bi.sem : Bi → List D → Option R
  | .len => fLen | .abs => fAbs | .max => fMax | .min => fMin | .sum => fSum | .all => fAll | .any => fAny | .int => fInt | .str => fStr | .repr => fRepr | .list => fList | .tuple => fTuple | .sorted => fSorted
def Mt.nm : Mt → String
  | .get => "get" | .join => "join" | .split => "split"
def Mt.ty : Mt → String
  | .get => "dict" | .join => "str" | .split => "str"
def Mt.sem : Mt → D → List D → Option R
  | .get => mGet | .join => mJoin | .split => mSplit
def binSem : Operator → D → D → Option R
  | .Add => bAdd | .Sub => bSub | .Mult => bMul | .Mod => bMod | .FloorDiv => bDiv
  | _ => fun _ _ => none
noncomputable def cmpSem : CmpOp → D → D → Option R
  | .Eq => cEq | .NotEq => cNe | .Lt => cLt | .LtE => cLe | .Gt => cGt | .GtE => cGe | .Is => cIs | .IsNot => cIsNot | .In => cIn | .NotIn => cNotIn
def negD : D → Option R
  | .int i => some (.sh (.int (-i)))
  | _ => none
/-- what the names of the module tell -/
structure Cn where
  tab : Str → Option (List Str)
  sem : Str → List D → M R
  gc : Str → Option D
  slots : Str → Option (List Str)
  mtab : Str → Str → Option (List Str)
  msem : Str → Str → List D → M R
  ctab : Str → Option (List Str)
  csem : Str → List D → M D
  errs : Str → Option (List Str)
def callM (C : Cn) (f : Str) (ds : List D) : M R := match C.tab f with
  | none => M.fail
  | some ps => do
    M.need (ds.length = ps.length)
    C.sem f ds
def newM (C : Cn) (c : Str) (ds : List D) : M R := match C.ctab c with
  | none => M.fail
  | some ps => do
    M.need (ds.length + 1 = ps.length)
    let d ← C.csem c ds
    pure (.sh d)
def drawM (rb : R) (mm : M R) : M R := do
  M.need (rb = .sh .bag)
  let rm ← mm
  let m ← M.opt (asI rm.d)
  M.need (0 < m ∧ m.natAbs.log2 < 9000)
  let r ← M.draw m
  pure (.sh (.int r))
mutual
noncomputable def evE (C : Cn) : Ex → Env → M R
  | .nev, _ => M.fail
  | .var i, env => rVar i env
  | .int i, _ => pure (.sh (.int i))
  | .str x, _ => pure (.sh (.str x))
  | .bl b, _ => pure (.sh (.bl b))
  | .non, _ => pure (.sh .non)
  | .gc x, _ => M.opt ((C.gc x).map R.sh)
  | .bin op a b, env => do let x ← evE C a env; let y ← evE C b env; M.opt (binSem op x.d y.d)
  | .neg a, env => do let x ← evE C a env; M.opt (negD x.d)
  | .cmp op a b, env => do let x ← evE C a env; let y ← evE C b env; M.opt (cmpSem op x.d y.d)
  | .cmp2 o1 o2 a b c, env => ch2 (cmpSem o1) (cmpSem o2) (evE C a) (evE C b) (evE C c) env
  | .and a b, env => mAnd (evE C a) (evE C b) env
  | .or a b, env => mOr (evE C a) (evE C b) env
  | .not a, env => mNot (evE C a) env
  | .ite c a b, env => do let x ← tst (evE C c) env; if x = true then evE C a env else evE C b env
  | .ix a b, env => do let x ← evE C a env; let y ← evE C b env; M.opt (ixD x.d y.d)
  | .sl a lo hi, env => do let x ← evE C a env; let l ← evO C lo env; let h ← evO C hi env; M.opt (slD x.d l h)
  | .tup es, env => do let rs ← evEs C es env; let ds ← M.opt (escs rs); M.opt (if ds.length ≤ sizeLine then some (R.sh (.tup ds)) else none)
  | .lst es, env => do let rs ← evEs C es env; let ds ← M.opt (escs rs); M.opt (if ds.length ≤ sizeLine then some (R.ow (.lst ds)) else none)
  | .dct0, _ => pure (.ow (.dct []))
  | .bi f es, env => do let rs ← evEs C es env; M.opt (f.sem (rs.map R.d))
  | .isi a ts, env => do let r ← evE C a env; M.opt ((match ts with | [T] => isTy r.d T | ts => isTys r.d ts).map R.b)
  | .call f es, env => do let rs ← evEs C es env; let ds ← M.opt (escs rs); callM C f ds
  | .draw _ a b, env => do let rb ← evE C a env; drawM rb (evE C b env)
  | .mth m o es, env => do let r ← evE C o env; M.need (tyD r.d = some m.ty); let rs ← evEs C es env; M.opt (m.sem r.d (rs.map R.d))
  | .lc elt tg it c vs, env => rLc (evIX C it) (vs.map (·.2)) (evG tg) (evC C c) (evE C elt) env
  | .fld a f, env => do let r ← evE C a env; let d ← M.opt (fldD C.slots f r.d); pure (.sh d)
  | .fldI f, env => do let d ← M.opt (fldI C.slots f env[0]?); pure (.sh d)
  | .meth o m es, env => mthR C.mtab C.msem m (evE C o) (evEs C es) env
  | .methI m es, env => mthI C.mtab C.msem m (evEs C es) env
  | .new c es, env => do let rs ← evEs C es env; let ds ← M.opt (escs rs); newM C c ds
  | .lenSet a, env => do let r ← evE C a env; M.opt (fLenSet r.d)
noncomputable def evO (C : Cn) : Ox → Env → M (Option Int)
  | .none, _ => pure none
  | .some e, env => do let x ← evE C e env; let i ← M.opt (asI x.d); pure (some i)
noncomputable def evC (C : Cn) : Ox → Env → M Bool
  | .none, _ => pure true
  | .some e, env => tst (evE C e) env
noncomputable def evEs (C : Cn) : Exs → Env → M (List R)
  | .nil, _ => pure []
  | .cons e es, env => do let r ← evE C e env; let rs ← evEs C es env; pure (r :: rs)
  | .star e es, env => do let r ← evE C e env; let ds ← M.opt (seqD r.d); let rs ← evEs C es env; pure (ds.map R.sh ++ rs)
noncomputable def evG : Tg → D → Env → Option Env
  | .nm i => tgName i
  | .tp ts => tgTup (lenG ts) (evGs ts)
noncomputable def evGs : Tgs → List D → Env → Option Env
  | .nil => tgNil
  | .cons t ts => tgCons (evG t) (evGs ts)
noncomputable def lenG : Tgs → Nat
  | .nil => 0
  | .cons _ ts => lenG ts + 1
noncomputable def evIX (C : Cn) : Iq → Env → M (List D)
  | .any e, env => do let r ← evE C e env; M.opt (itD r.d)
  | .rng1 a, env => do let x ← evE C a env; M.opt (rngD [x.d])
  | .rng2 a b, env => do let x ← evE C a env; let y ← evE C b env; M.opt (rngD [x.d, y.d])
noncomputable def evI (C : Cn) : Iq → Env → M (List D)
  | .any e, env => do let r ← evE C e env; let d ← M.opt r.esc; M.opt (itD d)
  | .rng1 a, env => do let x ← evE C a env; M.opt (rngD [x.d])
  | .rng2 a b, env => do let x ← evE C a env; let y ← evE C b env; M.opt (rngD [x.d, y.d])
end
end IP

/-! IP17: expressions held against the text. -/
namespace IP
open PySem PySem.Spec PyProof.Rows L2 FA
example (C : Cn) (env : Env) : evE C (.and (.var 0) (.not (.int 3))) env = mAnd (rVar 0) (mNot fun _ => pure (.sh (.int 3))) env := rfl
/-- the names of a module: defs, classes with slots, errors -/
structure Mx where
  fs : List Str
  cs : List Str
  xs : List Str
structure Sg where
  N : List Str
  sc : Scope
  fn : Str → Bool
  m : Mx
def Sg.blk (s : Sg) (scope : Scope) : Sg := ⟨s.N, relS scope s.sc, fun x => scope.names.lookup x == some .cell, s.m⟩
def visB (sc : Scope) (x : Str) : Bool := match sc.names.lookup x with
  | some .local => true
  | some .cell => true
  | some .free => true
  | _ => false
def okN (x : Str) : Bool := !(x == ("__debug__" : Str)) && !(x == ("__classdict__" : Str)) && !(x == ("__name__" : Str))
def locB (s : Sg) (x : Str) : Bool := decide (s.sc.names.lookup x = some .local) || (decide (s.sc.names.lookup x = some .cell) && s.fn x)
def glB (s : Sg) (x : Str) : Bool := decide (s.sc.names.lookup x = some .globalImplicit) && okN x
def isIf : Expr → Bool
  | .IfExp _ _ _ _ => true
  | _ => false
def okOp : Operator → Bool
  | .Add | .Sub | .Mult | .Mod | .FloorDiv => true
  | _ => false
def tyOk (T : String) : Bool := T == "int" || T == "bool" || T == "str" || T == "list" || T == "tuple" || T == "dict"
def noStars (es : List Expr) : Bool := es.all fun e => !isStar e
/-! what an expression is -/
def dName : Expr → Option Str
  | .Name x _ => some x
  | _ => none
def dInt : Expr → Option Int
  | .Constant (.int j) _ _ => some j
  | _ => none
def dStr : Expr → Option Str
  | .Constant (.str j) _ _ => some j
  | _ => none
def dBl : Expr → Option Bool
  | .Constant (.bool j) _ _ => some j
  | _ => none
def dNon : Expr → Bool
  | .Constant .none _ _ => true
  | _ => false
def dBin : Expr → Option (Expr × Operator × Expr)
  | .BinOp a op b _ => some (a, op, b)
  | _ => none
def dUn : Expr → Option (UnaryOp × Expr)
  | .UnaryOp op a _ => some (op, a)
  | _ => none
def dCmp1 : Expr → Option (Expr × CmpOp × Expr)
  | .Compare a [op] [b] _ => some (a, op, b)
  | _ => none
def dCmp2 : Expr → Option (Expr × CmpOp × Expr × CmpOp × Expr)
  | .Compare a [op, op'] [b, c] _ => some (a, op, b, op', c)
  | _ => none
def dBool : Expr → Option (BoolOp × Expr × Expr × List Expr × Pos)
  | .BoolOp op (a :: b :: r) p => some (op, a, b, r, p)
  | _ => none
def dIf : Expr → Option (Expr × Expr × Expr)
  | .IfExp c a b _ => some (c, a, b)
  | _ => none
def dSub : Expr → Option (Expr × Expr)
  | .Subscript a b _ => some (a, b)
  | _ => none
def dSlice : Expr → Option (Option Expr × Option Expr)
  | .Slice lo hi none _ => some (lo, hi)
  | _ => none
def dTup : Expr → Option (List Expr)
  | .Tuple xs _ _ => some xs
  | _ => none
def dLst : Expr → Option (List Expr)
  | .List xs _ => some xs
  | _ => none
def dDct0 : Expr → Bool
  | .Dict [] [] _ => true
  | _ => false
def dCall : Expr → Option (Str × Expr × List Expr)
  | .Call (.Name x _) (e :: xs) [] _ => some (x, e, xs)
  | _ => none
def dMeth : Expr → Option (Expr × Str × Pos × Expr × List Expr × Pos)
  | .Call (.Attribute o n ap) (e :: xs) [] cp => some (o, n, ap, e, xs, cp)
  | _ => none
def dLc : Expr → Option (Expr × Expr × Expr × List Expr × Int × Scope)
  | .ListComp e [⟨tg, it, ifs, asy⟩] scope _ => some (e, tg, it, ifs, asy, scope)
  | _ => none
def dAttr : Expr → Option (Expr × Str)
  | .Attribute o f _ => some (o, f)
  | _ => none
def dMeth0 : Expr → Option (Expr × Str × Pos × List Expr × Pos)
  | .Call (.Attribute o n ap) xs [] cp => some (o, n, ap, xs, cp)
  | _ => none
def dLenSet : Expr → Option (Str × Str × Expr)
  | .Call (.Name x _) [.Call (.Name y _) [a] [] _] [] _ => some (x, y, a)
  | _ => none
def dStar : Expr → Option Expr
  | .Starred e _ => some e
  | _ => none
theorem dName_ok {e : Expr} {x : Str} (h : dName e = some x) : ∃ p, e = .Name x p := by
  unfold dName at h
  split at h
  · cases h; exact ⟨_, rfl⟩
  · cases h
theorem dInt_ok {e : Expr} {x : Int} (h : dInt e = some x) : ∃ k p, e = .Constant (.int x) k p := by
  unfold dInt at h
  split at h
  · cases h; exact ⟨_, _, rfl⟩
  · cases h
theorem dStr_ok {e : Expr} {x : Str} (h : dStr e = some x) : ∃ k p, e = .Constant (.str x) k p := by
  unfold dStr at h
  split at h
  · cases h; exact ⟨_, _, rfl⟩
  · cases h
theorem dBl_ok {e : Expr} {x : Bool} (h : dBl e = some x) : ∃ k p, e = .Constant (.bool x) k p := by
  unfold dBl at h
  split at h
  · cases h; exact ⟨_, _, rfl⟩
  · cases h
theorem dNon_ok {e : Expr} (h : dNon e = true) : ∃ k p, e = .Constant .none k p := by
  unfold dNon at h
  split at h
  · exact ⟨_, _, rfl⟩
  · cases h
theorem dBin_ok {e a b : Expr} {op : Operator} (h : dBin e = some (a, op, b)) : ∃ p, e = .BinOp a op b p := by
  unfold dBin at h
  split at h
  · cases h; exact ⟨_, rfl⟩
  · cases h
theorem dUn_ok {e a : Expr} {op : UnaryOp} (h : dUn e = some (op, a)) : ∃ p, e = .UnaryOp op a p := by
  unfold dUn at h
  split at h
  · cases h; exact ⟨_, rfl⟩
  · cases h
theorem dCmp1_ok {e a b : Expr} {op : CmpOp} (h : dCmp1 e = some (a, op, b)) : ∃ p, e = .Compare a [op] [b] p := by
  unfold dCmp1 at h
  split at h
  · cases h; exact ⟨_, rfl⟩
  · cases h
theorem dCmp2_ok {e a b c : Expr} {op op' : CmpOp} (h : dCmp2 e = some (a, op, b, op', c)) : ∃ p, e = .Compare a [op, op'] [b, c] p := by
  unfold dCmp2 at h
  split at h
  · cases h; exact ⟨_, rfl⟩
  · cases h
theorem dBool_ok {e a b : Expr} {op : BoolOp} {r : List Expr} {p : Pos} (h : dBool e = some (op, a, b, r, p)) : e = .BoolOp op (a :: b :: r) p := by
  unfold dBool at h
  split at h
  · cases h; rfl
  · cases h
theorem dIf_ok {e a b c : Expr} (h : dIf e = some (c, a, b)) : ∃ p, e = .IfExp c a b p := by
  unfold dIf at h
  split at h
  · cases h; exact ⟨_, rfl⟩
  · cases h
theorem dSub_ok {e a b : Expr} (h : dSub e = some (a, b)) : ∃ p, e = .Subscript a b p := by
  unfold dSub at h
  split at h
  · cases h; exact ⟨_, rfl⟩
  · cases h
theorem dSlice_ok {e : Expr} {a b : Option Expr} (h : dSlice e = some (a, b)) : ∃ p, e = .Slice a b none p := by
  unfold dSlice at h
  split at h
  · cases h; exact ⟨_, rfl⟩
  · cases h
theorem dTup_ok {e : Expr} {a : List Expr} (h : dTup e = some a) : ∃ k p, e = .Tuple a k p := by
  unfold dTup at h
  split at h
  · cases h; exact ⟨_, _, rfl⟩
  · cases h
theorem dLst_ok {e : Expr} {a : List Expr} (h : dLst e = some a) : ∃ p, e = .List a p := by
  unfold dLst at h
  split at h
  · cases h; exact ⟨_, rfl⟩
  · cases h
theorem dDct0_ok {e : Expr} (h : dDct0 e = true) : ∃ p, e = .Dict [] [] p := by
  unfold dDct0 at h
  split at h
  · exact ⟨_, rfl⟩
  · cases h
theorem dCall_ok {e a : Expr} {x : Str} {xs : List Expr} (h : dCall e = some (x, a, xs)) : ∃ p q, e = .Call (.Name x p) (a :: xs) [] q := by
  unfold dCall at h
  split at h
  · cases h; exact ⟨_, _, rfl⟩
  · cases h
theorem dMeth_ok {e o a : Expr} {n : Str} {ap cp : Pos} {xs : List Expr} (h : dMeth e = some (o, n, ap, a, xs, cp)) : e = .Call (.Attribute o n ap) (a :: xs) [] cp := by
  unfold dMeth at h
  split at h
  · cases h; rfl
  · cases h
theorem dLc_ok {e a tg it : Expr} {ifs : List Expr} {asy : Int} {scope : Scope} (h : dLc e = some (a, tg, it, ifs, asy, scope)) : ∃ p, e = .ListComp a [⟨tg, it, ifs, asy⟩] scope p := by
  unfold dLc at h
  split at h
  · cases h; exact ⟨_, rfl⟩
  · cases h
theorem dAttr_ok {e a : Expr} {f : Str} (h : dAttr e = some (a, f)) : ∃ p, e = .Attribute a f p := by
  unfold dAttr at h
  split at h
  · cases h; exact ⟨_, rfl⟩
  · cases h
theorem dMeth0_ok {e o : Expr} {n : Str} {ap cp : Pos} {xs : List Expr} (h : dMeth0 e = some (o, n, ap, xs, cp)) : e = .Call (.Attribute o n ap) xs [] cp := by
  unfold dMeth0 at h
  split at h
  · cases h; rfl
  · cases h
theorem dLenSet_ok {e a : Expr} {x y : Str} (h : dLenSet e = some (x, y, a)) : ∃ p p2 q r, e = .Call (.Name x p) [.Call (.Name y p2) [a] [] q] [] r := by
  unfold dLenSet at h
  split at h
  · cases h; exact ⟨_, _, _, _, rfl⟩
  · cases h
theorem dStar_ok {e a : Expr} (h : dStar e = some a) : ∃ p, e = .Starred a p := by
  unfold dStar at h
  split at h
  · cases h; exact ⟨_, rfl⟩
  · cases h
def onO {α : Type} (o : Option α) (f : α → Bool) : Bool := match o with
  | some a => f a
  | none => false
theorem onO_ok {α : Type} {o : Option α} {f : α → Bool} (h : onO o f = true) : ∃ a, o = some a ∧ f a = true := by
  cases o with
  | none => cases h
  | some a => exact ⟨a, rfl, h⟩
mutual
def chE (s : Sg) : Ex → Expr → Bool
  | .nev, _ => true
  | .var i, e => onO (dName e) fun x => decide (s.N[i]? = some x) && visB s.sc x && okN x
  | .int i, e => decide (dInt e = some i)
  | .str i, e => decide (dStr e = some i)
  | .bl i, e => decide (dBl e = some i)
  | .non, e => dNon e
  | .gc y, e => decide (dName e = some y) && glB s y
  | .bin op a b, e => onO (dBin e) fun q => decide (op = q.2.1) && okOp op && chE s a q.1 && chE s b q.2.2
  | .neg a, e => onO (dUn e) fun q => decide (q.1 = .USub) && chE s a q.2
  | .cmp op a b, e => onO (dCmp1 e) fun q => decide (op = q.2.1) && chE s a q.1 && chE s b q.2.2 && !isSet q.2.2
  | .cmp2 o1 o2 a b c, e => onO (dCmp2 e) fun q => decide (o1 = q.2.1) && decide (o2 = q.2.2.2.1) && chE s a q.1 && chE s b q.2.2.1 && chE s c q.2.2.2.2 && !isSet q.2.2.2.2
  | .and a b, e => onO (dBool e) fun q => decide (q.1 = .And) && chE s a q.2.1 && !isIf q.2.1 && (if q.2.2.2.1.isEmpty = true then chE s b q.2.2.1 && !isIf q.2.2.1 else chE s b (.BoolOp .And (q.2.2.1 :: q.2.2.2.1) q.2.2.2.2))
  | .or a b, e => onO (dBool e) fun q => decide (q.1 = .Or) && chE s a q.2.1 && !isIf q.2.1 && (if q.2.2.2.1.isEmpty = true then chE s b q.2.2.1 && !isIf q.2.2.1 else chE s b (.BoolOp .Or (q.2.2.1 :: q.2.2.2.1) q.2.2.2.2))
  | .not a, e => onO (dUn e) fun q => decide (q.1 = .Not) && chE s a q.2 && !isIf q.2
  | .ite c a b, e => onO (dIf e) fun q => chE s c q.1 && !isIf q.1 && chE s a q.2.1 && chE s b q.2.2
  | .ix a b, e => onO (dSub e) fun q => chE s a q.1 && chE s b q.2 && !isSlice q.2
  | .sl a lo hi, e => onO (dSub e) fun q => chE s a q.1 && onO (dSlice q.2) fun r => chO s lo r.1 && chO s hi r.2
  | .tup es, e => onO (dTup e) fun xs => chEs s es xs
  | .lst es, e => onO (dLst e) fun xs => chEs s es xs
  | .dct0, e => dDct0 e
  | .bi f es, e => onO (dCall e) fun q => decide (q.1 = (f.nm : Str)) && glB s q.1 && chEs s es (q.2.1 :: q.2.2) && noStars (q.2.1 :: q.2.2)
  | .isi a ts, e => onO (dCall e) fun q => decide (q.1 = ("isinstance" : Str)) && glB s q.1 && chE s a q.2.1 && !isStar q.2.1 && (match ts, q.2.2 with
    | [T], [y] => decide (dName y = some (T : Str)) && tyOk T && glB s (T : Str)
    | [S, T], [y] => onO (dTup y) fun l => (match l with
      | [y1, y2] => decide (dName y1 = some (S : Str)) && tyOk S && glB s (S : Str) && decide (dName y2 = some (T : Str)) && tyOk T && glB s (T : Str)
      | _ => false)
    | _, _ => false)
  | .call f es, e => onO (dCall e) fun q => decide (q.1 = f) && decide (f ∈ s.m.fs) && glB s q.1 && chEs s es (q.2.1 :: q.2.2) && noStars (q.2.1 :: q.2.2)
  | .draw f a b, e => onO (dCall e) fun q => decide (q.1 = f) && decide (f = ("_law_take" : Str)) && glB s q.1 && (match q.2.2 with
    | [e2] => chE s a q.2.1 && chE s b e2 && noStars [q.2.1, e2]
    | _ => false)
  | .mth m o es, e => onO (dMeth e) fun q => decide (q.2.1 = (m.nm : Str)) && chE s o q.1 && noSup q.1 && chEs s es (q.2.2.2.1 :: q.2.2.2.2.1) && noStars (q.2.2.2.1 :: q.2.2.2.2.1) && (q.2.2.1.endLine == q.2.2.2.2.2.line) && decide ((q.2.2.2.1 :: q.2.2.2.2.1).length < 30)
  | .lc elt tg it c vs, e => onO (dLc e) fun q => decide (q.2.2.2.2.1 = 0) && chI s it q.2.2.1 && !isSet q.2.2.1 && blkC s.N s.sc q.2.2.2.2.2 vs && chG (s.blk q.2.2.2.2.2) (vs.map (·.2)) tg q.2.1 && chC (s.blk q.2.2.2.2.2) c q.2.2.2.1 && chE (s.blk q.2.2.2.2.2) elt q.1
  | .fld a f, e => onO (dAttr e) fun q => decide (q.2 = f) && chE s a q.1 && noSup q.1
  | .fldI f, e => onO (dAttr e) fun q => decide (q.2 = f) && onO (dName q.1) fun x => decide (s.N[0]? = some x) && visB s.sc x && okN x
  | .meth o m es, e => onO (dMeth0 e) fun q => decide (q.2.1 = m) && chE s o q.1 && noSup q.1 && chEs s es q.2.2.2.1 && noStars q.2.2.2.1 && (q.2.2.1.endLine == q.2.2.2.2.line) && decide (q.2.2.2.1.length < 30)
  | .methI m es, e => onO (dMeth0 e) fun q => decide (q.2.1 = m) && (onO (dName q.1) fun x => decide (s.N[0]? = some x) && visB s.sc x && okN x) && chEs s es q.2.2.2.1 && noStars q.2.2.2.1 && (q.2.2.1.endLine == q.2.2.2.2.line) && decide (q.2.2.2.1.length < 30)
  | .new c es, e => onO (dCall e) fun q => decide (q.1 = c) && decide (c ∈ s.m.cs) && glB s q.1 && chEs s es (q.2.1 :: q.2.2) && noStars (q.2.1 :: q.2.2)
  | .lenSet a, e => onO (dLenSet e) fun q => decide (q.1 = ("len" : Str)) && decide (q.2.1 = ("set" : Str)) && glB s q.1 && glB s q.2.1 && chE s a q.2.2 && !isStar q.2.2
def chO (s : Sg) : Ox → Option Expr → Bool
  | .none, o => o.isNone
  | .some x, o => onO o fun e => chE s x e
def chC (s : Sg) : Ox → List Expr → Bool
  | .none, l => l.isEmpty
  | .some x, l => onO l.head? fun e => decide (l.length = 1) && chE s x e && !isIf e
def chEs (s : Sg) : Exs → List Expr → Bool
  | .nil, l => l.isEmpty
  | .cons x xs, l => onO l.head? fun e => !isStar e && chE s x e && chEs s xs l.tail
  | .star x xs, l => onO l.head? fun e => onO (dStar e) fun e' => chE s x e' && chEs s xs l.tail
def chG (s : Sg) (vs : List Nat) : Tg → Expr → Bool
  | .nm i, e => onO (dName e) fun x => decide (i ∈ vs) && decide (s.N[i]? = some x) && locB s x
  | .tp ts, e => onO (dTup e) fun es => chGs s vs ts es
def chGs (s : Sg) (vs : List Nat) : Tgs → List Expr → Bool
  | .nil, l => l.isEmpty
  | .cons t ts, l => onO l.head? fun e => !isStar e && chG s vs t e && chGs s vs ts l.tail
def chI (s : Sg) : Iq → Expr → Bool
  | .any x, e => chE s x e
  | .rng1 a, e => onO (dCall e) fun q => decide (q.1 = ("range" : Str)) && glB s q.1 && chE s a q.2.1 && !isStar q.2.1 && q.2.2.isEmpty
  | .rng2 a b, e => onO (dCall e) fun q => decide (q.1 = ("range" : Str)) && glB s q.1 && chE s a q.2.1 && !isStar q.2.1 && (match q.2.2 with
    | [e2] => chE s b e2 && !isStar e2
    | _ => false)
end
/-- the names of built-ins that are left alone -/
def bltNames : List String := ["len", "abs", "max", "min", "sum", "all", "any", "int", "str", "repr", "list", "tuple", "bool", "dict", "isinstance", "range", "sorted", "set", "zip", "enumerate", "reversed"]
/-- where one stands -/
structure Ok (U : Ux) (C : Cn) (L : Nat) (s : Sg) (X : Cx) (F : Fx) : Prop where
  N : X.N = s.N
  sc : X.env.scope = s.sc
  fn : ∀ x, s.fn x = true → X.fn x = true
  calm : X.calm = true
  nd : X.N.Nodup
  room : Room L X.A
  guards : X.A.guards = some []
  tk : L2N.Takes X F.W
  G : ∃ b c, F.G = U.G b c
  K : F.G.K = X.K
  known : ∀ f ∈ s.m.fs, ∃ ps, C.tab f = some ps
  knownC : ∀ c ∈ s.m.cs, ∃ ps, C.ctab c = some ps
  knownX : ∀ c ∈ s.m.xs, ∃ fs, C.errs c = some fs
  calls : ∀ f ps, C.tab f = some ps → ∃ k, k ≤ L ∧ ClN X.prog X.w X.K X.mg X.base k f ps (spF U ps.length (C.sem f))
  gcs : ∀ x d, C.gc x = some d → ∃ u v, X.mg x = some u ∧ RelV v u ∧ ∀ B, Dt F.G B v d
  blt : ∀ x ∈ bltNames, X.mg (x : Str) = none
  take : ∃ k ps, k ≤ L ∧ Cl X.prog X.w X.K X.mg X.base k "_law_take" ps spTake
  sls : SlOk X.K F.G.cl C.slots
  mths : Mths X F.G.cl U L C.mtab C.msem
  news : ∀ c ps, C.ctab c = some ps → ∃ Ca k, U.cl c = some Ca ∧ k + 1 ≤ L ∧ NewG X c Ca k ps (spI U c ps.length (C.csem c))
  errs : ∀ c fs, C.errs c = some fs → ErrOk X F.G c fs
section
variable {U : Ux} {C : Cn} {L : Nat} {s : Sg} {X : Cx} {F : Fx}
theorem Ok.u (o : Ok U C L s X F) : X.A.units + 100 < cLine := by have := o.room.un; omega
theorem visB_ok {sc : Scope} {x : Str} (h : visB sc x = true) : Vis sc x := by
  unfold visB at h
  split at h
  next e => exact .inl e
  next e => exact .inr (.inl e)
  next e => exact .inr (.inr e)
  next => cases h
theorem okN_ok {x : Str} (h : okN x = true) : (x == ("__debug__" : Str)) = false ∧ (x == ("__classdict__" : Str)) = false ∧ x ≠ "__name__" := by
  unfold okN at h
  simp only [Bool.and_eq_true, Bool.not_eq_true'] at h
  refine ⟨h.1.1, h.1.2, fun z => ?_⟩
  have := h.2
  rw [z] at this
  simp at this
theorem Ok.gl (o : Ok U C L s X F) {x : Str} (h : glB s x = true) : Gl X x ∧ (x == ("__debug__" : Str)) = false ∧ x ≠ "__name__" := by
  unfold glB at h
  rw [Bool.and_eq_true, decide_eq_true_eq] at h
  obtain ⟨h1, h2⟩ := h
  obtain ⟨h3, _, h4⟩ := okN_ok h2
  refine ⟨?_, h3, h4⟩
  show X.env.scope.names.lookup x = some .globalImplicit
  rw [o.sc]
  exact h1
theorem Ok.loc (o : Ok U C L s X F) {x : Str} (h : locB s x = true) : Loc X.env.scope x ∧ (X.fn x = true ∨ X.env.scope.names.lookup x = some .local) := by
  unfold locB at h
  rw [Bool.or_eq_true, Bool.and_eq_true, decide_eq_true_eq, decide_eq_true_eq] at h
  rw [o.sc]
  rcases h with h | ⟨h1, h2⟩
  · exact ⟨.inl h, .inr h⟩
  · exact ⟨.inr h1, .inl (o.fn x h2)⟩
theorem Ok.blk (o : Ok U C L s X F) (scope : Scope) (s0 : Shared) (H : Hp) (Cc : Addr) (cl : List (Str × Addr)) (fp : List Addr) : Ok U C L (s.blk scope) (X.blk s0 H scope (compEnvC scope cl Cc X.env) fp) F.blk := by
  refine ⟨o.N, ?_, fun x h => h, o.calm, o.nd, o.room, o.guards, takesF, o.G, o.K, o.known, o.knownC, o.knownX, o.calls, o.gcs, o.blt, o.take, o.sls, ⟨fun c m ps h => ?_⟩, fun c ps h => ?_, fun c fs h => ?_⟩
  · show relS scope X.env.scope = relS scope s.sc
    rw [o.sc]
  · obtain ⟨Ca, k, h1, h2, h3, h4⟩ := o.mths.ok c m ps h
    exact ⟨Ca, k, h1, h2, h3, ⟨h4.ex⟩⟩
  · obtain ⟨Ca, k, h1, h2, h3⟩ := o.news c ps h
    exact ⟨Ca, k, h1, h2, ⟨h3.ex⟩⟩
  · exact ⟨(o.errs c fs h).ex⟩
/-- the rule of a built-in -/
theorem Ok.bi (o : Ok U C L s X F) (f : Bi) : (∃ id, CallR X (.builtin id) (rdN F.G f.sem) ∧ bootBuiltins (f.nm : Str) = some (.builtin id)) ∨ ∃ T, CallR X (.type T) (rdN F.G f.sem) ∧ bootBuiltins (f.nm : Str) = some (.type T) := by
  have u := o.u
  cases f with
  | len => exact .inl ⟨"len", ob_len o.K, by decide +kernel⟩
  | abs => exact .inl ⟨"abs", ob_abs, by decide +kernel⟩
  | max => exact .inl ⟨"max", ob_max o.K o.calm, by decide +kernel⟩
  | min => exact .inl ⟨"min", ob_min o.K o.calm, by decide +kernel⟩
  | sum => exact .inl ⟨"sum", ob_sum o.calm, by decide +kernel⟩
  | all => exact .inl ⟨"all", ob_all o.calm, by decide +kernel⟩
  | any => exact .inl ⟨"any", ob_any o.calm, by decide +kernel⟩
  | int => exact .inr ⟨"int", ob_int, by decide +kernel⟩
  | str => exact .inr ⟨"str", ob_str, by decide +kernel⟩
  | repr => exact .inl ⟨"repr", ob_repr o.K o.guards (by omega), by decide +kernel⟩
  | list => exact .inr ⟨"list", ob_list o.K o.calm, by decide +kernel⟩
  | tuple => exact .inr ⟨"tuple", ob_tuple o.K, by decide +kernel⟩
  | sorted => exact .inl ⟨"sorted", ob_sorted o.K (by omega), by decide +kernel⟩
theorem Bi.mem (f : Bi) : f.nm ∈ bltNames := by cases f <;> decide
theorem Ok.bin (o : Ok U C L s X F) {op : Operator} (h : okOp op = true) : OpR X (binaryOp op) (rd2 F.G (binSem op)) := by
  cases op <;> first | (cases h) | skip
  · exact ob_add o.K
  · exact ob_sub
  · exact ob_mul
  · exact ob_mod
  · exact ob_div
theorem Ok.cmp (o : Ok U C L s X F) (op : CmpOp) : OpR X (compareOp op) (rd2 F.G (cmpSem op)) := by
  have u := o.u
  cases op with
  | Eq => exact ob_eq o.K (by omega)
  | NotEq => exact ob_ne o.K (by omega)
  | Lt => exact ob_lt
  | LtE => exact ob_le
  | Gt => exact ob_gt
  | GtE => exact ob_ge
  | Is => exact ob_is
  | IsNot => exact ob_isnot
  | In => exact ob_in o.K (by omega)
  | NotIn => exact ob_notIn o.K (by omega)
theorem Ok.mt (o : Ok U C L s X F) (m : Mt) : ∃ id, PlainAttrs m.ty ∧ Slot m.ty (m.nm : Str) id ∧ typeOf (.builtin id) = pure (.type "method_descriptor") ∧ MtR X id (rdMt F.G m.sem) := by
  have u := o.u
  cases m with
  | get => exact ⟨_, PySem.F.plainAttrs_dict, PySem.F.slot_dict_get, PySem.F.type_dict_get, ob_get (by omega)⟩
  | join => exact ⟨_, PySem.F.plainAttrs_str, PySem.F.slot_str_join, PySem.F.type_str_join, ob_join o.K⟩
  | split => exact ⟨_, PySem.F.plainAttrs_str, PySem.F.slot_str_split, PySem.F.type_str_split, ob_split⟩
theorem tyOk_boot {T : String} (h : tyOk T = true) : bootBuiltins (T : Str) = some (.type T) ∧ T ∈ bltNames := by
  unfold tyOk at h
  simp only [Bool.or_eq_true, beq_iff_eq] at h
  rcases h with ((((h | h) | h) | h) | h) | h <;> subst h <;> exact ⟨by decide +kernel, by decide⟩
def unD (sem : D → Option R) : V → Hp → VK → Prop := fun _ _ _ => True
theorem se_neg {a : Expr} {pos : Pos} {ma : Env → M R} (ha : PE X a (rdE F ma)) : PE X (.UnaryOp .USub a pos) (rdE F fun env => do let x ← ma env; M.opt (negD x.d)) := by
  refine pe_imp (pe_un un_neg ha) ?_
  rintro σ H Q ⟨B, env, Q0, E0, s, h, hq, hx⟩
  refine rdE_step s h (fun rx h1 x H1 B1 e1 r1 => ?_) hx
  obtain ⟨r, er, h2⟩ := opt_run h1
  have v1 := r1.view s.wf e1
  generalize rx.d = d at er v1
  match d, er, v1 with
  | .int i, er, v1 =>
    cases er
    exact ⟨i, v1.int, hq _ h2 _ H1 B1 e1 (Dt.int _)⟩
end
end IP

/-! IP18: expressions: what the tree tells, the text does. -/
namespace IP
open PySem PySem.Spec PyProof.Rows L2 FA
def Snd (X : Cx) (F : Fx) (e : Expr) (m : Env → M R) : Prop := PE X e (rdE F m) ∧ (isIf e = false → PT X e (rdT F (tst m))) ∧ ∀ op vs pos, e = .BoolOp op vs pos → PW X e (rdT F (tst m))
section
variable {U : Ux} {C : Cn} {L : Nat} {s : Sg} {X : Cx} {F : Fx} {e : Expr} {m : Env → M R}
theorem Snd.leaf (hK : F.G.K = X.K) (h : PE X e (rdE F m)) (hp : plainT e = true) : Snd X F e m := by
  refine ⟨h, fun _ => st_tru hK h (plainT_ok hp), fun op vs pos z => ?_⟩
  subst z
  cases hp
theorem tst_b {f : Env → M R} (h : ∀ env, f env = (do let r ← f env; M.opt (some r))) : True := trivial
/-- where what comes is a truth value, asB is truD -/
theorem st_b {m : Env → M R} (h : PT X e (rdT F fun env => do let r ← m env; M.opt (asB r.d))) (hm : (fun env => do let r ← m env; M.opt (asB r.d)) = tst m) : PT X e (rdT F (tst m)) := hm ▸ h
theorem cmp_bl {op : CmpOp} {x y : D} {r : R} (h : cmpSem op x y = some r) : asB r.d = truD r.d := by
  have key : ∀ b, r = R.b b → asB r.d = truD r.d := fun b e => by subst e; rfl
  cases op with
  | Eq =>
    obtain ⟨b, _, e⟩ := Option.map_eq_some_iff.mp h
    exact key b e.symm
  | NotEq =>
    have h : (if pl x = true ∧ pl y = true ∧ (toP x).plain = true ∧ (toP y).plain = true ∧ (toP x).depth ≤ 60 then some (R.b (!PyData.eqv (toP x) (toP y))) else none) = some r := h
    by_cases hc : pl x = true ∧ pl y = true ∧ (toP x).plain = true ∧ (toP y).plain = true ∧ (toP x).depth ≤ 60
    · rw [if_pos hc] at h
      exact key _ (Option.some.inj h).symm
    · rw [if_neg hc] at h
      cases h
  | In =>
    obtain ⟨b, _, e⟩ := Option.map_eq_some_iff.mp h
    exact key b e.symm
  | NotIn =>
    obtain ⟨b, _, e⟩ := Option.map_eq_some_iff.mp h
    exact key _ e.symm
  | Lt => cases x <;> cases y <;> simp [cmpSem, cLt] at h; exact key _ h.symm
  | LtE => cases x <;> cases y <;> simp [cmpSem, cLe] at h; exact key _ h.symm
  | Gt => cases x <;> cases y <;> simp [cmpSem, cGt] at h; exact key _ h.symm
  | GtE => cases x <;> cases y <;> simp [cmpSem, cGe] at h; exact key _ h.symm
  | Is => cases y <;> simp [cmpSem, cIs] at h; exact key _ h.symm
  | IsNot => cases y <;> simp [cmpSem, cIsNot] at h; exact key _ h.symm
theorem tst_cmp (op : CmpOp) (ma mb : Env → M R) : (fun env => do let r ← (do let x ← ma env; let y ← mb env; M.opt (cmpSem op x.d y.d)); M.opt (asB r.d)) = tst (fun env => do let x ← ma env; let y ← mb env; M.opt (cmpSem op x.d y.d)) := by
  funext env Q E
  show ma env _ E = ma env _ E
  congr 1
  funext x
  show mb env _ E = mb env _ E
  congr 1
  funext y
  show M.opt (cmpSem op x.d y.d) _ E = M.opt (cmpSem op x.d y.d) _ E
  cases q : cmpSem op x.d y.d with
  | none => rw [opt_none, opt_none]
  | some r =>
    rw [opt_some, opt_some]
    show M.opt (asB r.d) Q E = M.opt (truD r.d) Q E
    rw [cmp_bl q]
theorem tst_ch (o1 o2 : CmpOp) (ma mb mc : Env → M R) : (fun env => do let r ← ch2 (cmpSem o1) (cmpSem o2) ma mb mc env; M.opt (asB r.d)) = tst (ch2 (cmpSem o1) (cmpSem o2) ma mb mc) := by
  funext env Q E
  show ma env _ E = ma env _ E
  congr 1
  funext x
  show mb env _ E = mb env _ E
  congr 1
  funext y
  show M.opt (cmpSem o1 x.d y.d) _ E = M.opt (cmpSem o1 x.d y.d) _ E
  cases q : cmpSem o1 x.d y.d with
  | none => rw [opt_none, opt_none]
  | some r =>
    rw [opt_some, opt_some]
    show M.opt (asB r.d) _ E = M.opt (asB r.d) _ E
    cases q2 : asB r.d with
    | none => rw [opt_none, opt_none]
    | some k =>
      rw [opt_some, opt_some]
      cases k with
      | false =>
        show M.opt (asB (.bl false)) Q E = M.opt (truD (.bl false)) Q E
        rfl
      | true =>
        show mc env _ E = mc env _ E
        congr 1
        funext z
        show M.opt (cmpSem o2 y.d z.d) _ E = M.opt (cmpSem o2 y.d z.d) _ E
        cases q3 : cmpSem o2 y.d z.d with
        | none => rw [opt_none, opt_none]
        | some r' =>
          rw [opt_some, opt_some]
          show M.opt (asB r'.d) Q E = M.opt (truD r'.d) Q E
          rw [cmp_bl q3]
theorem and3 {a b c : Bool} (h : (a && b && c) = true) : a = true ∧ b = true ∧ c = true := by
  simp only [Bool.and_eq_true] at h
  exact ⟨h.1.1, h.1.2, h.2⟩
theorem stars_cons {e : Expr} {es : List Expr} (h : noStars (e :: es) = true) : isStar e = false ∧ noStars es = true := by
  unfold noStars at h
  rw [List.all_cons, Bool.and_eq_true] at h
  exact ⟨by simpa using h.1, h.2⟩
abbrev SE (U : Ux) (C : Cn) (L : Nat) (x : Ex) : Prop := ∀ {s : Sg} {X : Cx} {F : Fx}, Ok U C L s X F → ∀ {e : Expr}, chE s x e = true → Snd X F e (evE C x)
abbrev SO (U : Ux) (C : Cn) (L : Nat) (x : Ox) : Prop := (∀ {s : Sg} {X : Cx} {F : Fx}, Ok U C L s X F → ∀ {e : Option Expr}, chO s x e = true → PO X e (rdO F (evO C x))) ∧ ∀ {s : Sg} {X : Cx} {F : Fx}, Ok U C L s X F → ∀ {e : List Expr}, chC s x e = true → PTs X e (rdT F (evC C x))
abbrev SEs (U : Ux) (C : Cn) (L : Nat) (x : Exs) : Prop := ∀ {s : Sg} {X : Cx} {F : Fx}, Ok U C L s X F → ∀ {e : List Expr}, chEs s x e = true → PA X e (rdA F (evEs C x))
abbrev SG (U : Ux) (C : Cn) (L : Nat) (x : Tg) : Prop := ∀ {vs : List Nat} {s : Sg} {X : Cx} {F : Fx}, Ok U C L s X F → ∀ {e : Expr}, chG s vs x e = true → PG X e (rdG F vs (evG x))
abbrev SGs (U : Ux) (C : Cn) (L : Nat) (x : Tgs) : Prop := ∀ {vs : List Nat} {s : Sg} {X : Cx} {F : Fx}, Ok U C L s X F → ∀ {e : List Expr}, chGs s vs x e = true → PGs X e (rdGs F vs (evGs x)) ∧ (assignEach e X.env).length = lenG x ∧ (assignEach e X.env).findIdx? (·.1) = none
abbrev SI (U : Ux) (C : Cn) (L : Nat) (x : Iq) : Prop := ∀ {s : Sg} {X : Cx} {F : Fx}, Ok U C L s X F → ∀ {e tg : Expr}, chI s x e = true → PI X tg e (rdIX F (evIX C x)) ∧ PI X tg e (rdI F (evI C x))
theorem so_nev : SE U C L .nev := by
  intro s X F o e h
  exact ⟨⟨fun pins s σ H Q I ⟨B, env, Q0, E0, sf, hm, _⟩ => hm.elim⟩, fun _ => ⟨fun pins s σ H Q I ⟨B, env, Q0, E0, sf, hm, _⟩ => hm.elim⟩, fun _ _ _ _ => ⟨fun w pins s σ H Q I ⟨B, env, Q0, E0, sf, hm, _⟩ => hm.elim⟩⟩
theorem so_var (i : Nat) : SE U C L (.var i) := by
  intro s X F o e h
  replace h := onO_ok h
  obtain ⟨y, hy, h⟩ := h
  obtain ⟨p, rfl⟩ := dName_ok hy
  obtain ⟨h1, h2, h3⟩ := and3 h
  obtain ⟨n1, n2, n3⟩ := okN_ok h3
  exact Snd.leaf o.K (se_var (by rw [o.N]; exact of_decide_eq_true h1) (by rw [o.sc]; exact visB_ok h2) n1 n2) rfl
theorem so_int (i : Int) : SE U C L (.int i) := by
  intro s X F o e h
  obtain ⟨k, p, rfl⟩ := dInt_ok (of_decide_eq_true h)
  exact Snd.leaf o.K (se_const pe_int fun B => Dt.int _) rfl
theorem so_str (i : Str) : SE U C L (.str i) := by
  intro s X F o e h
  obtain ⟨k, p, rfl⟩ := dStr_ok (of_decide_eq_true h)
  exact Snd.leaf o.K (se_const pe_str fun B => Dt.str _) rfl
theorem so_bl (i : Bool) : SE U C L (.bl i) := by
  intro s X F o e h
  obtain ⟨k, p, rfl⟩ := dBl_ok (of_decide_eq_true h)
  exact Snd.leaf o.K (se_const pe_bl fun B => Dt.bl _) rfl
theorem so_non : SE U C L .non := by
  intro s X F o e h
  obtain ⟨k, p, rfl⟩ := dNon_ok h
  exact Snd.leaf o.K (se_const pe_non fun B => Dt.non) rfl
theorem so_gc (y : Str) : SE U C L (.gc y) := by
  intro s X F o e h
  have h : (decide (dName e = some y) && glB s y) = true := h
  rw [Bool.and_eq_true, decide_eq_true_eq] at h
  obtain ⟨hn, hg⟩ := h
  obtain ⟨p, rfl⟩ := dName_ok hn
  obtain ⟨g1, g2, g3⟩ := o.gl hg
  refine Snd.leaf o.K ?_ rfl
  show PE X _ (rdE F fun _ => M.opt ((C.gc y).map R.sh))
  cases q : C.gc y with
  | none => exact ⟨fun pins s σ H Q I ⟨B, env, Q0, E0, sf, ⟨_, hm, _⟩, _⟩ => nomatch hm⟩
  | some d =>
    obtain ⟨u, v, hm, hr, hd⟩ := o.gcs y d q
    have e : (fun _ : IP.Env => (M.opt (Option.map R.sh (some d)) : M R)) = fun _ => pure (R.sh d) := by
      funext _ Q E
      exact opt_some _ _ _
    rw [e]
    exact se_const (pe_glob g1 hm hr g2) hd
theorem so_bin (op : Operator) (a b : Ex) (ia : SE U C L a) (ib : SE U C L b) : SE U C L (.bin op a b) := by
  intro s X F o e h
  replace h := onO_ok h
  obtain ⟨⟨e1, op', e2⟩, hd, h⟩ := h
  obtain ⟨p, rfl⟩ := dBin_ok hd
  simp only [Bool.and_eq_true, decide_eq_true_eq] at h
  obtain ⟨⟨⟨rfl, h1⟩, h2⟩, h3⟩ := h
  exact Snd.leaf o.K (se_bin (o.bin h1) (ia o h2).1 (ib o h3).1) rfl
theorem so_neg (a : Ex) (ia : SE U C L a) : SE U C L (.neg a) := by
  intro s X F o e h
  replace h := onO_ok h
  obtain ⟨⟨op, e1⟩, hd, h⟩ := h
  obtain ⟨p, rfl⟩ := dUn_ok hd
  simp only [Bool.and_eq_true, decide_eq_true_eq] at h
  obtain ⟨rfl, h1⟩ := h
  exact Snd.leaf o.K (se_neg (ia o h1).1) rfl
theorem so_cmp (op : CmpOp) (a b : Ex) (ia : SE U C L a) (ib : SE U C L b) : SE U C L (.cmp op a b) := by
  intro s X F o e h
  replace h := onO_ok h
  obtain ⟨⟨e1, op', e2⟩, hd, h⟩ := h
  obtain ⟨p, rfl⟩ := dCmp1_ok hd
  simp only [Bool.and_eq_true, decide_eq_true_eq, Bool.not_eq_true'] at h
  obtain ⟨⟨⟨rfl, h2⟩, h3⟩, h4⟩ := h
  have i1 := (ia o h2).1
  have i2 := (ib o h3).1
  exact ⟨se_cmp (o.cmp op) i1 i2 (marks_no h4), fun _ => st_b (st_cmp (o.cmp op) i1 i2 (marks_no h4)) (tst_cmp op _ _), fun _ _ _ z => nomatch z⟩
theorem so_cmp2 (o1 o2 : CmpOp) (a b c : Ex) (ia : SE U C L a) (ib : SE U C L b) (ic : SE U C L c) : SE U C L (.cmp2 o1 o2 a b c) := by
  intro s X F o e h
  replace h := onO_ok h
  obtain ⟨⟨e1, p1, e2, p2, e3⟩, hd, h⟩ := h
  obtain ⟨p, rfl⟩ := dCmp2_ok hd
  simp only [Bool.and_eq_true, decide_eq_true_eq, Bool.not_eq_true'] at h
  obtain ⟨⟨⟨⟨⟨rfl, rfl⟩, h2⟩, h3⟩, h4⟩, h5⟩ := h
  have i1 := (ia o h2).1
  have i2 := (ib o h3).1
  have i3 := (ic o h4).1
  exact ⟨se_chain (o.cmp o1) (o.cmp o2) i1 i2 i3 (last_no h5), fun _ => st_b (st_chain (o.cmp o1) (o.cmp o2) i1 i2 i3 (last_no h5)) (tst_ch o1 o2 _ _ _), fun _ _ _ z => nomatch z⟩
theorem so_and (a b : Ex) (ia : SE U C L a) (ib : SE U C L b) : SE U C L (.and a b) := by
  intro s X F o e h
  replace h := onO_ok h
  obtain ⟨⟨op, e1, e2, rest, p⟩, hd, h⟩ := h
  have he := dBool_ok hd
  subst he
  simp only [Bool.and_eq_true, decide_eq_true_eq, Bool.not_eq_true'] at h
  obtain ⟨⟨⟨rfl, h1⟩, h2⟩, h3⟩ := h
  have ja := ia o h1
  cases rest with
  | nil =>
    have h3 : (chE s b e2 && !isIf e2) = true := h3
    simp only [Bool.and_eq_true, Bool.not_eq_true'] at h3
    have jb := ib o h3.1
    have w := sw_andT (pos := p) (ja.2.1 h2) (pw_and1 (jb.2.1 h3.2))
    exact ⟨se_andT o.K ja.1 (pe_one jb.1), fun _ => w.pt, fun op vs pos z => w⟩
  | cons e3 r =>
    have jb := ib o (e := .BoolOp .And (e2 :: e3 :: r) p) h3
    have w := sw_andT (pos := p) (ja.2.1 h2) (jb.2.2 _ _ _ rfl)
    exact ⟨se_andT o.K ja.1 jb.1, fun _ => w.pt, fun op vs pos z => w⟩
theorem so_or (a b : Ex) (ia : SE U C L a) (ib : SE U C L b) : SE U C L (.or a b) := by
  intro s X F o e h
  replace h := onO_ok h
  obtain ⟨⟨op, e1, e2, rest, p⟩, hd, h⟩ := h
  have he := dBool_ok hd
  subst he
  simp only [Bool.and_eq_true, decide_eq_true_eq, Bool.not_eq_true'] at h
  obtain ⟨⟨⟨rfl, h1⟩, h2⟩, h3⟩ := h
  have ja := ia o h1
  cases rest with
  | nil =>
    have h3 : (chE s b e2 && !isIf e2) = true := h3
    simp only [Bool.and_eq_true, Bool.not_eq_true'] at h3
    have jb := ib o h3.1
    have w := sw_orT (pos := p) (ja.2.1 h2) (pw_or1 (jb.2.1 h3.2))
    exact ⟨se_orT o.K ja.1 (pe_one jb.1), fun _ => w.pt, fun op vs pos z => w⟩
  | cons e3 r =>
    have jb := ib o (e := .BoolOp .Or (e2 :: e3 :: r) p) h3
    have w := sw_orT (pos := p) (ja.2.1 h2) (jb.2.2 _ _ _ rfl)
    exact ⟨se_orT o.K ja.1 jb.1, fun _ => w.pt, fun op vs pos z => w⟩
theorem so_not (a : Ex) (ia : SE U C L a) : SE U C L (.not a) := by
  intro s X F o e h
  replace h := onO_ok h
  obtain ⟨⟨op, e1⟩, hd, h⟩ := h
  obtain ⟨p, rfl⟩ := dUn_ok hd
  simp only [Bool.and_eq_true, decide_eq_true_eq, Bool.not_eq_true'] at h
  obtain ⟨⟨rfl, h1⟩, h2⟩ := h
  have ja := ia o h1
  exact ⟨se_notT o.K ja.1, fun _ => st_notT (ja.2.1 h2), fun _ _ _ z => nomatch z⟩
theorem so_ite (c a b : Ex) (ic : SE U C L c) (ia : SE U C L a) (ib : SE U C L b) : SE U C L (.ite c a b) := by
  intro s X F o e h
  replace h := onO_ok h
  obtain ⟨⟨e1, e2, e3⟩, hd, h⟩ := h
  obtain ⟨p, rfl⟩ := dIf_ok hd
  simp only [Bool.and_eq_true, Bool.not_eq_true'] at h
  obtain ⟨⟨⟨h1, h2⟩, h3⟩, h4⟩ := h
  exact ⟨se_if ((ic o h1).2.1 h2) (ia o h3).1 (ib o h4).1, (fun z => by cases z), fun _ _ _ z => nomatch z⟩
theorem so_ix (a b : Ex) (ia : SE U C L a) (ib : SE U C L b) : SE U C L (.ix a b) := by
  intro s X F o e h
  replace h := onO_ok h
  obtain ⟨⟨e1, e2⟩, hd, h⟩ := h
  obtain ⟨p, rfl⟩ := dSub_ok hd
  simp only [Bool.and_eq_true, Bool.not_eq_true'] at h
  obtain ⟨⟨h1, h2⟩, h3⟩ := h
  exact Snd.leaf o.K (se_ix (ob_ix o.K (by have := o.u; omega)) (ia o h1).1 (ib o h2).1 (plainIx_no h3)) rfl
theorem so_sl (a : Ex) (lo hi : Ox) (ia : SE U C L a) (il : SO U C L lo) (ih : SO U C L hi) : SE U C L (.sl a lo hi) := by
  intro s X F o e h
  replace h := onO_ok h
  obtain ⟨⟨e1, e2⟩, hd, h⟩ := h
  obtain ⟨p, rfl⟩ := dSub_ok hd
  rw [Bool.and_eq_true] at h
  obtain ⟨h1, h2⟩ := h
  obtain ⟨⟨l', h'⟩, hd2, h3⟩ := onO_ok h2
  have he2 := dSlice_ok hd2
  obtain ⟨p2, he2⟩ := he2
  have he2 : e2 = .Slice l' h' none p2 := he2
  subst he2
  rw [Bool.and_eq_true] at h3
  exact Snd.leaf o.K (se_sl o.K (ia o h1).1 (il.1 o h3.1) (ih.1 o h3.2)) rfl
theorem so_tup (es : Exs) (ie : SEs U C L es) : SE U C L (.tup es) := by
  intro s X F o e h
  replace h := onO_ok h
  obtain ⟨xs, hd, h⟩ := h
  obtain ⟨k, p, rfl⟩ := dTup_ok hd
  exact Snd.leaf o.K (se_tup (ie o h)) rfl
theorem so_lst (es : Exs) (ie : SEs U C L es) : SE U C L (.lst es) := by
  intro s X F o e h
  replace h := onO_ok h
  obtain ⟨xs, hd, h⟩ := h
  obtain ⟨p, rfl⟩ := dLst_ok hd
  exact Snd.leaf o.K (se_lst (ie o h)) rfl
theorem so_dct0 : SE U C L .dct0 := by
  intro s X F o e h
  obtain ⟨p, rfl⟩ := dDct0_ok h
  exact Snd.leaf o.K se_dct0 rfl
theorem so_bi (f : Bi) (es : Exs) (ie : SEs U C L es) : SE U C L (.bi f es) := by
  intro s X F o e h
  replace h := onO_ok h
  obtain ⟨⟨x, e1, xs⟩, hd, h⟩ := h
  obtain ⟨p, q, rfl⟩ := dCall_ok hd
  simp only [Bool.and_eq_true, decide_eq_true_eq] at h
  obtain ⟨⟨⟨rfl, hg⟩, h1⟩, h2⟩ := h
  obtain ⟨g1, g2, g3⟩ := o.gl hg
  obtain ⟨n1, n2⟩ := stars_cons h2
  have hm := o.blt _ f.mem
  refine Snd.leaf o.K ?_ rfl
  rcases o.bi f with ⟨id, c1, c2⟩ | ⟨T, c1, c2⟩
  · exact se_callB c1 g1 hm c2 (ie o h1) g3 g2 (star_no n1) (star_all n2)
  · exact se_callTy c1 g1 hm c2 (ie o h1) g3 g2 (star_no n1) (star_all n2)
theorem so_isi (a : Ex) (ts : List String) (ia : SE U C L a) : SE U C L (.isi a ts) := by
  intro s X F o e h
  replace h := onO_ok h
  obtain ⟨⟨x, e1, xs⟩, hd, h⟩ := h
  obtain ⟨p, q, rfl⟩ := dCall_ok hd
  simp only [Bool.and_eq_true, decide_eq_true_eq, Bool.not_eq_true'] at h
  obtain ⟨⟨⟨⟨rfl, hg⟩, h1⟩, h2⟩, h3⟩ := h
  obtain ⟨g1, g2, g3⟩ := o.gl hg
  refine Snd.leaf o.K ?_ rfl
  match ts, xs, h3 with
  | [T], [y], h3 =>
    simp only [Bool.and_eq_true, decide_eq_true_eq] at h3
    obtain ⟨⟨hy, ht⟩, hg2⟩ := h3
    obtain ⟨p2, rfl⟩ := dName_ok hy
    obtain ⟨k1, k2, k3⟩ := o.gl hg2
    obtain ⟨b1, b2⟩ := tyOk_boot ht
    exact se_isi1 o.K g1 (o.blt "isinstance" (by decide)) k1 (o.blt T b2) b1 k3 k2 (ia o h1).1 (star_no h2)
  | [S, T], [y], h3 =>
    obtain ⟨l, hl, h4⟩ := onO_ok h3
    obtain ⟨k, p4, rfl⟩ := dTup_ok hl
    match l, h4 with
    | [y1, y2], h4 =>
      simp only [Bool.and_eq_true, decide_eq_true_eq] at h4
      obtain ⟨⟨⟨⟨⟨hy1, ht1⟩, hg1⟩, hy2⟩, ht2⟩, hg2⟩ := h4
      obtain ⟨p2, rfl⟩ := dName_ok hy1
      obtain ⟨p3, rfl⟩ := dName_ok hy2
      obtain ⟨k1, k2, k3⟩ := o.gl hg1
      obtain ⟨l1, l2, l3⟩ := o.gl hg2
      obtain ⟨b1, b2⟩ := tyOk_boot ht1
      obtain ⟨c1, c2⟩ := tyOk_boot ht2
      exact se_isi2 o.K g1 (o.blt "isinstance" (by decide)) k1 (o.blt S b2) b1 k3 k2 l1 (o.blt T c2) c1 l3 l2 (ia o h1).1 (star_no h2)
/-- what is never to be done, needs no rule -/
theorem so_call (f : Str) (es : Exs) (ie : SEs U C L es) : SE U C L (.call f es) := by
  intro s X F o e h
  replace h := onO_ok h
  obtain ⟨⟨x, e1, xs⟩, hd, h⟩ := h
  obtain ⟨p, q, rfl⟩ := dCall_ok hd
  simp only [Bool.and_eq_true, decide_eq_true_eq] at h
  obtain ⟨⟨⟨⟨rfl, hf⟩, hg⟩, h1⟩, h2⟩ := h
  obtain ⟨g1, g2, g3⟩ := o.gl hg
  obtain ⟨n1, n2⟩ := stars_cons h2
  refine Snd.leaf o.K ?_ rfl
  have h0 : ∃ ps, C.tab x = some ps := o.known x hf
  obtain ⟨ps, hps⟩ := h0
  obtain ⟨k, hk, cl⟩ := o.calls x ps hps
  obtain ⟨b0, c0, hG⟩ := o.G
  have := se_call (F := F) (pos := q) (p := p) hG cl o.room o.guards o.tk (ie o h1) hk g1 g2 (star_no n1) (star_all n2)
  have eq : evE C (.call x es) = (fun env => do let rs ← evEs C es env; let ds ← M.opt (escs rs); M.need (ds.length = ps.length); C.sem x ds) := by
    funext env
    show (do let rs ← evEs C es env; let ds ← M.opt (escs rs); callM C x ds) = _
    unfold callM
    rw [hps]
  rw [eq]
  exact this
theorem so_draw (f : Str) (a b : Ex) (ia : SE U C L a) (ib : SE U C L b) : SE U C L (.draw f a b) := by
  intro s X F o e h
  replace h := onO_ok h
  obtain ⟨⟨x, e1, xs⟩, hd, h⟩ := h
  obtain ⟨p, q, rfl⟩ := dCall_ok hd
  simp only [Bool.and_eq_true, decide_eq_true_eq] at h
  obtain ⟨⟨⟨rfl, rfl⟩, hg⟩, h1⟩ := h
  match xs, h1 with
  | [e2], h1 =>
    obtain ⟨k1, k2, k3⟩ := and3 h1
    obtain ⟨g1, g2, g3⟩ := o.gl hg
    obtain ⟨n1, n2⟩ := stars_cons k3
    obtain ⟨m1, m2⟩ := stars_cons n2
    obtain ⟨k, ps, hk, cl⟩ := o.take
    exact Snd.leaf o.K (se_draw cl o.room o.guards (ia o k1).1 (ib o k2).1 hk g1 g2 (star_no n1) (star_no m1)) rfl
theorem so_mth (mt : Mt) (ob : Ex) (es : Exs) (io : SE U C L ob) (ie : SEs U C L es) : SE U C L (.mth mt ob es) := by
  intro s X F o e h
  replace h := onO_ok h
  obtain ⟨⟨eo, n, apos, e1, xs, cpos⟩, hd, h⟩ := h
  have he := dMeth_ok hd
  subst he
  simp only [Bool.and_eq_true, decide_eq_true_eq] at h
  obtain ⟨⟨⟨⟨⟨⟨rfl, h1⟩, h2⟩, h3⟩, h4⟩, h5⟩, h6⟩ := h
  obtain ⟨n1, n2⟩ := stars_cons h4
  obtain ⟨id, k1, k2, k3, k4⟩ := o.mt mt
  exact Snd.leaf o.K (se_mth o.K k1 k2 k3 k4 (io o h1).1 (ie o h3) (base_ok h2) (few_ok h4 h6) h5 (star_no n1) (star_all n2)) rfl
theorem so_lc (elt : Ex) (tg : Tg) (it : Iq) (c : Ox) (vs : List (Str × Nat)) (ie : SE U C L elt) (ig : SG U C L tg) (ii : SI U C L it) (ic : SO U C L c) : SE U C L (.lc elt tg it c vs) := by
  intro s X F o e h
  replace h := onO_ok h
  obtain ⟨⟨e1, etg, eit, ifs, asy, scope⟩, hd, h⟩ := h
  obtain ⟨p, rfl⟩ := dLc_ok hd
  simp only [Bool.and_eq_true, decide_eq_true_eq, Bool.not_eq_true'] at h
  obtain ⟨⟨⟨⟨⟨⟨rfl, h1⟩, h2⟩, h3⟩, h4⟩, h5⟩, h6⟩ := h
  exact Snd.leaf o.K (se_lc o.calm o.nd (ii o h1).1 (by rw [o.N, o.sc]; exact blkOk_by h3) (fun s0 H Cc cl fp => ig (o.blk scope s0 H Cc cl fp) h4) (fun s0 H Cc cl fp => ic.2 (o.blk scope s0 H Cc cl fp) h5) (fun s0 H Cc cl fp => (ie (o.blk scope s0 H Cc cl fp) h6).1) (folded_no h2)) rfl
theorem so_fld (a : Ex) (f : Str) (ia : SE U C L a) : SE U C L (.fld a f) := by
  intro s X F o e h
  replace h := onO_ok h
  obtain ⟨⟨e1, f1⟩, hd, h⟩ := h
  obtain ⟨p, rfl⟩ := dAttr_ok hd
  simp only [Bool.and_eq_true, decide_eq_true_eq] at h
  obtain ⟨⟨rfl, h1⟩, h2⟩ := h
  exact Snd.leaf o.K (se_fld o.sls (ia o h1).1 (base_ok h2)) rfl
theorem so_self {s : Sg} {X : Cx} {F : Fx} {e : Expr} (o : Ok U C L s X F) (h : (onO (dName e) fun x => decide (s.N[0]? = some x) && visB s.sc x && okN x) = true) : ∃ x p, e = .Name x p ∧ X.N[0]? = some x ∧ Vis X.env.scope x ∧ (x == ("__debug__" : Str)) = false ∧ (x == ("__classdict__" : Str)) = false := by
  replace h := onO_ok h
  obtain ⟨x, hx, h⟩ := h
  obtain ⟨p, rfl⟩ := dName_ok hx
  simp only [Bool.and_eq_true, decide_eq_true_eq] at h
  obtain ⟨⟨h1, h2⟩, h3⟩ := h
  obtain ⟨k1, k2, _⟩ := okN_ok h3
  exact ⟨x, p, rfl, by rw [o.N]; exact h1, by rw [o.sc]; exact visB_ok h2, k1, k2⟩
theorem so_fldI (f : Str) : SE U C L (.fldI f) := by
  intro s X F o e h
  replace h := onO_ok h
  obtain ⟨⟨e1, f1⟩, hd, h⟩ := h
  obtain ⟨p, rfl⟩ := dAttr_ok hd
  rw [Bool.and_eq_true, decide_eq_true_eq] at h
  obtain ⟨rfl, h1⟩ := h
  obtain ⟨x, p1, rfl, k1, k2, k3, k4⟩ := so_self o h1
  exact Snd.leaf o.K (se_fldI o.sls k1 k2 k3 k4) rfl
theorem so_meth (ob : Ex) (m : Str) (es : Exs) (io : SE U C L ob) (ie : SEs U C L es) : SE U C L (.meth ob m es) := by
  intro s X F o e h
  replace h := onO_ok h
  obtain ⟨⟨eo, n, apos, xs, cpos⟩, hd, h⟩ := h
  have he := dMeth0_ok hd
  subst he
  simp only [Bool.and_eq_true, decide_eq_true_eq] at h
  obtain ⟨⟨⟨⟨⟨⟨rfl, h1⟩, h2⟩, h3⟩, h4⟩, h5⟩, h6⟩ := h
  obtain ⟨b0, c0, hG⟩ := o.G
  cases xs with
  | nil =>
    cases es with
    | cons _ _ => cases h3
    | star _ _ => cases h3
    | nil => exact Snd.leaf o.K (se_meth0 hG o.mths o.room o.guards o.tk (io o h1).1 (base_ok h2) h5) rfl
  | cons e1 xs =>
    obtain ⟨n1, n2⟩ := stars_cons h4
    exact Snd.leaf o.K (se_meth hG o.mths o.room o.guards o.tk (io o h1).1 (ie o h3) (base_ok h2) (few_ok h4 h6) h5 (star_no n1) (star_all n2)) rfl
theorem so_methI (m : Str) (es : Exs) (ie : SEs U C L es) : SE U C L (.methI m es) := by
  intro s X F o e h
  replace h := onO_ok h
  obtain ⟨⟨eo, n, apos, xs, cpos⟩, hd, h⟩ := h
  have he := dMeth0_ok hd
  subst he
  simp only [Bool.and_eq_true, decide_eq_true_eq] at h
  obtain ⟨⟨⟨⟨⟨rfl, h1⟩, h3⟩, h4⟩, h5⟩, h6⟩ := h
  obtain ⟨b0, c0, hG⟩ := o.G
  obtain ⟨x, p1, rfl, k1, k2, k3, k4⟩ := so_self o (by simpa only [Bool.and_eq_true, decide_eq_true_eq] using h1)
  cases xs with
  | nil =>
    cases es with
    | cons _ _ => cases h3
    | star _ _ => cases h3
    | nil => exact Snd.leaf o.K (se_methI0 hG o.mths o.room o.guards o.tk k1 k2 k3 k4 h5) rfl
  | cons e1 xs =>
    obtain ⟨n1, n2⟩ := stars_cons h4
    exact Snd.leaf o.K (se_methI hG o.mths o.room o.guards o.tk k1 k2 k3 k4 (ie o h3) (few_ok h4 h6) h5 (star_no n1) (star_all n2)) rfl
theorem so_new (f : Str) (es : Exs) (ie : SEs U C L es) : SE U C L (.new f es) := by
  intro s X F o e h
  replace h := onO_ok h
  obtain ⟨⟨x, e1, xs⟩, hd, h⟩ := h
  obtain ⟨p, q, rfl⟩ := dCall_ok hd
  simp only [Bool.and_eq_true, decide_eq_true_eq] at h
  obtain ⟨⟨⟨⟨rfl, hf⟩, hg⟩, h1⟩, h2⟩ := h
  obtain ⟨g1, g2, g3⟩ := o.gl hg
  obtain ⟨n1, n2⟩ := stars_cons h2
  obtain ⟨ps, hps⟩ := o.knownC x hf
  obtain ⟨Ca, k, hc, hk, nw⟩ := o.news x ps hps
  obtain ⟨b0, c0, hG⟩ := o.G
  refine Snd.leaf o.K ?_ rfl
  have := se_new (F := F) (pos := q) (p := p) hG hc nw (o.room.mono hk) o.guards o.tk (ie o h1) g1 g2 (star_no n1) (star_all n2)
  have eq : evE C (.new x es) = (fun env => do let rs ← evEs C es env; let ds ← M.opt (escs rs); M.need (ds.length + 1 = ps.length); let d ← C.csem x ds; pure (.sh d)) := by
    funext env
    show (do let rs ← evEs C es env; let ds ← M.opt (escs rs); newM C x ds) = _
    unfold newM
    rw [hps]
  rw [eq]
  exact this
theorem so_lenSet (a : Ex) (ia : SE U C L a) : SE U C L (.lenSet a) := by
  intro s X F o e h
  replace h := onO_ok h
  obtain ⟨⟨x, y, e1⟩, hd, h⟩ := h
  obtain ⟨p, p2, q, r, rfl⟩ := dLenSet_ok hd
  simp only [Bool.and_eq_true, decide_eq_true_eq, Bool.not_eq_true'] at h
  obtain ⟨⟨⟨⟨⟨rfl, rfl⟩, hg⟩, hg2⟩, h1⟩, h2⟩ := h
  exact Snd.leaf o.K (se_lenSet o.K o.calm (o.gl hg).1 (o.blt "len" (by decide)) (o.gl hg2).1 (o.blt "set" (by decide)) (ia o h1).1 (star_no h2)) rfl
theorem so_onone : SO U C L .none := by
  refine ⟨fun {s X F} o {e} h => ?_, fun {s X F} o {e} h => ?_⟩
  · have h : e.isNone = true := h
    rw [Option.isNone_iff_eq_none] at h
    subst h
    exact so_none
  · have h : e.isEmpty = true := h
    rw [List.isEmpty_iff] at h
    subst h
    exact pts_imp pts_nil fun σ H Q ⟨B, env, Q0, E0, sf, hm, hq, hx⟩ => hq _ hm H B (Ext.refl sf.wf)
theorem so_osome (x : Ex) (ix : SE U C L x) : SO U C L (.some x) := by
  refine ⟨fun {s X F} o {e} h => ?_, fun {s X F} o {e} h => ?_⟩
  · obtain ⟨e1, rfl, h⟩ := onO_ok h
    exact so_some (ix o h).1
  · obtain ⟨e1, he, h⟩ := onO_ok h
    simp only [Bool.and_eq_true, decide_eq_true_eq, Bool.not_eq_true'] at h
    obtain ⟨⟨hl, h1⟩, h2⟩ := h
    match e, hl, he with
    | [e2], _, he =>
      cases he
      exact pts_one ((ix o h1).2.1 h2)
theorem so_enil : SEs U C L .nil := by
  intro s X F o e h
  have h : e.isEmpty = true := h
  rw [List.isEmpty_iff] at h
  subst h
  exact sa_nil
theorem so_econs (x : Ex) (xs : Exs) (ix : SE U C L x) (ixs : SEs U C L xs) : SEs U C L (.cons x xs) := by
  intro s X F o e h
  replace h := onO_ok h
  obtain ⟨e1, he, h⟩ := h
  simp only [Bool.and_eq_true, Bool.not_eq_true'] at h
  match e, he, h with
  | e2 :: es, he, h =>
    cases he
    exact sa_cons (ix o h.1.2).1 (ixs o h.2) (star_no h.1.1)
theorem so_estar (x : Ex) (xs : Exs) (ix : SE U C L x) (ixs : SEs U C L xs) : SEs U C L (.star x xs) := by
  intro s X F o e h
  replace h := onO_ok h
  obtain ⟨e1, he, h⟩ := h
  replace h := onO_ok h
  obtain ⟨e2, he2, h⟩ := h
  obtain ⟨p, rfl⟩ := dStar_ok he2
  simp only [Bool.and_eq_true] at h
  match e, he, h with
  | e3 :: es, he, h =>
    cases he
    exact sa_star o.K (ix o h.1).1 (ixs o h.2) rfl
theorem so_gnm (i : Nat) : SG U C L (.nm i) := by
  intro vs s X F o e h
  replace h := onO_ok h
  obtain ⟨x, hx, h⟩ := h
  obtain ⟨p, rfl⟩ := dName_ok hx
  obtain ⟨h1, h2, h3⟩ := and3 h
  obtain ⟨l1, l2⟩ := o.loc h3
  exact sg_name (of_decide_eq_true h1) o.nd (by rw [o.N]; exact of_decide_eq_true h2) l1 l2
theorem so_gtp (ts : Tgs) (it : SGs U C L ts) : SG U C L (.tp ts) := by
  intro vs s X F o e h
  replace h := onO_ok h
  obtain ⟨es, hd, h⟩ := h
  obtain ⟨k, p, rfl⟩ := dTup_ok hd
  obtain ⟨g1, g2, g3⟩ := it (vs := vs) o h
  exact sg_tup o.K o.calm g1 g2 g3
theorem so_gsnil : SGs U C L .nil := by
  intro vs s X F o e h
  have h : e.isEmpty = true := h
  rw [List.isEmpty_iff] at h
  subst h
  exact ⟨sgs_nil, rfl, rfl⟩
theorem so_gscons (t : Tg) (ts : Tgs) (i1 : SG U C L t) (i2 : SGs U C L ts) : SGs U C L (.cons t ts) := by
  intro vs s X F o e h
  replace h := onO_ok h
  obtain ⟨e1, he, h⟩ := h
  simp only [Bool.and_eq_true, Bool.not_eq_true'] at h
  match e, he, h with
  | e2 :: es, he, h =>
    have he := Option.some.inj he
    subst he
    obtain ⟨⟨h1, h2⟩, h3⟩ := h
    obtain ⟨g1, g2, g3⟩ := i2 (vs := vs) o h3
    have ea : assignEach (e2 :: es) X.env = (false, assign e2 X.env) :: assignEach es X.env := by
      cases e2 <;> first | rfl | (cases h1)
    refine ⟨sgs_cons (i1 o h2) g1 (by rw [ea]; rfl), by rw [ea, List.length_cons]; exact congrArg (· + 1) g2, ?_⟩
    have g3' : List.findIdx? (fun x => x.fst) (assignEach es X.env) = none := g3
    rw [ea, List.findIdx?_cons, g3']
    rfl
theorem so_iany (x : Ex) (ix : SE U C L x) : SI U C L (.any x) := by
  intro s X F o e tg h
  exact ⟨si_anyX o.K (ix o h).1, si_any o.K (ix o h).1⟩
theorem so_irng1 (a : Ex) (ia : SE U C L a) : SI U C L (.rng1 a) := by
  intro s X F o e tg h
  replace h := onO_ok h
  obtain ⟨⟨x, e1, es⟩, hd, h⟩ := h
  obtain ⟨p, q, rfl⟩ := dCall_ok hd
  simp only [Bool.and_eq_true, decide_eq_true_eq, Bool.not_eq_true', List.isEmpty_iff] at h
  obtain ⟨⟨⟨⟨rfl, hg⟩, h1⟩, h2⟩, rfl⟩ := h
  obtain ⟨g1, g2, g3⟩ := o.gl hg
  have main : PI X tg (.Call (.Name "range" p) [e1] [] q) (rdI F (evI C (.rng1 a))) := si_range1 g1 (o.blt "range" (by decide)) (sa_cons (ia o h1).1 sa_nil (star_no h2)) (star_no h2)
  exact ⟨si_x main, main⟩
theorem so_irng2 (a b : Ex) (ia : SE U C L a) (ib : SE U C L b) : SI U C L (.rng2 a b) := by
  intro s X F o e tg h
  replace h := onO_ok h
  obtain ⟨⟨x, e1, es⟩, hd, h⟩ := h
  obtain ⟨p, q, rfl⟩ := dCall_ok hd
  simp only [Bool.and_eq_true, decide_eq_true_eq, Bool.not_eq_true'] at h
  obtain ⟨⟨⟨⟨rfl, hg⟩, h1⟩, h2⟩, h3⟩ := h
  match es, h3 with
  | [e2], h3 =>
    simp only [Bool.and_eq_true, Bool.not_eq_true'] at h3
    obtain ⟨g1, g2, g3⟩ := o.gl hg
    have main : PI X tg (.Call (.Name "range" p) [e1, e2] [] q) (rdI F (evI C (.rng2 a b))) := si_range2 g1 (o.blt "range" (by decide)) (sa_cons (ia o h1).1 (sa_cons (ib o h3.1).1 sa_nil (star_no h3.2)) (star_no h2)) (by rw [star_no h2, star_no h3.2]; rfl) (by rw [star_no h3.2]; rfl)
    exact ⟨si_x main, main⟩
theorem soE (x : Ex) : SE U C L x :=
  Ex.rec (motive_1 := SE U C L) (motive_2 := SO U C L) (motive_3 := SEs U C L) (motive_4 := SG U C L) (motive_5 := SGs U C L) (motive_6 := SI U C L)
    so_nev so_var so_int so_str so_bl so_non so_gc so_bin so_neg so_cmp so_cmp2 so_and so_or so_not so_ite so_ix so_sl so_tup so_lst so_dct0 so_bi so_isi so_call so_draw so_mth (fun elt tg it c vs h1 h2 h3 h4 => so_lc elt tg it c vs h1 h2 h3 h4) so_fld so_fldI so_meth so_methI so_new so_lenSet
    so_onone so_osome so_enil so_econs so_estar so_gnm so_gtp so_gsnil so_gscons so_iany so_irng1 so_irng2 x
theorem soEs (x : Exs) : SEs U C L x :=
  Exs.rec (motive_1 := SE U C L) (motive_2 := SO U C L) (motive_3 := SEs U C L) (motive_4 := SG U C L) (motive_5 := SGs U C L) (motive_6 := SI U C L)
    so_nev so_var so_int so_str so_bl so_non so_gc so_bin so_neg so_cmp so_cmp2 so_and so_or so_not so_ite so_ix so_sl so_tup so_lst so_dct0 so_bi so_isi so_call so_draw so_mth (fun elt tg it c vs h1 h2 h3 h4 => so_lc elt tg it c vs h1 h2 h3 h4) so_fld so_fldI so_meth so_methI so_new so_lenSet
    so_onone so_osome so_enil so_econs so_estar so_gnm so_gtp so_gsnil so_gscons so_iany so_irng1 so_irng2 x
theorem soOx (x : Ox) : SO U C L x :=
  Ox.rec (motive_1 := SE U C L) (motive_2 := SO U C L) (motive_3 := SEs U C L) (motive_4 := SG U C L) (motive_5 := SGs U C L) (motive_6 := SI U C L)
    so_nev so_var so_int so_str so_bl so_non so_gc so_bin so_neg so_cmp so_cmp2 so_and so_or so_not so_ite so_ix so_sl so_tup so_lst so_dct0 so_bi so_isi so_call so_draw so_mth (fun elt tg it c vs h1 h2 h3 h4 => so_lc elt tg it c vs h1 h2 h3 h4) so_fld so_fldI so_meth so_methI so_new so_lenSet
    so_onone so_osome so_enil so_econs so_estar so_gnm so_gtp so_gsnil so_gscons so_iany so_irng1 so_irng2 x
theorem soG (x : Tg) : SG U C L x :=
  Tg.rec (motive_1 := SE U C L) (motive_2 := SO U C L) (motive_3 := SEs U C L) (motive_4 := SG U C L) (motive_5 := SGs U C L) (motive_6 := SI U C L)
    so_nev so_var so_int so_str so_bl so_non so_gc so_bin so_neg so_cmp so_cmp2 so_and so_or so_not so_ite so_ix so_sl so_tup so_lst so_dct0 so_bi so_isi so_call so_draw so_mth (fun elt tg it c vs h1 h2 h3 h4 => so_lc elt tg it c vs h1 h2 h3 h4) so_fld so_fldI so_meth so_methI so_new so_lenSet
    so_onone so_osome so_enil so_econs so_estar so_gnm so_gtp so_gsnil so_gscons so_iany so_irng1 so_irng2 x
theorem soI (x : Iq) : SI U C L x :=
  Iq.rec (motive_1 := SE U C L) (motive_2 := SO U C L) (motive_3 := SEs U C L) (motive_4 := SG U C L) (motive_5 := SGs U C L) (motive_6 := SI U C L)
    so_nev so_var so_int so_str so_bl so_non so_gc so_bin so_neg so_cmp so_cmp2 so_and so_or so_not so_ite so_ix so_sl so_tup so_lst so_dct0 so_bi so_isi so_call so_draw so_mth (fun elt tg it c vs h1 h2 h3 h4 => so_lc elt tg it c vs h1 h2 h3 h4) so_fld so_fldI so_meth so_methI so_new so_lenSet
    so_onone so_osome so_enil so_econs so_estar so_gnm so_gtp so_gsnil so_gscons so_iany so_irng1 so_irng2 x
end
end IP

/-! IP19: the tree of statements, what it tells, how it is held against the text. -/
namespace IP
open PySem PySem.Spec PyProof.Rows L2 FA
inductive Mu where
  | append | insert | extend | pop | popAt | clear | reverse
  deriving DecidableEq
def Mu.nm : Mu → String
  | .append => "append" | .insert => "insert" | .extend => "extend" | .pop => "pop" | .popAt => "pop" | .clear => "clear" | .reverse => "reverse"
def Mu.sem : Mu → D → List D → Option (D × D)
  | .append => muAppend | .insert => muInsert | .extend => muExtend | .pop => muPop | .popAt => muPopAt | .clear => muClear | .reverse => muReverse
/-- with arguments -/
def Mu.arg : Mu → Bool
  | .append | .insert | .extend | .popAt => true
  | _ => false
mutual
inductive Sm where
  | nev
  | set (i : Nat) (e : Ex)
  | setLc (i : Nat) (elt : Ex) (tg : Tg) (it : Iq) (c : Ox) (vs : List (Str × Nat))
  | unp (tg : Tg) (e : Ex)
  | par (is : List Nat) (es : Exs)
  | aug (i : Nat) (op : Operator) (e : Ex)
  | mut (m : Mu) (i : Nat) (es : Exs)
  | setMut (j : Nat) (m : Mu) (i : Nat) (es : Exs)
  | put (i : Nat) (k e : Ex)
  | expr (e : Ex)
  | ret (e : Ex) | retV (i : Nat) | retN
  | if_ (c : Ex) (y n : Sms)
  | for_ (tg : Tg) (it : Iq) (b : Sms)
  | while_ (n : Nat) (c : Ex) (b : Sms)
  | pass | brk | cnt
  | fset (f : Str) (e : Ex)
  | raise_ (c : Str) (es : Exs) | raise0 (c : Str)
inductive Sms where
  | nil | cons (s : Sm) (ss : Sms) | frz (i : Nat) (ss : Sms)
end
/-- names stored, from the left -/
def parSet : List Nat → List R → Env → Option Env
  | [], [], env => some env
  | i :: is, r :: rs, env => match r.sl with
    | some sl => parSet is rs (env.set i (some sl))
    | none => none
  | _, _, _ => none
def frzE (i : Nat) (env : Env) : Env := match owSlot env[i]? with
  | some d => env.set i (some (.sh d))
  | none => env
def unpM (f : D → Env → Option Env) (m : Env → M R) (env : Env) : M Env := do
  let r ← m env
  let d ← M.opt r.esc
  M.opt (f d env)
def raiseM (C : Cn) (c : Str) (m : M (List R)) : M (List D) := do
  let fs ← M.opt (C.errs c)
  let rs ← m
  let ds ← M.opt (escs rs)
  M.need (fs ≠ [] ∧ ds.length = fs.length)
  pure ds
def raise0M (C : Cn) (c : Str) : M Unit := do
  let fs ← M.opt (C.errs c)
  M.need (fs = [])
mutual
noncomputable def evS (C : Cn) : Sm → Env → MS
  | .nev, _ => fun _ => False
  | .set i e, env => MS.of (do let r ← evE C e env; M.opt r.sl) env fun sl => MS.ret (.nx (env.set i (some sl)))
  | .setLc i elt tg it c vs, env => MS.of (do let r ← rLc (evIX C it) (vs.map (·.2)) (evG tg) (evC C c) (evE C elt) env; M.opt r.sl) env fun sl => MS.ret (.nx (env.set i (some sl)))
  | .unp tg e, env => MS.of (unpM (evG tg) (evE C e) env) env fun env' => MS.ret (.nx env')
  | .par is es, env => MS.of (do let rs ← evEs C es env; M.opt (parSet is rs env)) env fun env' => MS.ret (.nx env')
  | .aug i op e, env => MS.of (do let d ← M.opt (slD1 env[i]?); let r ← evE C e env; M.opt (augI op d r.d)) env fun d => MS.ret (.nx (env.set i (some (.sh d))))
  | .mut m i es, env => MS.of (mutM i m.sem (evEs C es) env) env fun q => MS.ret (.nx (env.set i (some (.ow q.1))))
  | .setMut j m i es, env => MS.of (mutM i m.sem (evEs C es) env) env fun q => MS.ret (.nx ((env.set i (some (.ow q.1))).set j (some (.sh q.2))))
  | .put i k e, env => MS.of (putM i (evE C k) (evE C e) env) env fun d => MS.ret (.nx (env.set i (some (.ow d))))
  | .expr e, env => MS.of (evE C e env) env fun _ => MS.ret (.nx env)
  | .ret e, env => MS.of (do let r ← evE C e env; M.opt r.noBw) env fun r => MS.ret (.rt r)
  | .retV i, env => MS.of (M.opt (retSlot env[i]?)) env fun r => MS.ret (.rt r)
  | .retN, _ => MS.ret (.rt (.sh .non))
  | .if_ c y n, env => MS.of (tst (evE C c) env) env fun b => if b = true then evSs C y env else evSs C n env
  | .for_ tg it b, env => MS.of (evI C it env) env fun ds => forGo (evG tg) (evSs C b) ds env
  | .while_ n c b, env => whileGo (tst (evE C c)) (evSs C b) n env
  | .pass, env => MS.ret (.nx env)
  | .brk, env => MS.ret (.bk env)
  | .cnt, env => MS.ret (.ct env)
  | .fset f e, env => MS.of (do let r ← evE C e env; let d ← M.opt r.esc; M.opt (putI C.slots f d env)) env fun env' => MS.ret (.nx env')
  | .raise_ c es, env => MS.of (raiseM C c (evEs C es env)) env fun ds => MS.ret (.ex ⟨c, ds⟩ env)
  | .raise0 c, env => MS.of (raise0M C c) env fun _ => MS.ret (.ex ⟨c, []⟩ env)
noncomputable def evSs (C : Cn) : Sms → Env → MS
  | .nil, env => MS.ret (.nx env)
  | .cons s ss, env => (evS C s env).seq (evSs C ss)
  | .frz i ss, env => evSs C ss (frzE i env)
end
/-! what a statement is -/
def sAsg : Stmt → Option (Expr × Expr × Pos)
  | .Assign [t] v p => some (t, v, p)
  | _ => none
def sAug : Stmt → Option (Expr × Operator × Expr)
  | .AugAssign t op v _ => some (t, op, v)
  | _ => none
def sExpr : Stmt → Option (Expr × Pos)
  | .Expr e p => some (e, p)
  | _ => none
def sRet : Stmt → Option (Option Expr)
  | .Return v _ => some v
  | _ => none
def sIf : Stmt → Option (Expr × List Stmt × List Stmt)
  | .If c a b _ => some (c, a, b)
  | _ => none
def sFor : Stmt → Option (Expr × Expr × List Stmt)
  | .For t i b [] _ => some (t, i, b)
  | _ => none
def sWhile : Stmt → Option (Expr × List Stmt)
  | .While c b [] _ => some (c, b)
  | _ => none
def sRaise : Stmt → Option (Str × List Expr)
  | .Raise (some (.Call (.Name c _) es [] _)) none _ => some (c, es)
  | _ => none
def sPlain : Stmt → Nat
  | .Pass _ => 1
  | .Break _ => 2
  | .Continue _ => 3
  | _ => 0
theorem sAsg_ok {s : Stmt} {t v : Expr} {p : Pos} (h : sAsg s = some (t, v, p)) : s = .Assign [t] v p := by
  unfold sAsg at h
  split at h
  · cases h; rfl
  · cases h
theorem sAug_ok {s : Stmt} {t v : Expr} {op : Operator} (h : sAug s = some (t, op, v)) : ∃ p, s = .AugAssign t op v p := by
  unfold sAug at h
  split at h
  · cases h; exact ⟨_, rfl⟩
  · cases h
theorem sExpr_ok {s : Stmt} {e : Expr} {p : Pos} (h : sExpr s = some (e, p)) : s = .Expr e p := by
  unfold sExpr at h
  split at h
  · cases h; rfl
  · cases h
theorem sRet_ok {s : Stmt} {e : Option Expr} (h : sRet s = some e) : ∃ p, s = .Return e p := by
  unfold sRet at h
  split at h
  · cases h; exact ⟨_, rfl⟩
  · cases h
theorem sIf_ok {s : Stmt} {c : Expr} {a b : List Stmt} (h : sIf s = some (c, a, b)) : ∃ p, s = .If c a b p := by
  unfold sIf at h
  split at h
  · cases h; exact ⟨_, rfl⟩
  · cases h
theorem sFor_ok {s : Stmt} {t i : Expr} {b : List Stmt} (h : sFor s = some (t, i, b)) : ∃ p, s = .For t i b [] p := by
  unfold sFor at h
  split at h
  · cases h; exact ⟨_, rfl⟩
  · cases h
theorem sWhile_ok {s : Stmt} {c : Expr} {b : List Stmt} (h : sWhile s = some (c, b)) : ∃ p, s = .While c b [] p := by
  unfold sWhile at h
  split at h
  · cases h; exact ⟨_, rfl⟩
  · cases h
theorem sRaise_ok {s : Stmt} {c : Str} {es : List Expr} (h : sRaise s = some (c, es)) : ∃ p q r, s = .Raise (some (.Call (.Name c p) es [] q)) none r := by
  unfold sRaise at h
  split at h
  · cases h; exact ⟨_, _, _, rfl⟩
  · cases h
theorem sPlain_ok {s : Stmt} : (sPlain s = 1 → ∃ p, s = .Pass p) ∧ (sPlain s = 2 → ∃ p, s = .Break p) ∧ (sPlain s = 3 → ∃ p, s = .Continue p) := by
  unfold sPlain
  split
  · exact ⟨fun _ => ⟨_, rfl⟩, (fun h => by cases h), (fun h => by cases h)⟩
  · exact ⟨(fun h => by cases h), fun _ => ⟨_, rfl⟩, (fun h => by cases h)⟩
  · exact ⟨(fun h => by cases h), (fun h => by cases h), fun _ => ⟨_, rfl⟩⟩
  · exact ⟨(fun h => by cases h), (fun h => by cases h), (fun h => by cases h)⟩
/-- x.m(..), x a name -/
def dMut : Expr → Option (Str × Str × Pos × List Expr × Pos)
  | .Call (.Attribute (.Name x _) n ap) es [] cp => some (x, n, ap, es, cp)
  | _ => none
theorem dMut_ok {e : Expr} {x n : Str} {ap cp : Pos} {es : List Expr} (h : dMut e = some (x, n, ap, es, cp)) : ∃ p, e = .Call (.Attribute (.Name x p) n ap) es [] cp := by
  unfold dMut at h
  split at h
  · cases h; exact ⟨_, rfl⟩
  · cases h
def isTupE : Expr → Bool
  | .Tuple _ _ _ => true
  | _ => false
/-- the name of a slot that is read -/
def rdB (s : Sg) (i : Nat) (x : Str) : Bool := decide (s.N[i]? = some x) && visB s.sc x && okN x
/-- the name of a slot that is stored -/
def wrB (s : Sg) (i : Nat) (x : Str) : Bool := decide (s.N[i]? = some x) && locB s x
def chMut (s : Sg) (m : Mu) (i : Nat) (c : List Expr → Bool) (q : Str × Str × Pos × List Expr × Pos) : Bool :=
  rdB s i q.1 && decide (q.2.1 = (m.nm : Str)) && (q.2.2.1.endLine == q.2.2.2.2.line) && c q.2.2.2.1 && noStars q.2.2.2.1 && decide (q.2.2.2.1.length < 30) && (if m.arg = true then !q.2.2.2.1.isEmpty else q.2.2.2.1.isEmpty)
def chPar (s : Sg) : List Nat → List Expr → Bool
  | [], [] => true
  | i :: is, t :: ts => onO (dName t) (fun x => wrB s i x) && chPar s is ts
  | _, _ => false
mutual
def chS (s : Sg) : Sm → Stmt → Bool
  | .nev, _ => true
  | .set i e, st => onO (sAsg st) fun q => onO (dName q.1) fun x => wrB s i x && chE s e q.2.1 && !isComp q.2.1
  | .setLc i elt tg it c vs, st => onO (sAsg st) fun q => onO (dName q.1) fun x => wrB s i x && chE s (.lc elt tg it c vs) q.2.1
  | .unp tg e, st => onO (sAsg st) fun q => isTupE q.1 && chG s (List.range s.N.length) tg q.1 && chE s e q.2.1 && !isTupE q.2.1 && !isComp q.2.1
  | .par is es, st => onO (sAsg st) fun q => onO (dTup q.1) fun ts => onO (dTup q.2.1) fun vs => chEs s es vs && noStars vs && chPar s is ts && decide (is.Nodup) && decide (ts.length = vs.length) && decide (ts.length = 2 ∨ ts.length = 3 ∨ ts.length = 4) && !(vs.all (constantsAlone 8))
  | .aug i op e, st => onO (sAug st) fun q => onO (dName q.1) fun x => wrB s i x && decide (op = q.2.1) && (decide (op = .Add) || decide (op = .Sub)) && chE s e q.2.2
  | .mut m i es, st => onO (sExpr st) fun q => onO (dMut q.1) fun r => chMut s m i (chEs s es) r
  | .setMut j m i es, st => onO (sAsg st) fun q => onO (dName q.1) fun y => wrB s j y && decide (j ≠ i) && onO (dMut q.2.1) fun r => chMut s m i (chEs s es) r
  | .put i k e, st => onO (sAsg st) fun q => onO (dSub q.1) fun r => onO (dName r.1) fun x => rdB s i x && chE s k r.2 && chE s e q.2.1 && !isSlice r.2 && !isComp q.2.1
  | .expr e, st => onO (sExpr st) fun q => chE s e q.1 && !isComp q.1
  | .ret e, st => onO (sRet st) fun o => onO o fun v => chE s e v
  | .retV i, st => onO (sRet st) fun o => onO o fun v => onO (dName v) fun x => rdB s i x
  | .retN, st => decide ((sRet st).isSome = true) && onO (sRet st) fun o => o.isNone
  | .if_ c y n, st => onO (sIf st) fun q => chE s c q.1 && !isIf q.1 && chSs s y q.2.1 && chSs s n q.2.2
  | .for_ tg it b, st => onO (sFor st) fun q => chG s (List.range s.N.length) tg q.1 && chI s it q.2.1 && !isSet q.2.1 && chSs s b q.2.2
  | .while_ _ c b, st => onO (sWhile st) fun q => chE s c q.1 && !isIf q.1 && chSs s b q.2
  | .pass, st => decide (sPlain st = 1)
  | .brk, st => decide (sPlain st = 2)
  | .cnt, st => decide (sPlain st = 3)
  | .fset f e, st => onO (sAsg st) fun q => onO (dAttr q.1) fun r => decide (r.2 = f) && (onO (dName r.1) fun x => rdB s 0 x) && chE s e q.2.1 && !isComp q.2.1
  | .raise_ c es, st => onO (sRaise st) fun q => decide (q.1 = c) && decide (c ∈ s.m.xs) && glB s q.1 && !q.2.isEmpty && chEs s es q.2 && noStars q.2
  | .raise0 c, st => onO (sRaise st) fun q => decide (q.1 = c) && decide (c ∈ s.m.xs) && glB s q.1 && q.2.isEmpty
def chSs (s : Sg) : Sms → List Stmt → Bool
  | .nil, l => l.isEmpty
  | .cons x xs, l => onO l.head? fun st => chS s x st && chSs s xs l.tail
  | .frz _ xs, l => chSs s xs l
end
structure OkS (U : Ux) (C : Cn) (L : Nat) (s : Sg) (X : Cx) (F : Fx) : Prop extends Ok U C L s X F where
  po : PassesOwn (model X.prog X.w) X.A X.env X.xe
  kd : X.env.scope.kind = .function
section
variable {U : Ux} {C : Cn} {L : Nat} {s : Sg} {X : Cx} {F : Fx} {e : Expr} {st : Stmt}
theorem OkS.rd (o : OkS U C L s X F) {i : Nat} {x : Str} (h : rdB s i x = true) : X.N[i]? = some x ∧ Vis X.env.scope x ∧ (x == ("__debug__" : Str)) = false ∧ (x == ("__classdict__" : Str)) = false := by
  obtain ⟨h1, h2, h3⟩ := and3 h
  obtain ⟨n1, n2, n3⟩ := okN_ok h3
  exact ⟨by rw [o.N]; exact of_decide_eq_true h1, by rw [o.sc]; exact visB_ok h2, n1, n2⟩
theorem OkS.wr (o : OkS U C L s X F) {i : Nat} {x : Str} (h : wrB s i x = true) : X.N[i]? = some x ∧ Loc X.env.scope x ∧ (X.fn x = true ∨ X.env.scope.names.lookup x = some .local) := by
  unfold wrB at h
  rw [Bool.and_eq_true, decide_eq_true_eq] at h
  obtain ⟨l1, l2⟩ := o.loc h.2
  exact ⟨by rw [o.N]; exact h.1, l1, l2⟩
abbrev SS (U : Ux) (C : Cn) (L : Nat) (x : Sm) : Prop := ∀ {s : Sg} {X : Cx} {F : Fx}, OkS U C L s X F → ∀ {st : Stmt}, chS s x st = true → PS X st (rdS F (evS C x))
abbrev SSs (U : Ux) (C : Cn) (L : Nat) (x : Sms) : Prop := ∀ {s : Sg} {X : Cx} {F : Fx}, OkS U C L s X F → ∀ {sts : List Stmt}, chSs s x sts = true → PSs X sts (rdS F (evSs C x))
theorem swap_lc {elt : Expr} {gs : List Comprehension} {scope : Scope} {p py : Pos} {y : Str} {n : Nat} {env : PySem.Env} : swapsWith (.ListComp elt gs scope p) (some (.Name y py)) n env =
    pure (env.blockKind == .function && env.kindOf y == some .local && py.line == p.line && !(scope.names.any fun (n, k) => n == y && (k == .local || k == .cell))) := rfl
theorem so_snev : SS U C L .nev := by
  intro s X F o st h
  exact ⟨fun pins s σ H D I ⟨B, env, Q0, sf, hm, _⟩ => hm.elim⟩
theorem so_set (i : Nat) (e : Ex) : SS U C L (.set i e) := by
  intro s X F o st h
  replace h := onO_ok h
  obtain ⟨⟨t, v, pos⟩, hd, h⟩ := h
  have hs := sAsg_ok hd
  subst hs
  replace h := onO_ok h
  obtain ⟨x, hx, h⟩ := h
  obtain ⟨p, hp⟩ := dName_ok hx
  have hp : t = .Name x p := hp
  subst hp
  obtain ⟨h1, h2, h3⟩ := and3 h
  obtain ⟨w1, w2, w3⟩ := o.wr h1
  exact ss_set o.nd w1 w2 (soE e o.toOk h2).1 (swaps_no (by simpa using h3)) w3
theorem so_setLc (i : Nat) (elt : Ex) (tg : Tg) (it : Iq) (c : Ox) (vs : List (Str × Nat)) : SS U C L (.setLc i elt tg it c vs) := by
  intro s X F o st h
  replace h := onO_ok h
  obtain ⟨⟨t, v, pos⟩, hd, h⟩ := h
  have hs := sAsg_ok hd
  subst hs
  replace h := onO_ok h
  obtain ⟨x, hx, h⟩ := h
  obtain ⟨p, hp⟩ := dName_ok hx
  have hp : t = .Name x p := hp
  subst hp
  rw [Bool.and_eq_true] at h
  obtain ⟨w1, w2, w3⟩ := o.wr h.1
  have h2 : chE s (.lc elt tg it c vs) v = true := h.2
  have h2' := h2
  replace h2 := onO_ok h2
  obtain ⟨⟨e1, etg, eit, ifs, asy, scope⟩, hd2, h2⟩ := h2
  obtain ⟨p2, hv⟩ := dLc_ok hd2
  subst hv
  simp only [Bool.and_eq_true, decide_eq_true_eq, Bool.not_eq_true'] at h2
  obtain ⟨⟨⟨⟨⟨⟨rfl, k1⟩, k2⟩, k3⟩, k4⟩, k5⟩, k6⟩ := h2
  have oo := o.toOk
  generalize hb : (X.env.blockKind == .function && X.env.kindOf x == some .local && p.line == p2.line && !(scope.names.any fun (n, k) => n == x && (k == .local || k == .cell))) = bb
  have hsw : swapsWith (.ListComp e1 [⟨etg, eit, ifs, 0⟩] scope p2) (some (.Name x p)) pos.line X.env = pure bb := by rw [swap_lc, hb]
  cases bb with
  | false => exact ss_set o.nd w1 w2 (soE (.lc elt tg it c vs) oo h2').1 hsw w3
  | true =>
    have hl : X.env.scope.names.lookup x = some .local := by
      simp only [Bool.and_eq_true, beq_iff_eq] at hb
      exact hb.1.1.2
    exact ss_setLc oo.calm oo.nd w1 hl hsw (soI it oo k1).1 (by rw [oo.N, oo.sc]; exact blkOk_by k3) (fun s0 H Cc cl fp => soG tg (oo.blk scope s0 H Cc cl fp) k4)
      (fun s0 H Cc cl fp => (soOx c).2 (oo.blk scope s0 H Cc cl fp) k5) (fun s0 H Cc cl fp => (soE elt (oo.blk scope s0 H Cc cl fp) k6).1) (folded_no k2)
theorem swapped_no {t v : Expr} {env : PySem.Env} (h : isTupE v = false) : swappedStores [t] v env = pure none := by
  cases v <;> first | (cases t <;> rfl) | (cases h)
theorem asg_one {t : Expr} {env : PySem.Env} (h : isStar t = false) : (assignEach [t] env).map (·.2) = [assign t env] := by
  cases t <;> first | rfl | (cases h)
theorem so_unp (tg : Tg) (e : Ex) : SS U C L (.unp tg e) := by
  intro s X F o st h
  replace h := onO_ok h
  obtain ⟨⟨t, v, pos⟩, hd, h⟩ := h
  have hs := sAsg_ok hd
  subst hs
  simp only [Bool.and_eq_true, Bool.not_eq_true'] at h
  obtain ⟨⟨⟨⟨h0, h1⟩, h2⟩, h3⟩, h4⟩ := h
  have ht : isStar t = false := by cases t <;> first | rfl | (cases h0)
  refine ps_imp (ps_asg (soE e o.toOk h2).1 (soG tg (vs := List.range s.N.length) o.toOk h1) (swaps_no h4) (swapped_no h3) (asg_one ht)) ?_
  rintro Dn σ H ⟨B, env, Q0, sf, h, hq⟩
  refine rdE_step sf h (fun r h1 v H1 B1 e1 r1 => ?_) (exOk sf hq)
  obtain ⟨d, ed, h2⟩ := opt_run h1
  obtain ⟨env', ee, h3⟩ := opt_run h2
  obtain ⟨B2, s2, e2, k2, _⟩ := r1.escape sf.wf e1 ed
  exact ⟨B2, env, d, env', sf.ext1 e2, k2, ee, fun σ' _ s' => hq _ h3 σ' H1 B2 s' e2.bb⟩
/-- several names stored at once -/
theorem par_sf {is : List Nat} : ∀ {rs : List R} {vs : List V} {σ : L2.St} {env env' : Env} {B B1 H H1 : Hp}, is.Nodup → Wf F.G B H → F.Sf B1 H1 σ env → (∀ j a, ownedAt env σ j a → H a ≠ none ∨ j ∉ is ∧ ¬ owAt vs rs a) → (∀ a, H a = none → F.H0 a = none) → RelRs F.G H B1 H1 vs rs → parSet is rs env = some env' →
    is.length = vs.length ∧ F.Sf B1 H1 ((is.zip vs).foldl (fun σ p => σ.set p.1 (some p.2)) σ) env' := by
  induction is with
  | nil =>
    intro rs vs σ env env' B B1 H H1 nd w s no hf k h
    cases k with
    | nil => cases h; exact ⟨rfl, s⟩
    | cons _ _ _ => cases h
  | cons i is ih =>
    intro rs vs σ env env' B B1 H H1 nd w s no hf k h
    cases k with
    | nil => cases h
    | @cons v r vs rs k1 k2 ap =>
      rw [List.nodup_cons] at nd
      have h : (match r.sl with | some sl => parSet is rs (env.set i (some sl)) | none => none) = some env' := h
      cases q : r.sl with
      | none => rw [q] at h; cases h
      | some sl =>
        rw [q] at h
        have key : F.Sf B1 H1 (σ.set i (some v)) (env.set i (some sl)) ∧ ∀ j a, ownedAt (env.set i (some sl)) (σ.set i (some v)) j a → H a ≠ none ∨ j ∉ is ∧ ¬ owAt vs rs a := by
          match r, q, k1, ap with
          | .sh d, q, k1, ap =>
            cases q
            refine ⟨s.setSh k1, fun j a hj => ?_⟩
            rcases no j a (own_ne hj) with z | ⟨z1, z2⟩
            · exact .inl z
            · exact .inr ⟨fun y => z1 (List.mem_cons_of_mem _ y), fun ⟨n, d', e1, e2⟩ => z2 ⟨n + 1, d', by simpa using e1, by simpa using e2⟩⟩
          | .ow d, q, ⟨a, o, e1, n1, n2, e2, c⟩, ap =>
            cases q
            subst e1
            have nw : ∀ j, ¬ ownedAt env σ j a := fun j hj => by
              rcases no j a hj with z | ⟨_, z2⟩
              · exact z n1
              · exact z2 ⟨0, d, rfl, rfl⟩
            refine ⟨s.setOw (hf a n1) n2 e2 c nw, fun j x hj => ?_⟩
            obtain ⟨d2, q1, q2⟩ := hj
            by_cases z : i = j
            · subst z
              have hx : x = a := by
                by_cases ql : i < σ.length
                · rw [List.getElem?_set_self ql] at q2
                  have := Option.some.inj (Option.some.inj q2)
                  injection this with this
                  exact this.symm
                · rw [List.getElem?_eq_none (by simpa using ql)] at q2
                  cases q2
              subst hx
              exact .inr ⟨nd.1, ap x d rfl rfl⟩
            · rw [List.getElem?_set_ne z] at q1 q2
              rcases no j x ⟨d2, q1, q2⟩ with z' | ⟨z1, z2⟩
              · exact .inl z'
              · exact .inr ⟨fun y => z1 (List.mem_cons_of_mem _ y), fun ⟨n, d', e1, e2⟩ => z2 ⟨n + 1, d', by simpa using e1, by simpa using e2⟩⟩
        obtain ⟨g1, g2⟩ := ih nd.2 w key.1 key.2 hf k2 h
        exact ⟨by simp [g1], g2⟩
def lnm (env : PySem.Env) (l : Nat) : Expr → Option Str := fun t => match t with
  | .Name id pos => if env.kindOf id == some .local && pos.line == l then some id else none
  | _ => none
def locNames (env : PySem.Env) (ts : List Expr) : List Str := ts.filterMap (lnm env ((ts.head?.map (·.pos.line)).getD 0))
theorem sw_cases {ts vs : List Expr} {k k2 : Nat} {p p2 : Pos} {env : PySem.Env} (hc : vs.all (constantsAlone 8) = false) :
    swappedStores [.Tuple ts k p] (.Tuple vs k2 p2) env = pure none ∨ (swappedStores [.Tuple ts k p] (.Tuple vs k2 p2) env = pure (some (locNames env ts)) ∧ (locNames env ts).length = ts.length ∧ (ts.length = 2 ∨ ts.length = 3)) := by
  generalize e : swappedStores [.Tuple ts k p] (.Tuple vs k2 p2) env = t
  unfold swappedStores at e
  simp only at e
  split at e
  · exact .inl e.symm
  · next h1 =>
    split at e
    · exact .inl e.symm
    · split at e
      · exact .inl e.symm
      · next h3 =>
        split at e
        · exact .inl e.symm
        · split at e
          · next h5 => rw [hc] at h5; cases h5
          · refine .inr ⟨e.symm, ?_, ?_⟩
            · simp only [Bool.or_eq_true, bne_iff_ne, ne_eq, not_or, Decidable.not_not] at h3
              exact h3.1
            · simp only [Bool.or_eq_true, Bool.not_eq_true', bne_iff_ne, ne_eq, not_or, Decidable.not_not, Bool.not_eq_false, beq_iff_eq] at h1
              exact h1.1.1
theorem len_two {α : Type} {l : List α} (h : l.length = 2) : ∃ a b, l = [a, b] := by
  match l, h with
  | [a, b], _ => exact ⟨a, b, rfl⟩
theorem len_three {α : Type} {l : List α} (h : l.length = 3) : ∃ a b c, l = [a, b, c] := by
  match l, h with
  | [a, b, c], _ => exact ⟨a, b, c, rfl⟩
/-- names, one after another -/
def gNms (is : List Nat) : TGs := fun vs σ H Q => is.length = vs.length ∧ Q ((is.zip vs).foldl (fun σ p => σ.set p.1 (some p.2)) σ) H
theorem pgs_nms (o : OkS U C L s X F) : ∀ {is : List Nat} {ts : List Expr}, chPar s is ts = true → PGs X ts (gNms is) ∧ (assignEach ts X.env).length = ts.length ∧ (assignEach ts X.env).findIdx? (·.1) = none
  | [], [], _ => ⟨pgs_imp pgs_nil fun vs σ H Q ⟨h1, h2⟩ => by
      have : vs = [] := List.length_eq_zero_iff.mp h1.symm
      subst this
      exact ⟨rfl, h2⟩, rfl, rfl⟩
  | i :: is, t :: ts, h => by
    have h : (onO (dName t) (fun x => wrB s i x) && chPar s is ts) = true := h
    rw [Bool.and_eq_true] at h
    obtain ⟨x, hx, hw⟩ := onO_ok h.1
    obtain ⟨p, rfl⟩ := dName_ok hx
    obtain ⟨w1, w2, w3⟩ := o.wr hw
    obtain ⟨g1, g2, g3⟩ := pgs_nms o h.2
    have ea : assignEach (.Name x p :: ts) X.env = (false, assign (.Name x p) X.env) :: assignEach ts X.env := rfl
    refine ⟨pgs_imp (pgs_cons (pg_name o.nd w1 w2 w3) g1 rfl) fun vs σ H Q ⟨h1, h2⟩ => ?_, by rw [ea, List.length_cons, List.length_cons, g2], ?_⟩
    · match vs, h1, h2 with
      | v :: vs, h1, h2 => exact ⟨v, vs, rfl, by simpa using h1, h2⟩
    · have g3' : List.findIdx? (fun x => x.fst) (assignEach ts X.env) = none := g3
      rw [ea, List.findIdx?_cons, g3']
      rfl
  | [], _ :: _, h => nomatch h
  | _ :: _, [], h => nomatch h
theorem par_q (o : OkS U C L s X F) {is : List Nat} {es : Exs} {Dn : Ends} {σ : L2.St} {H : Hp} (nd : is.Nodup) (h : rdS F (evS C (.par is es)) Dn σ H) :
    rdA F (evEs C es) σ H fun vs H1 => is.length = vs.length ∧ ((∀ p, H1 p = none → Dn.nx ((is.zip vs).foldl (fun σ p => σ.set p.1 (some p.2)) σ) (upd H1 p (.tup vs))) ∧ Dn.nx ((is.zip vs).foldl (fun σ p => σ.set p.1 (some p.2)) σ) H1) := by
  obtain ⟨B, env, Q0, sf, h, hq⟩ := h
  refine rdA_step sf h (fun rs h1 vs H1 B1 e1 r1 => ?_) (exOk sf hq)
  obtain ⟨env', ee, h2⟩ := opt_run h1
  have nn : ∀ j a, ownedAt env σ j a → H a ≠ none ∨ j ∉ is ∧ ¬ owAt vs rs a := fun j a hj => by
    obtain ⟨_, o', d', q, _⟩ := sf.ownB hj
    exact .inl (by rw [q]; simp)
  obtain ⟨g1, g2⟩ := par_sf nd sf.wf (sf.ext1 e1) nn (fun a ha => sf.ext.free ha) r1 ee
  exact ⟨g1, fun p hp => hq _ h2 _ _ B1 (g2.ext1 (Ext.lay (sf.wf.ext e1) _ hp)) e1.bb, hq _ h2 _ _ B1 g2 e1.bb⟩
theorem so_par (is : List Nat) (es : Exs) : SS U C L (.par is es) := by
  intro s X F o st h
  replace h := onO_ok h
  obtain ⟨⟨t, v, pos⟩, hd, h⟩ := h
  have hs := sAsg_ok hd
  subst hs
  replace h := onO_ok h
  obtain ⟨ts, ht, h⟩ := h
  obtain ⟨k, p, ht'⟩ := dTup_ok ht
  have ht' : t = .Tuple ts k p := ht'
  subst ht'
  replace h := onO_ok h
  obtain ⟨vs, hv, h⟩ := h
  obtain ⟨k2, p2, hv'⟩ := dTup_ok hv
  have hv' : v = .Tuple vs k2 p2 := hv'
  subst hv'
  simp only [Bool.and_eq_true, decide_eq_true_eq, Bool.not_eq_true'] at h
  obtain ⟨⟨⟨⟨⟨⟨h1, h2⟩, h3⟩, h4⟩, h5⟩, h6⟩, h7⟩ := h
  have ie := soEs es o.toOk h1
  obtain ⟨g1, g2, g3⟩ := pgs_nms o h3
  have hsw : swapsWithSole [.Tuple ts k p] (.Tuple vs k2 p2) pos.line X.env = pure false := by
    unfold swapsWithSole
    exact swaps_no rfl
  have hlen : ∀ {is : List Nat} {ts : List Expr}, chPar s is ts = true → is.length = ts.length := by
    intro is
    induction is with
    | nil => intro ts h; cases ts with
      | nil => rfl
      | cons _ _ => cases h
    | cons i is ih => intro ts h; cases ts with
      | nil => cases h
      | cons t ts =>
        have h : (onO (dName t) (fun x => wrB s i x) && chPar s is ts) = true := h
        rw [Bool.and_eq_true] at h
        simp [ih h.2]
  rcases sw_cases (ts := ts) (k := k) (p := p) (k2 := k2) (p2 := p2) (env := X.env) h7 with hw | ⟨hw, n1, n2⟩
  · refine ps_imp (ps_asg (pe_tup (x1 := k2) (pos := p2) ie) (pg_tup (k := k) (pos := p) o.calm g1 g2 g3) hsw hw rfl) ?_
    intro Dn σ H h
    have q := par_q o h4 h
    obtain ⟨B, env, Q0, E0, sf, hm, hq, hx⟩ := q
    refine ⟨B, env, Q0, E0, sf, hm, fun rs hr xs H' B' e' r' => ?_, hx⟩
    obtain ⟨l1, l2, _⟩ := hq rs hr xs H' B' e' r'
    have l3 : xs.length = ts.length := by rw [← l1]; exact hlen h3
    refine ⟨by rw [l3]; rcases h6 with z | z | z <;> rw [z] <;> decide, fun q hq => ?_⟩
    exact ⟨q, xs, rfl, SqT.of upd_same, by rw [l3], l1, l2 q hq⟩
  · -- stored from the right
    have names : ∀ {is : List Nat} {ts : List Expr} {l : Nat}, chPar s is ts = true → (ts.filterMap (lnm X.env l)).length = ts.length → ∀ (j i : Nat) (t : Expr), is[j]? = some i → ts[j]? = some t → ∃ x p, t = Expr.Name x p ∧ X.N[i]? = some x ∧ X.env.scope.names.lookup x = some NameKind.local ∧ lnm X.env l t = some x := by
      intro is ts l
      induction ts generalizing is with
      | nil => intro _ _ j i t _ h; simp at h
      | cons t0 ts ih =>
        intro hc hl j i t hi ht
        match is, hc with
        | i0 :: is, hc =>
          have hc : (onO (dName t0) (fun x => wrB s i0 x) && chPar s is ts) = true := hc
          rw [Bool.and_eq_true] at hc
          obtain ⟨x, hx, hw⟩ := onO_ok hc.1
          obtain ⟨p0, rfl⟩ := dName_ok hx
          obtain ⟨w1, w2, w3⟩ := o.wr hw
          rw [List.filterMap_cons] at hl
          have le := List.length_filterMap_le (lnm X.env l) ts
          cases q : lnm X.env l (.Name x p0) with
          | none =>
            rw [q] at hl
            simp only [List.length_cons] at hl
            omega
          | some x' =>
            have q' : (if (X.env.kindOf x == some .local && p0.line == l) = true then some x else none) = some x' := q
            rw [q] at hl
            simp only [List.length_cons, Nat.add_right_cancel_iff] at hl
            cases j with
            | zero =>
              simp at hi ht
              subst hi ht
              split at q'
              · next hb =>
                simp only [Bool.and_eq_true, beq_iff_eq] at hb
                have := Option.some.inj q'
                subst this
                exact ⟨x, p0, rfl, w1, hb.1, q⟩
              · cases q'
            | succ j => exact ih hc.2 hl j i t (by simpa using hi) (by simpa using ht)
    have hn := names h3 n1
    rcases n2 with e2 | e3
    · have hlis := hlen h3
      obtain ⟨i, j, rfl⟩ := len_two (hlis.trans e2)
      obtain ⟨v1, v2, rfl⟩ := len_two (h5.symm.trans e2)
      obtain ⟨t1, t2, rfl⟩ := len_two e2
      · skip
        obtain ⟨x, px, rfl, a1, a2, a3⟩ := hn 0 i t1 rfl rfl
        obtain ⟨y, py, rfl, b1, b2, b3⟩ := hn 1 j t2 rfl rfl
        have hij : i ≠ j := by simpa using h4
        have en : locNames X.env [.Name x px, .Name y py] = [x, y] := by
          unfold locNames
          rw [List.filterMap_cons, a3]
          show x :: List.filterMap _ [Expr.Name y py] = _
          rw [List.filterMap_cons, b3]
          rfl
        rw [en] at hw
        refine ps_imp (ps_par o.calm o.nd a1 b1 hij a2 b2 ie hw hsw) ?_
        intro Dn σ H h
        obtain ⟨B, env, Q0, E0, sf, hm, hq, hx⟩ := par_q o h4 h
        refine ⟨B, env, Q0, E0, sf, hm, fun rs hr xs H' B' e' r' => ?_, hx⟩
        obtain ⟨l1, _, l3⟩ := hq rs hr xs H' B' e' r'
        match xs, l1, l3 with
        | [u, w], _, l3 => exact ⟨u, w, rfl, l3⟩
    · have hlis := hlen h3
      obtain ⟨i, j, l, rfl⟩ := len_three (hlis.trans e3)
      obtain ⟨v1, v2, v3, rfl⟩ := len_three (h5.symm.trans e3)
      obtain ⟨t1, t2, t3, rfl⟩ := len_three e3
      · skip
        obtain ⟨x, px, rfl, a1, a2, a3⟩ := hn 0 i t1 rfl rfl
        obtain ⟨y, py, rfl, b1, b2, b3⟩ := hn 1 j t2 rfl rfl
        obtain ⟨z, pz, rfl, c1, c2, c3⟩ := hn 2 l t3 rfl rfl
        have hij : i ≠ j ∧ i ≠ l ∧ j ≠ l := by
          simp at h4
          exact ⟨h4.1.1, h4.1.2, h4.2⟩
        have en : locNames X.env [.Name x px, .Name y py, .Name z pz] = [x, y, z] := by
          unfold locNames
          rw [List.filterMap_cons, a3]
          show x :: List.filterMap _ [Expr.Name y py, Expr.Name z pz] = _
          rw [List.filterMap_cons, b3]
          show x :: y :: List.filterMap _ [Expr.Name z pz] = _
          rw [List.filterMap_cons, c3]
          rfl
        rw [en] at hw
        refine ps_imp (ps_par3 o.calm o.nd a1 b1 c1 hij.1 hij.2.1 hij.2.2 a2 b2 c2 ie hw hsw) ?_
        intro Dn σ H h
        obtain ⟨B, env, Q0, E0, sf, hm, hq, hx⟩ := par_q o h4 h
        refine ⟨B, env, Q0, E0, sf, hm, fun rs hr xs H' B' e' r' => ?_, hx⟩
        obtain ⟨l1, _, l3⟩ := hq rs hr xs H' B' e' r'
        match xs, l1, l3 with
        | [u, w, q], _, l3 => exact ⟨u, w, q, rfl, l3⟩
theorem so_aug (i : Nat) (op : Operator) (e : Ex) : SS U C L (.aug i op e) := by
  intro s X F o st h
  replace h := onO_ok h
  obtain ⟨⟨t, op', v⟩, hd, h⟩ := h
  obtain ⟨pos, hs⟩ := sAug_ok hd
  subst hs
  replace h := onO_ok h
  obtain ⟨x, hx, h⟩ := h
  obtain ⟨p, hp⟩ := dName_ok hx
  have hp : t = .Name x p := hp
  subst hp
  simp only [Bool.and_eq_true, Bool.or_eq_true, decide_eq_true_eq] at h
  obtain ⟨⟨⟨h1, rfl⟩, h2⟩, h3⟩ := h
  obtain ⟨w1, w2, w3⟩ := o.wr h1
  exact ss_aug o.nd w1 w2 (soE e o.toOk h3).1 w3 h2
theorem Mu.ok (m : Mu) : ∃ id r, MutOk X r m.sem ∧ Slot "list" (m.nm : Str) id ∧ typeOf (.builtin id) = pure (.type "method_descriptor") ∧ MtR X id r := by
  cases m with
  | append => exact ⟨_, _, mo_append, PySem.F.slot_list_append, PySem.F.type_list_append, mt_append⟩
  | insert => exact ⟨_, _, mo_insert, PySem.F.slot_list_insert, PySem.F.type_list_insert, mt_insert⟩
  | extend => exact ⟨_, _, mo_extend, PySem.F.slot_list_extend, PySem.F.type_list_extend, mt_extend⟩
  | pop => exact ⟨_, _, mo_pop, PySem.F.slot_list_pop, PySem.F.type_list_pop, mt_pop⟩
  | popAt => exact ⟨_, _, mo_popAt, PySem.F.slot_list_pop, PySem.F.type_list_pop, mt_popAt⟩
  | clear => exact ⟨_, _, mo_clear, PySem.F.slot_list_clear, PySem.F.type_list_clear, mt_clear⟩
  | reverse => exact ⟨_, _, mo_reverse, PySem.F.slot_list_reverse, PySem.F.type_list_reverse, mt_reverse⟩
theorem evEs_nil {es : Exs} {s : Sg} (h : chEs s es [] = true) : evEs C es = fun _ => pure [] := by
  match es, h with
  | .nil, _ => rfl
theorem so_mut (m : Mu) (i : Nat) (es : Exs) : SS U C L (.mut m i es) := by
  intro s X F o st h
  replace h := onO_ok h
  obtain ⟨⟨ee, pos⟩, hd, h⟩ := h
  have hs := sExpr_ok hd
  subst hs
  replace h := onO_ok h
  obtain ⟨⟨x, n, ap, xs, cp⟩, hd2, h⟩ := h
  obtain ⟨p, hp⟩ := dMut_ok hd2
  have hp : ee = .Call (.Attribute (.Name x p) n ap) xs [] cp := hp
  subst hp
  simp only [chMut, Bool.and_eq_true, decide_eq_true_eq] at h
  obtain ⟨⟨⟨⟨⟨⟨h1, rfl⟩, h3⟩, h4⟩, h5⟩, h6⟩, h7⟩ := h
  obtain ⟨r1, r2, r3, r4⟩ := o.rd h1
  obtain ⟨id, r, k1, k2, k3, k4⟩ := Mu.ok (X := X) m
  match xs, h4, h5, h6 with
  | [], h4, _, _ =>
    have e0 : evS C (.mut m i es) = fun env => MS.of (mutM i m.sem (fun _ => pure []) env) env fun q => MS.ret (.nx (env.set i (some (.ow q.1)))) := by
      funext env
      show MS.of (mutM i m.sem (evEs C es) env) env _ = _
      rw [evEs_nil h4]
    rw [e0]
    exact ss_mut0 k1 k2 k3 k4 r1 r2 r3 r4 h3
  | e1 :: xs, h4, h5, h6 =>
    obtain ⟨n1, n2⟩ := stars_cons h5
    exact ss_mut k1 k2 k3 k4 r1 r2 r3 r4 (soEs es o.toOk h4) (few_ok h5 h6) h3 (star_no n1) (star_all n2)
theorem so_setMut (j : Nat) (m : Mu) (i : Nat) (es : Exs) : SS U C L (.setMut j m i es) := by
  intro s X F o st h
  replace h := onO_ok h
  obtain ⟨⟨t, ee, pos⟩, hd, h⟩ := h
  have hs := sAsg_ok hd
  subst hs
  replace h := onO_ok h
  obtain ⟨y, hy, h⟩ := h
  obtain ⟨py, hp⟩ := dName_ok hy
  have hp : t = .Name y py := hp
  subst hp
  simp only [Bool.and_eq_true, decide_eq_true_eq] at h
  obtain ⟨⟨hw, hij⟩, h⟩ := h
  replace h := onO_ok h
  obtain ⟨⟨x, n, ap, xs, cp⟩, hd2, h⟩ := h
  obtain ⟨p, hp⟩ := dMut_ok hd2
  have hp : ee = .Call (.Attribute (.Name x p) n ap) xs [] cp := hp
  subst hp
  simp only [chMut, Bool.and_eq_true, decide_eq_true_eq] at h
  obtain ⟨⟨⟨⟨⟨⟨h1, rfl⟩, h3⟩, h4⟩, h5⟩, h6⟩, h7⟩ := h
  obtain ⟨r1, r2, r3, r4⟩ := o.rd h1
  obtain ⟨w1, w2, w3⟩ := o.wr hw
  obtain ⟨id, r, k1, k2, k3, k4⟩ := Mu.ok (X := X) m
  match xs, h4, h5, h6 with
  | [], h4, _, _ =>
    have e0 : evS C (.setMut j m i es) = fun env => MS.of (mutM i m.sem (fun _ => pure []) env) env fun q => MS.ret (.nx ((env.set i (some (.ow q.1))).set j (some (.sh q.2)))) := by
      funext env
      show MS.of (mutM i m.sem (evEs C es) env) env _ = _
      rw [evEs_nil h4]
    rw [e0]
    exact ss_setMut0 hij k1 k2 k3 k4 r1 r2 r3 r4 o.nd w1 w2 w3 h3
  | e1 :: xs, h4, h5, h6 =>
    obtain ⟨n1, n2⟩ := stars_cons h5
    exact ss_setMut hij k1 k2 k3 k4 r1 r2 r3 r4 o.nd w1 w2 w3 (soEs es o.toOk h4) (few_ok h5 h6) h3 (star_no n1) (star_all n2)
theorem so_put (i : Nat) (k e : Ex) : SS U C L (.put i k e) := by
  intro s X F o st h
  replace h := onO_ok h
  obtain ⟨⟨t, v, pos⟩, hd, h⟩ := h
  have hs := sAsg_ok hd
  subst hs
  replace h := onO_ok h
  obtain ⟨⟨t1, kx⟩, ht, h⟩ := h
  obtain ⟨tp, hp⟩ := dSub_ok ht
  have hp : t = .Subscript t1 kx tp := hp
  subst hp
  replace h := onO_ok h
  obtain ⟨x, hx, h⟩ := h
  obtain ⟨p, hp⟩ := dName_ok hx
  have hp : t1 = .Name x p := hp
  subst hp
  simp only [Bool.and_eq_true, Bool.not_eq_true'] at h
  obtain ⟨⟨⟨⟨h1, h2⟩, h3⟩, h4⟩, h5⟩ := h
  obtain ⟨r1, r2, r3, r4⟩ := o.rd h1
  have hsw : swapsWithSole [.Subscript (.Name x p) kx tp] v pos.line X.env = pure false := by
    unfold swapsWithSole
    exact swaps_no h5
  refine ss_put (by have := o.u; omega) r1 r2 r3 r4 (soE k o.toOk h2).1 (soE e o.toOk h3).1 (fun v => ?_) hsw ?_ rfl
  · cases kx <;> first | rfl | (cases h4)
  · cases v <;> rfl
theorem so_expr (e : Ex) : SS U C L (.expr e) := by
  intro s X F o st h
  replace h := onO_ok h
  obtain ⟨⟨v, pos⟩, hd, h⟩ := h
  have hs := sExpr_ok hd
  subst hs
  simp only [Bool.and_eq_true, Bool.not_eq_true'] at h
  exact ss_expr (soE e o.toOk h.1).1 (swaps_no h.2)
theorem so_ret (e : Ex) : SS U C L (.ret e) := by
  intro s X F o st h
  replace h := onO_ok h
  obtain ⟨ov, hd, h⟩ := h
  obtain ⟨pos, hs⟩ := sRet_ok hd
  subst hs
  replace h := onO_ok h
  obtain ⟨v, rfl, h⟩ := h
  exact ss_ret (soE e o.toOk h).1
theorem so_retV (i : Nat) : SS U C L (.retV i) := by
  intro s X F o st h
  replace h := onO_ok h
  obtain ⟨ov, hd, h⟩ := h
  obtain ⟨pos, hs⟩ := sRet_ok hd
  subst hs
  replace h := onO_ok h
  obtain ⟨v, rfl, h⟩ := h
  replace h := onO_ok h
  obtain ⟨x, hx, h⟩ := h
  obtain ⟨p, rfl⟩ := dName_ok hx
  obtain ⟨r1, r2, r3, r4⟩ := o.rd h
  exact ss_retV r1 r2 r3 r4
theorem so_retN : SS U C L .retN := by
  intro s X F o st h
  have h : (decide ((sRet st).isSome = true) && onO (sRet st) fun o => o.isNone) = true := h
  rw [Bool.and_eq_true] at h
  obtain ⟨ov, hd, hn⟩ := onO_ok h.2
  obtain ⟨pos, hs⟩ := sRet_ok hd
  subst hs
  rw [Option.isNone_iff_eq_none] at hn
  subst hn
  exact ss_retN
theorem so_if (c : Ex) (y n : Sms) (iy : SSs U C L y) (in_ : SSs U C L n) : SS U C L (.if_ c y n) := by
  intro s X F o st h
  replace h := onO_ok h
  obtain ⟨⟨ec, ys, ns⟩, hd, h⟩ := h
  obtain ⟨pos, hs⟩ := sIf_ok hd
  subst hs
  simp only [Bool.and_eq_true, Bool.not_eq_true'] at h
  obtain ⟨⟨⟨h1, h2⟩, h3⟩, h4⟩ := h
  exact ss_if ((soE c o.toOk h1).2.1 h2) (iy o h3) (in_ o h4)
theorem so_for (tg : Tg) (it : Iq) (b : Sms) (ib : SSs U C L b) : SS U C L (.for_ tg it b) := by
  intro s X F o st h
  replace h := onO_ok h
  obtain ⟨⟨et, ei, bs⟩, hd, h⟩ := h
  obtain ⟨pos, hs⟩ := sFor_ok hd
  subst hs
  simp only [Bool.and_eq_true, Bool.not_eq_true'] at h
  obtain ⟨⟨⟨h1, h2⟩, h3⟩, h4⟩ := h
  exact ss_for o.po o.calm (soI it o.toOk h2).2 (soG tg o.toOk h1) (ib o h4) (folded_no h3)
theorem so_while (n : Nat) (c : Ex) (b : Sms) (ib : SSs U C L b) : SS U C L (.while_ n c b) := by
  intro s X F o st h
  replace h := onO_ok h
  obtain ⟨⟨ec, bs⟩, hd, h⟩ := h
  obtain ⟨pos, hs⟩ := sWhile_ok hd
  subst hs
  simp only [Bool.and_eq_true, Bool.not_eq_true'] at h
  obtain ⟨⟨h1, h2⟩, h3⟩ := h
  exact ss_while n o.po ((soE c o.toOk h1).2.1 h2) (ib o h3)
theorem so_pass : SS U C L .pass := by
  intro s X F o st h
  obtain ⟨p, rfl⟩ := sPlain_ok.1 (of_decide_eq_true h)
  exact ss_pass
theorem so_brk : SS U C L .brk := by
  intro s X F o st h
  obtain ⟨p, rfl⟩ := sPlain_ok.2.1 (of_decide_eq_true h)
  exact ss_break
theorem so_cnt : SS U C L .cnt := by
  intro s X F o st h
  obtain ⟨p, rfl⟩ := sPlain_ok.2.2 (of_decide_eq_true h)
  exact ss_cont
theorem so_fset (f : Str) (e : Ex) : SS U C L (.fset f e) := by
  intro s X F o st h
  replace h := onO_ok h
  obtain ⟨⟨t, v, pos⟩, hd, h⟩ := h
  have hs := sAsg_ok hd
  subst hs
  replace h := onO_ok h
  obtain ⟨⟨e1, f1⟩, hx, h⟩ := h
  obtain ⟨p, hp⟩ := dAttr_ok hx
  have hp : t = .Attribute e1 f1 p := hp
  subst hp
  simp only [Bool.and_eq_true, decide_eq_true_eq, Bool.not_eq_true'] at h
  obtain ⟨⟨⟨rfl, h1⟩, h2⟩, h3⟩ := h
  replace h1 := onO_ok h1
  obtain ⟨x, hx1, h1⟩ := h1
  obtain ⟨p1, rfl⟩ := dName_ok hx1
  obtain ⟨w1, w2, w3, w4⟩ := o.rd h1
  exact ss_fset o.sls w1 w2 w3 w4 (soE e o.toOk h2).1 (swaps_no h3)
theorem so_raise (c : Str) (es : Exs) : SS U C L (.raise_ c es) := by
  intro s X F o st h
  replace h := onO_ok h
  obtain ⟨⟨x, xs⟩, hd, h⟩ := h
  obtain ⟨p, q, r, rfl⟩ := sRaise_ok hd
  simp only [Bool.and_eq_true, decide_eq_true_eq] at h
  obtain ⟨⟨⟨⟨⟨rfl, hf⟩, hg⟩, hn⟩, h1⟩, h2⟩ := h
  obtain ⟨g1, g2, g3⟩ := o.gl hg
  obtain ⟨fs, hfs⟩ := o.knownX x hf
  have T := o.errs x fs hfs
  cases xs with
  | nil => cases hn
  | cons e1 xs =>
    obtain ⟨n1, n2⟩ := stars_cons h2
    refine ps_imp (ss_raise (F := F) (p := p) (p2 := q) (pos := r) T o.room o.calm o.tk (soEs es o.toOk h1) g1 g2 (star_no n1) (star_all n2)) ?_
    rintro Dn σ H ⟨B, env, Q0, s', h, hq⟩
    refine ⟨B, env, Q0, s', ?_, hq⟩
    have h' : (raiseM C x (evEs C es env)) (fun ds => Q0 (.ex ⟨x, ds⟩ env)) (fun z => Q0 (.ex z env)) := h
    unfold raiseM at h'
    rw [hfs] at h'
    obtain ⟨_, e0, h'⟩ := opt_run h'
    cases e0
    exact h'
theorem so_raise0 (c : Str) : SS U C L (.raise0 c) := by
  intro s X F o st h
  replace h := onO_ok h
  obtain ⟨⟨x, xs⟩, hd, h⟩ := h
  obtain ⟨p, q, r, rfl⟩ := sRaise_ok hd
  simp only [Bool.and_eq_true, decide_eq_true_eq, List.isEmpty_iff] at h
  obtain ⟨⟨⟨rfl, hf⟩, hg⟩, rfl⟩ := h
  obtain ⟨g1, g2, g3⟩ := o.gl hg
  obtain ⟨fs, hfs⟩ := o.knownX x hf
  have T := o.errs x fs hfs
  by_cases hn : fs = []
  · subst hn
    refine ps_imp (ss_raise0 (F := F) (p := p) (p2 := q) (pos := r) T o.room o.calm o.tk g1 g2) ?_
    rintro Dn σ H ⟨B, env, Q0, s', h, hq⟩
    refine ⟨B, env, Q0, s', ?_, hq⟩
    have h' : (raise0M C x) (fun _ => Q0 (.ex ⟨x, []⟩ env)) (fun z => Q0 (.ex z env)) := h
    unfold raise0M at h'
    rw [hfs] at h'
    obtain ⟨_, e0, h'⟩ := opt_run h'
    cases e0
    exact h'.2
  · refine ⟨fun pins s1 σ H D I ⟨B, env, Q0, sf, hm, _⟩ => ?_⟩
    have h' : (raise0M C x) (fun _ => Q0 (.ex ⟨x, []⟩ env)) (fun z => Q0 (.ex z env)) := hm
    unfold raise0M at h'
    rw [hfs] at h'
    obtain ⟨_, e0, h'⟩ := opt_run h'
    cases e0
    exact absurd h'.1 hn
theorem so_snil : SSs U C L .nil := by
  intro s X F o sts h
  have h : sts.isEmpty = true := h
  rw [List.isEmpty_iff] at h
  subst h
  exact ss_nil
theorem so_scons (x : Sm) (xs : Sms) (ix : SS U C L x) (ixs : SSs U C L xs) : SSs U C L (.cons x xs) := by
  intro s X F o sts h
  replace h := onO_ok h
  obtain ⟨st, he, h⟩ := h
  rw [Bool.and_eq_true] at h
  match sts, he, h with
  | st2 :: rest, he, h =>
    have he := Option.some.inj he
    subst he
    exact ss_cons (ix o h.1) (ixs o h.2)
theorem so_sfrz (i : Nat) (xs : Sms) (ixs : SSs U C L xs) : SSs U C L (.frz i xs) := by
  intro s X F o sts h
  refine pss_imp (ixs o (sts := sts) h) ?_
  rintro Dn σ H ⟨B, env, Q0, sf, hm, hq⟩
  have hm : evSs C xs (frzE i env) Q0 := hm
  unfold frzE at hm
  cases q : owSlot env[i]? with
  | none =>
    rw [q] at hm
    exact ⟨B, env, Q0, sf, hm, hq⟩
  | some d =>
    rw [q] at hm
    obtain ⟨B', sb, sf'⟩ := sf.freeze (owSlot_some q)
    exact ⟨B', _, Q0, sf', hm, fun o ho => (hq o ho).back sb⟩
theorem soSs (x : Sms) : SSs U C L x :=
  Sms.rec (motive_1 := SS U C L) (motive_2 := SSs U C L) so_snev so_set so_setLc so_unp so_par so_aug so_mut so_setMut so_put so_expr so_ret so_retV so_retN so_if so_for so_while so_pass so_brk so_cnt so_fset so_raise so_raise0 so_snil so_scons so_sfrz x
end
end IP

/-! IP20: a module of defs; the law at its end. -/
namespace IP
open PySem PySem.Spec PyProof.Rows L2 FA
structure Df where
  ps : List Str
  N : List Str
  body : Sms
/-- a module: defs, methods (class, name), __init__ of classes, their slots, errors and their fields, constants -/
structure Md where
  xt : List (Str × List Str × (List D → M R))
  fs : List (Str × Df)
  ms : List ((Str × Str) × Df)
  cs : List (Str × Df)
  sl : List (Str × List Str)
  er : List (Str × List Str)
  gc : List (Str × D)
def Md.mx (M : Md) : Mx := ⟨M.xt.map (·.1) ++ M.fs.map (·.1), M.cs.map (·.1), M.er.map (·.1)⟩
def Md.tab (M : Md) (f : Str) : Option (List Str) := match M.xt.lookup f with
  | some q => some q.1
  | none => (M.fs.lookup f).map Df.ps
/-- what the module's names tell, down to k calls within each other (xt: defs that are told otherwise) -/
noncomputable def cnK (M : Md) : Nat → Cn
  | 0 => ⟨M.tab, fun f ds => match M.xt.lookup f with
      | some q => q.2 ds
      | none => IP.M.fail, fun x => M.gc.lookup x, fun c => M.sl.lookup c, fun c m => (M.ms.lookup (c, m)).map Df.ps, fun _ _ _ => IP.M.fail, fun c => (M.cs.lookup c).map Df.ps, fun _ _ => IP.M.fail, fun c => M.er.lookup c⟩
  | k + 1 => ⟨M.tab, fun f ds => match M.xt.lookup f with
      | some q => q.2 ds
      | none => match M.fs.lookup f with
        | none => IP.M.fail
        | some d => runB d.N (evSs (cnK M k) d.body) ds, fun x => M.gc.lookup x, fun c => M.sl.lookup c, fun c m => (M.ms.lookup (c, m)).map Df.ps, fun c m ds => match M.ms.lookup (c, m) with
      | none => IP.M.fail
      | some d => runB d.N (evSs (cnK M k) d.body) ds, fun c => (M.cs.lookup c).map Df.ps, fun c ds => match M.cs.lookup c with
      | none => IP.M.fail
      | some d => runI c d.N (evSs (cnK M k) d.body) ds, fun c => M.er.lookup c⟩
section
variable {P : Program} {w : World} {K : PySem.W.Frag} {mg : Str → Option Value} {base : Heap} {U : Ux} {M : Md}
theorem cnK_tab (k : Nat) (f : Str) : (cnK M k).tab f = M.tab f := by cases k <;> rfl
theorem cnK_xt {k : Nat} {f : Str} {q : List Str × (List D → IP.M R)} (h : M.xt.lookup f = some q) : (cnK M k).sem f = q.2 := by
  funext ds
  cases k with
  | zero =>
    show (match M.xt.lookup f with | some q => q.2 ds | none => IP.M.fail) = _
    rw [h]
  | succ k =>
    show (match M.xt.lookup f with | some q => q.2 ds | none => match M.fs.lookup f with | none => IP.M.fail | some d => runB d.N (evSs (cnK M k) d.body) ds) = _
    rw [h]
theorem cnK_mtab (k : Nat) (c m : Str) : (cnK M k).mtab c m = (M.ms.lookup (c, m)).map Df.ps := by cases k <;> rfl
theorem cnK_ctab (k : Nat) (c : Str) : (cnK M k).ctab c = (M.cs.lookup c).map Df.ps := by cases k <;> rfl
theorem cnK_gc (k : Nat) : (cnK M k).gc = fun x => M.gc.lookup x := by cases k <;> rfl
theorem cnK_slots (k : Nat) : (cnK M k).slots = fun c => M.sl.lookup c := by cases k <;> rfl
theorem cnK_errs (k : Nat) : (cnK M k).errs = fun c => M.er.lookup c := by cases k <;> rfl
theorem cnK_sem {k : Nat} {f : Str} {d : Df} (hn : M.xt.lookup f = none) (h : M.fs.lookup f = some d) : (cnK M (k + 1)).sem f = runB d.N (evSs (cnK M k) d.body) := by
  funext ds
  show (match M.xt.lookup f with | some q => q.2 ds | none => match M.fs.lookup f with | none => IP.M.fail | some d => runB d.N (evSs (cnK M k) d.body) ds) = _
  rw [hn, h]
theorem cnK_sem0 {f : Str} (hn : M.xt.lookup f = none) : (cnK M 0).sem f = fun _ => IP.M.fail := by
  funext ds
  show (match M.xt.lookup f with | some q => q.2 ds | none => IP.M.fail) = _
  rw [hn]
theorem cnK_msem {k : Nat} {c m : Str} {d : Df} (h : M.ms.lookup (c, m) = some d) : (cnK M (k + 1)).msem c m = runB d.N (evSs (cnK M k) d.body) := by
  funext ds
  show (match M.ms.lookup (c, m) with | none => IP.M.fail | some d => runB d.N (evSs (cnK M k) d.body) ds) = _
  rw [h]
theorem cnK_csem {k : Nat} {c : Str} {d : Df} (h : M.cs.lookup c = some d) : (cnK M (k + 1)).csem c = runI c d.N (evSs (cnK M k) d.body) := by
  funext ds
  show (match M.cs.lookup c with | none => IP.M.fail | some d => runI c d.N (evSs (cnK M k) d.body) ds) = _
  rw [h]
/-- the text of a def, held against its tree -/
def TxtOk (K : PySem.W.Frag) (mx : Mx) (qual : Str) (st : Stmt) (f : Addr) (fd : FuncData) (d : Df) : Prop := FunA K qual st f fd ∧ FnScope d.N d.ps (defScope st) ∧ chSs ⟨d.N, defScope st, fun _ => true, mx⟩ d.body (defBody st) = true ∧ Binds K fd d.ps []
structure DefOk (K : PySem.W.Frag) (mg : Str → Option Value) (mx : Mx) (x : Str) (d : Df) : Prop where
  ex : ∃ (qual : Str) (st : Stmt) (f : Addr) (fd : FuncData), TxtOk K mx qual st f fd d ∧ mg x = some (.ref f) ∧ PySem.W.keepIn K (.ref f) = true
structure MthOk (K : PySem.W.Frag) (cl : Str → Option Addr) (mx : Mx) (c m : Str) (d : Df) : Prop where
  ex : ∃ (qual : Str) (st : Stmt) (f : Addr) (fd : FuncData) (C : Addr), TxtOk K mx qual st f fd d ∧ cl c = some C ∧ SlX.SCls K C ∧ Meth K C m f
structure CtrOk (K : PySem.W.Frag) (mg : Str → Option Value) (cl : Str → Option Addr) (mx : Mx) (c : Str) (d : Df) : Prop where
  ex : ∃ (qual : Str) (st : Stmt) (f : Addr) (fd : FuncData) (C : Addr), TxtOk K mx qual st f fd d ∧ cl c = some C ∧ Mk K C f ∧ mg c = some (.ref C)
structure ModOk (P : Program) (w : World) (K : PySem.W.Frag) (mg : Str → Option Value) (base : Heap) (U : Ux) (M : Md) : Prop where
  hU : U.K = K
  xts : ∀ x q, M.xt.lookup x = some q → ClN P w K mg base 2 x q.1 (spF U q.1.length q.2)
  defs : ∀ x d, M.fs.lookup x = some d → DefOk K mg M.mx x d
  mths : ∀ c m d, M.ms.lookup (c, m) = some d → MthOk K U.cl M.mx c m d
  ctrs : ∀ c d, M.cs.lookup c = some d → CtrOk K mg U.cl M.mx c d
  sls : SlOk K U.cl fun c => M.sl.lookup c
  errs : ∀ c fs, M.er.lookup c = some fs → ∃ C fI, ErrTxt P K mg c fs C fI ∧ U.cl c = some C ∧ U.fl c = fs ∧ fs.length ≤ 2
  gcs : ∀ x d, M.gc.lookup x = some d → ∃ u v, mg x = some u ∧ RelV v u ∧ ∀ b c B, Dt (U.G b c) B v d
  blt : ∀ x ∈ bltNames, mg (x : Str) = none
  take : ∃ ps, Cl P w K mg base 1 "_law_take" ps spTake
theorem lookup_mem {α : Type} {T : List (Str × α)} {f : Str} (h : f ∈ T.map (·.1)) : ∃ d, T.lookup f = some d := by
  obtain ⟨⟨x, d⟩, hm, rfl⟩ := List.mem_map.mp h
  induction T with
  | nil => cases hm
  | cons p T ih =>
    obtain ⟨y, e⟩ := p
    rw [List.lookup_cons]
    cases q : (x == y) with
    | true => exact ⟨e, rfl⟩
    | false =>
      rcases List.mem_cons.mp hm with z | z
      · cases z
        simp at q
      · exact ih z (List.mem_map.mpr ⟨_, z, rfl⟩)
/-- each def, method, __init__ keeps what its tree tells, k calls deep -/
structure Good (P : Program) (w : World) (K : PySem.W.Frag) (mg : Str → Option Value) (base : Heap) (U : Ux) (M : Md) (k : Nat) : Prop where
  defs : ∀ x d, M.xt.lookup x = none → M.fs.lookup x = some d → ClN P w K mg base (2 * k + 1) x d.ps (spF U d.ps.length ((cnK M k).sem x))
  mths : ∀ c m d, M.ms.lookup (c, m) = some d → ∃ C g fd, U.cl c = some C ∧ SlX.SCls K C ∧ Meth K C m g ∧ FnG P w K mg base (L2N.CX P w) (2 * k + 1) g fd d.ps (spF U d.ps.length ((cnK M k).msem c m)) ∧ Binds K fd d.ps []
  ctrs : ∀ c d, M.cs.lookup c = some d → ∃ C f fd, U.cl c = some C ∧ Mk K C f ∧ mg c = some (.ref C) ∧ FnG P w K mg base (L2N.CX P w) (2 * k + 1) f fd d.ps (spI U c d.ps.length ((cnK M k).csem c)) ∧ Binds K fd d.ps []
theorem ModOk.ok (m : ModOk P w K mg base U M) {k : Nat} (g : Good P w K mg base U M k) {N : List Str} {sc : Scope} {X : Cx} {F : Fx} (h : Body P w K mg base N sc U (2 * k + 2) X F) (hk : sc.kind = .function) :
    OkS U (cnK M k) (2 * k + 2) ⟨N, sc, fun _ => true, M.mx⟩ X F := by
  obtain ⟨b, c, hG⟩ := h.G
  have e1 := h.prog
  have e2 := h.w
  have e3 := h.K
  have e4 := h.mg
  have e5 := h.base
  subst e1 e2 e3 e4 e5
  have hcl : F.G.cl = U.cl := by rw [hG]; rfl
  have hfl : F.G.fl = U.fl := by rw [hG]; rfl
  refine ⟨⟨h.N, h.sc, fun x _ => h.fn x, h.calm, h.nd, h.room, h.guards, h.tk, ⟨b, c, hG⟩, ?_, fun f hf => ?_, fun f hf => ?_, fun f hf => ?_, fun f ps hf => ?_, fun x d hx => ?_, m.blt, ?_, ?_, ⟨fun c n ps hf => ?_⟩, fun c ps hf => ?_, fun c fs hf => ?_⟩, h.po, by rw [h.sc]; exact hk⟩
  · rw [hG]
    exact m.hU
  · rw [cnK_tab]
    unfold Md.tab
    cases q : M.xt.lookup f with
    | some u => exact ⟨u.1, rfl⟩
    | none =>
      have hf : f ∈ M.xt.map (·.1) ++ M.fs.map (·.1) := hf
      rcases List.mem_append.mp hf with z | z
      · obtain ⟨d, hd⟩ := lookup_mem z
        rw [q] at hd
        cases hd
      · obtain ⟨d, hd⟩ := lookup_mem z
        exact ⟨d.ps, by rw [hd]; rfl⟩
  · obtain ⟨d, hd⟩ := lookup_mem hf
    exact ⟨d.ps, by rw [cnK_ctab, hd]; rfl⟩
  · obtain ⟨d, hd⟩ := lookup_mem hf
    exact ⟨d, by rw [cnK_errs]; exact hd⟩
  · rw [cnK_tab] at hf
    unfold Md.tab at hf
    cases q : M.xt.lookup f with
    | some u =>
      rw [q] at hf
      cases hf
      refine ⟨2, by omega, ?_⟩
      rw [cnK_xt q]
      exact m.xts f u q
    | none =>
      rw [q] at hf
      obtain ⟨d, hd, rfl⟩ := Option.map_eq_some_iff.mp hf
      exact ⟨2 * k + 1, by omega, g.defs f d q hd⟩
  · rw [cnK_gc] at hx
    obtain ⟨u, v, h1, h2, h3⟩ := m.gcs x d hx
    exact ⟨u, v, h1, h2, fun B => by rw [hG]; exact h3 b c B⟩
  · obtain ⟨ps, ht⟩ := m.take
    exact ⟨1, ps, by omega, ht⟩
  · rw [cnK_slots, hcl]
    exact m.sls
  · rw [cnK_mtab] at hf
    obtain ⟨d, hd, rfl⟩ := Option.map_eq_some_iff.mp hf
    obtain ⟨C, g1, fd, h1, h2, h3, h4, h5⟩ := g.mths c n d hd
    exact ⟨C, 2 * k + 1, by rw [hcl]; exact h1, by omega, h2, ⟨g1, fd, h3, h4, h5⟩⟩
  · rw [cnK_ctab] at hf
    obtain ⟨d, hd, rfl⟩ := Option.map_eq_some_iff.mp hf
    obtain ⟨C, f, fd, h1, h2, h3, h4, h5⟩ := g.ctrs c d hd
    exact ⟨C, 2 * k + 1, h1, by omega, ⟨f, fd, h2, h3, h4, h5⟩⟩
  · rw [cnK_errs] at hf
    obtain ⟨C, fI, h1, h2, h3, h4⟩ := m.errs c fs hf
    exact ⟨C, fI, h1, by rw [hcl]; exact h2, by rw [hfl]; exact h3, h4⟩
theorem FunA.ok {qual : Str} {st : Stmt} {f : Addr} {fd : FuncData} {N ps : List Str} {k : Nat} {m : Env → MS} (hU : U.K = K) (Fn : FunA K qual st f fd) (S : FnScope N ps (defScope st))
    (hb : ∀ X F, Body P w K mg base N (defScope st) U k X F → PSs X (defBody st) (rdS F m)) : FnG P w K mg base (L2N.CX P w) (k + 1) f fd ps (spF U ps.length (runB N m)) := by
  refine okA Fn S spF.len fun cdv A outer s H vs Q E hr hG h => ?_
  obtain ⟨b, c, B, ds, Q0, E0, wf, kd, hl, hm, hq, hx⟩ := h
  refine wss_of (hb _ ⟨U.G b c, B, H, fun cls d _ H' => E cls d H'⟩ ⟨rfl, rfl, rfl, rfl, rfl, rfl, rfl, fun _ => rfl, rfl, S.nd, hr, hG, L2N.takes_of rfl rfl rfl rfl, passes_of rfl, rfl, rfl, ⟨b, c, rfl⟩⟩) ?_
  refine ⟨B, startE N ds, _, sf_start wf kd, hm, fun o ho => ?_⟩
  match o, ho with
  | .nx env, ho => exact fun σ H' B' s' _ => hq _ ho .non H' B' s'.ext Dt.non
  | .rt r, ho => exact fun v H' B' e' r' => hq _ ho v H' B' e' r'
  | .ex xn env, ho => exact fun σ H' B' cls d s' _ k' => hx _ ho cls d H' B' s'.ext k'
  | .bk env, ho => exact ho.elim
  | .ct env, ho => exact ho.elim
theorem fng_fail {k : Nat} {f : Addr} {fd : FuncData} {ps : List Str} {sp : Sp} (len : ∀ vs H Q E, sp vs H Q E → vs.length = ps.length) (no : ∀ vs H Q E, ¬ sp vs H Q E) : FnG P w K mg base (L2N.CX P w) k f fd ps sp :=
  ⟨len, fun A o s H args us vs Q E _ _ _ _ _ h => absurd h (no _ _ _ _)⟩
theorem ModOk.all (m : ModOk P w K mg base U M) : ∀ k : Nat, Good P w K mg base U M k
  | 0 => by
    refine ⟨fun x d hn hx => ?_, fun c n d hx => ?_, fun c d hx => ?_⟩
    · obtain ⟨qual, st, f, fd, ⟨Fn, S, ch, bi⟩, hm, kp⟩ := (m.defs x d hx).ex
      refine ⟨f, fd, fng_fail spF.len fun vs H Q E h => ?_, hm, kp, bi⟩
      rw [cnK_sem0 hn] at h
      obtain ⟨_, _, _, _, _, _, _, _, _, h, _⟩ := h
      exact h
    · obtain ⟨qual, st, f, fd, C, ⟨Fn, S, ch, bi⟩, h1, h2, h3⟩ := (m.mths c n d hx).ex
      refine ⟨C, f, fd, h1, h2, h3, fng_fail spF.len fun vs H Q E h => ?_, bi⟩
      obtain ⟨_, _, _, _, _, _, _, _, _, h, _⟩ := h
      exact h
    · obtain ⟨qual, st, f, fd, C, ⟨Fn, S, ch, bi⟩, h1, h2, h3⟩ := (m.ctrs c d hx).ex
      refine ⟨C, f, fd, h1, h2, h3, fng_fail spI.len fun vs H Q E h => ?_, bi⟩
      obtain ⟨_, _, _, _, _, _, _, _, _, _, _, _, _, _, _, _, _, _, _, _, h, _⟩ := h
      exact h
  | k + 1 => by
    have g := m.all k
    refine ⟨fun x d hn hx => ?_, fun c n d hx => ?_, fun c d hx => ?_⟩
    · obtain ⟨qual, st, f, fd, ⟨Fn, S, ch, bi⟩, hm, kp⟩ := (m.defs x d hx).ex
      refine ⟨f, fd, ?_, hm, kp, bi⟩
      rw [cnK_sem hn hx]
      exact Fn.ok m.hU S fun X F h => soSs d.body (m.ok g h S.kind) ch
    · obtain ⟨qual, st, f, fd, C, ⟨Fn, S, ch, bi⟩, h1, h2, h3⟩ := (m.mths c n d hx).ex
      refine ⟨C, f, fd, h1, h2, h3, ?_, bi⟩
      rw [cnK_msem hx]
      exact Fn.ok m.hU S fun X F h => soSs d.body (m.ok g h S.kind) ch
    · obtain ⟨qual, st, f, fd, C, ⟨Fn, S, ch, bi⟩, h1, h2, h3⟩ := (m.ctrs c d hx).ex
      refine ⟨C, f, fd, h1, h2, h3, ?_, bi⟩
      rw [cnK_csem hx]
      exact ok_init m.hU Fn S fun X F h => soSs d.body (m.ok g h S.kind) ch
/-- the law: the bag is made, then the rest of its body is told by the tree -/
def spLaw (K : PySem.W.Frag) : Sp := fun vs H Q _ => ∃ (a : Addr) (ns : List Int), vs = [.ref a] ∧ SqL K H a (ns.map V.int) ∧ ns.length ≤ 63 ∧ ∀ H', Q (.bl true) H'
def spBagG (K : PySem.W.Frag) : Sp := fun vs H Q _ => ∃ (a : Addr) (ns : List Int), vs = [.ref a] ∧ SqL K H a (ns.map V.int) ∧ ns.length ≤ 63 ∧ ∀ (b c : Addr) (H' : Hp), H b = none → BagAt H' b c → Same H H' → Q (.ref b) H'
def lawEnv (n i : Nat) : Env := (List.replicate n none).set i (some (.sh .bag))
theorem sf_law {G : Gx} {H : Hp} {σ : L2.St} {n i : Nat} (bag : BagAt H G.b G.c) (hl : σ.length = n) (hi : σ[i]? = some (some (.ref G.b))) : Sf G (fun _ => none) H (fun _ => none) H σ (lawEnv n i) := by
  have w : Wf G (fun _ => none) H := ⟨(fun a o h => by cases h), (fun _ _ _ h => by cases h), rfl, rfl, bag⟩
  have no : ∀ j sl, (lawEnv n i)[j]? = some (some sl) → j = i ∧ sl = .sh .bag := by
    intro j sl h
    unfold lawEnv at h
    by_cases z : i = j
    · subst z
      have hlt : i < (List.replicate n (none : Option Sl)).length := by
        rw [List.length_replicate, ← hl]
        exact (List.getElem?_eq_some_iff.mp hi).1
      rw [List.getElem?_set_self hlt] at h
      cases h
      exact ⟨rfl, rfl⟩
    · rw [List.getElem?_set_ne z, List.getElem?_replicate] at h
      split at h <;> cases h
  refine ⟨w, Ext.refl w, by simp [lawEnv, hl], fun j sl h => ?_, (fun j a ⟨d, h, _⟩ => by cases (no j _ h).2), (fun j l a ⟨d, h, _⟩ => by cases (no j _ h).2), (fun j a c fs h => by cases (no j _ h).2)⟩
  obtain ⟨rfl, rfl⟩ := no j sl h
  exact ⟨_, hi, Dt.bag⟩
theorem law_ok (m : ModOk P w K mg base U M) {k : Nat} {st : Stmt} {f : Addr} {fd : FuncData} {N : List Str} {i : Nat} {rest : Sms} {p1 p2 p3 p4 p5 : Pos} {sts : List Stmt} (Fn : Fun K "law" "law" st f fd) (S : FnScope N ["_law_script"] (defScope st)) (hi : N[i]? = some ("_law_bag_here" : Str)) (hi0 : 1 ≤ i)
    (hl : locB ⟨N, defScope st, fun _ => true, M.mx⟩ "_law_bag_here" = true) (hv : visB (defScope st) "_law_script" = true) (hg : glB ⟨N, defScope st, fun _ => true, M.mx⟩ "_law_bag" = true) (hN0 : N[0]? = some ("_law_script" : Str))
    (hb : defBody st = .Assign [.Name "_law_bag_here" p1] (.Call (.Name "_law_bag" p2) [.Name "_law_script" p3] [] p4) p5 :: sts) (ch : chSs ⟨N, defScope st, fun _ => true, M.mx⟩ rest sts = true)
    (Cb : Cl P w K mg base 1 "_law_bag" ["_law_script"] (spBagG K)) (hrun : evSs (cnK M k) rest (lawEnv N.length i) fun o => o = .rt (.sh (.bl true))) : FnG P w K mg base CX0 (2 * k + 3) f fd ["_law_script"] (spLaw K) := by
  refine okG Fn S (fun vs H Q E h => ?_) fun cdv A outer s H vs Q E hr hG h => ?_
  · obtain ⟨a, ns, rfl, _⟩ := h
    rfl
  obtain ⟨a, ns, rfl, hS, hn, q⟩ := h
  rw [hb]
  have hNl : i < N.length := (List.getElem?_eq_some_iff.mp hi).1
  have lc : Loc (defScope st) "_law_bag_here" := by
    unfold locB at hl
    rw [Bool.or_eq_true, Bool.and_eq_true, decide_eq_true_eq, decide_eq_true_eq] at hl
    exact hl.elim .inl fun z => .inr z.1
  have gl : (defScope st).names.lookup ("_law_bag" : Str) = some NameKind.globalImplicit := by
    unfold glB at hg
    rw [Bool.and_eq_true, decide_eq_true_eq] at hg
    exact hg.1
  refine wss (ps_set (i := i) S.nd hi lc (pe_cl Cb (hr.mono (by omega)) hG (pa_cons (pe_var (i := 0) hN0 (visB_ok hv)) pa_nil rfl) gl) rfl (.inl rfl)) ?_
  refine ⟨_, rfl, a, ns, rfl, hS, hn, fun b c H1 hb0 bag sm => ?_⟩
  have body : Body P w K mg base N (defScope st) U (2 * k + 2) (cxOf CX0 P w K mg base N "law" (defScope st) f cdv A outer s H E).nox ⟨U.G b c, fun _ => none, H1, fun _ _ _ _ => False⟩ :=
    ⟨rfl, rfl, rfl, rfl, rfl, rfl, rfl, fun _ => rfl, rfl, S.nd, hr, hG, takesF, PassesOwn.never, rfl, rfl, ⟨b, c, rfl⟩⟩
  refine wss_of (soSs rest (m.ok (m.all k) body S.kind) ch) ?_
  refine ⟨fun _ => none, lawEnv N.length i, _, ?_, hrun, fun o ho => ?_⟩
  · refine sf_law (G := U.G b c) bag (by simp [L2.start]; omega) ?_
    show ((L2.start N [.ref a]).set i (some (.ref b)))[i]? = _
    exact List.getElem?_set_self (by simp [L2.start]; omega)
  · subst ho
    intro v H' B' e r
    cases r
    exact q H'
end
end IP

/-! IS1: trees reckoned: plain rules for what a tree tells. -/
namespace IP
open PySem PySem.Spec PyProof.Rows L2 FA
section
variable {α β : Type} {C : Cn} {env : Env} {Q : R → Prop} {E : Xn → Prop} {QS : Out → Prop}
theorem ms_of (m : M α) (env : Env) (f : α → MS) (Q : Out → Prop) : MS.of m env f Q = m (fun a => f a Q) fun x => Q (.ex x env) := rfl
theorem ms_ret (o : Out) (Q : Out → Prop) : MS.ret o Q = Q o := rfl
theorem m_bind (m : M α) (f : α → M β) (Q : β → Prop) (E : Xn → Prop) : (m >>= f) Q E = m (fun a => f a Q E) E := rfl
theorem m_pure (a : α) (Q : α → Prop) (E : Xn → Prop) : (pure a : M α) Q E = Q a := rfl
theorem m_some (a : α) (Q : α → Prop) (E : Xn → Prop) : (M.opt (some a) : M α) Q E = Q a := opt_some a Q E
theorem m_none (Q : α → Prop) (E : Xn → Prop) : (M.opt (none : Option α)) Q E = False := opt_none Q E
theorem m_need (c : Prop) (Q : Unit → Prop) (E : Xn → Prop) : M.need c Q E = (c ∧ Q ()) := rfl
theorem m_ite (c : Prop) [Decidable c] (a b : M α) (Q : α → Prop) (E : Xn → Prop) : (if c then a else b) Q E = if c then a Q E else b Q E := by split <;> rfl
theorem ms_ite (c : Prop) [Decidable c] (a b : MS) (Q : Out → Prop) : (if c then a else b) Q = if c then a Q else b Q := by split <;> rfl
/-- for by a word about what is still to come -/
theorem forGo_inv {f : D → Env → Option Env} {body : Env → MS} {Q : Out → Prop} (I : List D → Env → Prop)
    (step : ∀ (d : D) (ds : List D) (env : Env) (K : Env → Prop), I (d :: ds) env → (∀ e, I ds e → K e) → ∃ env', f d env = some env' ∧ body env' fun o => match o with
      | .nx e => K e
      | .ct e => K e
      | .bk e => Q (.nx e)
      | .rt r => Q (.rt r)
      | .ex x e => Q (.ex x e)) (fin : ∀ e, I [] e → Q (.nx e)) : ∀ (ds : List D) (env : Env), I ds env → forGo f body ds env Q
  | [], env, h => fin env h
  | d :: ds, env, h => by
    obtain ⟨env', e1, h1⟩ := step d ds env (fun e => forGo f body ds e Q) h fun e he => forGo_inv I step fin ds e he
    show (match f d env with | none => False | some env' => _)
    rw [e1]
    exact h1
theorem lcGo_inv {f : D → M (Option D)} {E : Xn → Prop} (I : List D → List D → Prop)
    (step : ∀ (d : D) (ds rs : List D) (K : Option D → Prop), I (d :: ds) rs → (∀ r, I ds (rs ++ r.toList) → K r) → f d K E) : ∀ (ds rs : List D) (Q : List D → Prop), I ds rs → (∀ out, I [] (rs ++ out) → Q out) → lcGo f ds Q E
  | [], rs, Q, h, hq => hq [] (by rw [List.append_nil]; exact h)
  | d :: ds, rs, Q, h, hq => step d ds rs (fun r => lcGo f ds (fun out => Q (r.toList ++ out)) E) h fun r hr => lcGo_inv I step ds (rs ++ r.toList) _ hr fun out ho => hq _ (by rw [← List.append_assoc]; exact ho)
theorem le_line {n : Nat} (h : n ≤ 16777216) : n ≤ sizeLine := by rw [sizeLine_eq]; exact h
end
/-! ### what is known of a form at once -/
section
variable {d e x y : D} {ds es : List D} {i j : Int} {a b : Str} {rs : List R} {env : Env} {C : Cn}
theorem v_d_sh : (R.sh d).d = d := rfl
theorem v_d_ow : (R.ow d).d = d := rfl
theorem v_d_bw : (R.bw d).d = d := rfl
theorem v_rb_ {k : Bool} : R.b k = .sh (.bl k) := rfl
theorem v_ri_ : R.i i = .sh (.int i) := rfl
theorem v_sl_sh : (R.sh d).sl = some (.sh d) := rfl
theorem v_sl_ow : (R.ow d).sl = some (.ow d) := rfl
theorem v_esc_sh : (R.sh d).esc = some d := rfl
theorem v_esc_ow : (R.ow d).esc = some d := rfl
theorem v_noBw_sh : (R.sh d).noBw = some (.sh d) := rfl
theorem v_noBw_ow : (R.ow d).noBw = some (.ow d) := rfl
theorem v_escs_nil : escs [] = some [] := rfl
theorem v_escs_sh : escs (.sh d :: rs) = (escs rs).map (d :: ·) := by
  have e : escs (.sh d :: rs) = (match (R.sh d).esc, escs rs with | some d, some ds => some (d :: ds) | _, _ => none) := rfl
  rw [e]
  cases escs rs <;> rfl
theorem v_escs_ow : escs (.ow d :: rs) = (escs rs).map (d :: ·) := by
  have e : escs (.ow d :: rs) = (match (R.ow d).esc, escs rs with | some d, some ds => some (d :: ds) | _, _ => none) := rfl
  rw [e]
  cases escs rs <;> rfl
theorem v_rvar_sh {n : Nat} (h : env[n]? = some (some (.sh d))) : rVar n env = pure (.sh d) := by unfold rVar; rw [h]; rfl
theorem v_rvar_ow {n : Nat} (h : env[n]? = some (some (.ow d))) : rVar n env = pure (.bw d) := by unfold rVar; rw [h]; rfl
theorem v_rslot_sh : rSlot (some (some (.sh d))) = pure (.sh d) := rfl
theorem v_rslot_ow : rSlot (some (some (.ow d))) = pure (.bw d) := rfl
theorem v_rvar_ {n : Nat} : rVar n env = rSlot env[n]? := rfl
theorem v_ret_sh : retSlot (some (some (.sh d))) = some (.sh d) := rfl
theorem v_ret_ow : retSlot (some (some (.ow d))) = some (.ow d) := rfl
theorem v_owS_ : owSlot (some (some (.ow d))) = some d := rfl
theorem v_owS_sh : owSlot (some (some (.sh d))) = none := rfl
theorem v_owS_none : owSlot (some none) = none := rfl
theorem v_slD1_ : slD1 (some (some (.sh d))) = some d := rfl
theorem v_tru_bl {k : Bool} : truD (.bl k) = some k := rfl
theorem v_tru_non : truD .non = some false := rfl
theorem v_tru_int : truD (.int i) = some (i != 0) := rfl
theorem v_tru_lst : truD (.lst ds) = some (!ds.isEmpty) := rfl
theorem v_tru_tup : truD (.tup ds) = some (!ds.isEmpty) := rfl
theorem v_asI_ : asI (.int i) = some i := rfl
theorem v_asB_ {k : Bool} : asB (.bl k) = some k := rfl
theorem v_bs_add : binSem .Add x y = bAdd x y := rfl
theorem v_bs_sub : binSem .Sub x y = bSub x y := rfl
theorem v_bs_mul : binSem .Mult x y = bMul x y := rfl
theorem v_bs_mod : binSem .Mod x y = bMod x y := rfl
theorem v_bs_div : binSem .FloorDiv x y = bDiv x y := rfl
theorem v_add_int : bAdd (.int i) (.int j) = some (.sh (.int (i + j))) := rfl
theorem v_add_str : bAdd (.str a) (.str b) = if a.length + b.length ≤ sizeLine then some (.sh (.str (a ++ b))) else none := rfl
theorem v_add_lst : bAdd (.lst ds) (.lst es) = if ds.length + es.length ≤ sizeLine then some (.ow (.lst (ds ++ es))) else none := rfl
theorem v_add_tup : bAdd (.tup ds) (.tup es) = if ds.length + es.length ≤ sizeLine then some (.sh (.tup (ds ++ es))) else none := rfl
theorem v_sub_int : bSub (.int i) (.int j) = some (.sh (.int (i - j))) := rfl
theorem v_mod_int : bMod (.int i) (.int j) = if 0 < j then some (.sh (.int (i % j))) else none := rfl
theorem v_neg_int : negD (.int i) = some (.sh (.int (-i))) := rfl
theorem v_cs_eq : cmpSem .Eq x y = (eqD x y).map R.b := rfl
theorem v_cs_ne : cmpSem .NotEq x y = cNe x y := rfl
theorem v_cs_lt : cmpSem .Lt x y = cLt x y := rfl
theorem v_cs_le : cmpSem .LtE x y = cLe x y := rfl
theorem v_cs_gt : cmpSem .Gt x y = cGt x y := rfl
theorem v_cs_ge : cmpSem .GtE x y = cGe x y := rfl
theorem v_cs_is : cmpSem .Is x .non = some (R.b (IP.isNon x)) := by cases x <;> rfl
theorem v_cs_isnot : cmpSem .IsNot x .non = some (R.b (!IP.isNon x)) := by cases x <;> rfl
theorem v_cs_in : cmpSem .In x y = (inD x y).map R.b := rfl
theorem v_cs_notin : cmpSem .NotIn x y = (inD x y).map fun b => R.b (!b) := rfl
theorem v_lt_int : cLt (.int i) (.int j) = some (R.b (decide (i < j))) := rfl
theorem v_le_int : cLe (.int i) (.int j) = some (R.b (decide (i ≤ j))) := rfl
theorem v_gt_int : cGt (.int i) (.int j) = some (R.b (decide (j < i))) := rfl
theorem v_ge_int : cGe (.int i) (.int j) = some (R.b (decide (j ≤ i))) := rfl
theorem v_isn_non : IP.isNon .non = true := rfl
theorem v_isn_int : IP.isNon (.int i) = false := rfl
theorem v_isn_str : IP.isNon (.str a) = false := rfl
theorem v_in_lst : inD x (.lst ds) = inSeq x ds := by cases x <;> rfl
theorem v_in_tup : inD x (.tup ds) = inSeq x ds := by cases x <;> rfl
theorem v_ix_lst : ixD (.lst ds) (.int i) = (atI ds i).map R.sh := rfl
theorem v_ix_tup : ixD (.tup ds) (.int i) = (atI ds i).map R.sh := rfl
theorem v_seq_lst : seqD (.lst ds) = some ds := rfl
theorem v_seq_tup : seqD (.tup ds) = some ds := rfl
theorem v_it_lst : itD (.lst ds) = some ds := rfl
theorem v_it_tup : itD (.tup ds) = some ds := rfl
theorem v_sld_lst {lo hi : Option Int} : slD (.lst ds) lo hi = some (.ow (.lst (cutL ds lo hi))) := rfl
theorem v_sld_tup {lo hi : Option Int} : slD (.tup ds) lo hi = some (.sh (.tup (cutL ds lo hi))) := rfl
theorem v_rng1_ : rngD [.int j] = if -(2 ^ 62) ≤ j ∧ j < 2 ^ 62 then some ((List.range j.toNat).map fun i : Nat => D.int (0 + (i : Int))) else none := rfl
theorem v_bi_ {f : Bi} : f.sem = f.sem := rfl
theorem v_len_lst : Bi.len.sem [.lst ds] = some (R.i ds.length) := rfl
theorem v_len_tup : Bi.len.sem [.tup ds] = some (R.i ds.length) := rfl
theorem v_len_dct {kv : List (D × D)} : Bi.len.sem [.dct kv] = some (R.i kv.length) := rfl
theorem v_max_int : Bi.max.sem [.int i, .int j] = some (R.i (if j > i then j else i)) := rfl
theorem v_min_int : Bi.min.sem [.int i, .int j] = some (R.i (if j < i then j else i)) := rfl
theorem v_list_lst : Bi.list.sem [.lst ds] = some (.ow (.lst ds)) := rfl
theorem v_list_tup : Bi.list.sem [.tup ds] = some (.ow (.lst ds)) := rfl
theorem v_tuple_lst : Bi.tuple.sem [.lst ds] = some (.sh (.tup ds)) := rfl
theorem v_tuple_tup : Bi.tuple.sem [.tup ds] = some (.sh (.tup ds)) := rfl
theorem v_tgn_ {n : Nat} : tgName n d env = some (env.set n (some (.sh d))) := rfl
theorem v_tgt_ {n : Nat} {f : List D → Env → Option Env} : tgTup n f (.tup ds) env = if ds.length = n then f ds env else none := rfl
theorem v_tgnil_ : tgNil [] env = some env := rfl
theorem v_tgc_ {f : D → Env → Option Env} {g : List D → Env → Option Env} {e1 : Env} (h : f d env = some e1) : tgCons f g (d :: ds) env = g ds e1 := by
  show (match f d env with | some env' => g ds env' | none => none) = _
  rw [h]
theorem v_tgcn_ {n : Nat} {g : List D → Env → Option Env} : tgCons (tgName n) g (d :: ds) env = g ds (env.set n (some (.sh d))) := rfl
theorem v_par_nil : parSet [] [] env = some env := rfl
theorem v_par_sh {n : Nat} {ns : List Nat} : parSet (n :: ns) (.sh d :: rs) env = parSet ns rs (env.set n (some (.sh d))) := rfl
theorem v_par_ow {n : Nat} {ns : List Nat} : parSet (n :: ns) (.ow d :: rs) env = parSet ns rs (env.set n (some (.ow d))) := rfl
theorem v_frz_ {n : Nat} (h : env[n]? = some (some (.ow d))) : frzE n env = env.set n (some (.sh d)) := by unfold frzE; rw [h]; rfl
theorem v_frz_no {n : Nat} (h : owSlot env[n]? = none) : frzE n env = env := by unfold frzE; rw [h]
theorem v_mu_app : Mu.append.sem (.lst ds) [d] = if ds.length < sizeLine then some (.lst (ds ++ [d]), .non) else none := rfl
theorem v_mt_get : Mt.get.ty = "dict" := rfl
theorem v_ty_dct {kv : List (D × D)} : tyD (.dct kv) = some "dict" := rfl
theorem v_ty_str : tyD (.str a) = some "str" := rfl
theorem v_put_dct {kv : List (D × D)} : setD (.dct kv) d x = if kv.length < sizeLine then (dPut kv d x).map D.dct else none := by cases d <;> rfl
theorem v_seq_nx {m : MS} {f : Env → MS} {Q : Out → Prop} (h : m fun o => match o with | .nx env => f env Q | o => Q o) : m.seq f Q := h
theorem v_seqret {f : Env → MS} {Q : Out → Prop} : (MS.ret (.nx env)).seq f Q = f env Q := rfl
end
/-! ### statements, one rule each; the body of a loop stays closed -/
section
variable {C : Cn} {env : Env} {i j : Nat} {e k c : Ex} {es : Exs} {tg : Tg} {it : Iq} {b y n : Sms} {s : Sm}
def bodyOf (C : Cn) (b : Sms) : Env → MS := evSs C b
def whOf (C : Cn) (c : Ex) : Env → M Bool := tst (evE C c)
theorem w_nil : evSs C .nil env = MS.ret (.nx env) := rfl
theorem w_cons : evSs C (.cons s b) env = (evS C s env).seq (evSs C b) := rfl
theorem w_frz : evSs C (.frz i b) env = evSs C b (frzE i env) := rfl
theorem w_set : evS C (.set i e) env = MS.of (do let r ← evE C e env; M.opt r.sl) env fun sl => MS.ret (.nx (env.set i (some sl))) := rfl
theorem w_setLc {elt : Ex} {o : Ox} {vs : List (Str × Nat)} : evS C (.setLc i elt tg it o vs) env = MS.of (do let r ← rLc (evIX C it) (vs.map (·.2)) (evG tg) (evC C o) (evE C elt) env; M.opt r.sl) env fun sl => MS.ret (.nx (env.set i (some sl))) := rfl
theorem w_unp : evS C (.unp tg e) env = MS.of (unpM (evG tg) (evE C e) env) env fun env' => MS.ret (.nx env') := rfl
theorem w_par {is : List Nat} : evS C (.par is es) env = MS.of (do let rs ← evEs C es env; M.opt (parSet is rs env)) env fun env' => MS.ret (.nx env') := rfl
theorem w_aug {op : Operator} : evS C (.aug i op e) env = MS.of (do let d ← M.opt (slD1 env[i]?); let r ← evE C e env; M.opt (augI op d r.d)) env fun d => MS.ret (.nx (env.set i (some (.sh d)))) := rfl
theorem w_mut {m : Mu} : evS C (.mut m i es) env = MS.of (mutM i m.sem (evEs C es) env) env fun q => MS.ret (.nx (env.set i (some (.ow q.1)))) := rfl
theorem w_setMut {m : Mu} : evS C (.setMut j m i es) env = MS.of (mutM i m.sem (evEs C es) env) env fun q => MS.ret (.nx ((env.set i (some (.ow q.1))).set j (some (.sh q.2)))) := rfl
theorem w_put : evS C (.put i k e) env = MS.of (putM i (evE C k) (evE C e) env) env fun d => MS.ret (.nx (env.set i (some (.ow d)))) := rfl
theorem w_expr : evS C (.expr e) env = MS.of (evE C e env) env fun _ => MS.ret (.nx env) := rfl
theorem w_ret : evS C (.ret e) env = MS.of (do let r ← evE C e env; M.opt r.noBw) env fun r => MS.ret (.rt r) := rfl
theorem w_retV : evS C (.retV i) env = MS.of (M.opt (retSlot env[i]?)) env fun r => MS.ret (.rt r) := rfl
theorem w_retN : evS C .retN env = MS.ret (.rt (.sh .non)) := rfl
theorem w_if : evS C (.if_ c y n) env = MS.of (tst (evE C c) env) env fun b => if b = true then evSs C y env else evSs C n env := rfl
theorem w_for : evS C (.for_ tg it b) env = MS.of (evI C it env) env fun ds => forGo (evG tg) (bodyOf C b) ds env := rfl
theorem w_while {m : Nat} : evS C (.while_ m c b) env = whileGo (whOf C c) (bodyOf C b) m env := rfl
theorem w_pass : evS C .pass env = MS.ret (.nx env) := rfl
theorem w_brk : evS C .brk env = MS.ret (.bk env) := rfl
theorem w_cnt : evS C .cnt env = MS.ret (.ct env) := rfl
theorem w_fset {f : Str} : evS C (.fset f e) env = MS.of (do let r ← evE C e env; let d ← M.opt r.esc; M.opt (putI C.slots f d env)) env fun env' => MS.ret (.nx env') := rfl
theorem w_raise {x : Str} : evS C (.raise_ x es) env = MS.of (raiseM C x (evEs C es env)) env fun ds => MS.ret (.ex ⟨x, ds⟩ env) := rfl
theorem w_raise0 {x : Str} : evS C (.raise0 x) env = MS.of (raise0M C x) env fun _ => MS.ret (.ex ⟨x, []⟩ env) := rfl
end
end IP

/-! IS3: == and in over data without truths and dicts. -/
namespace IP
open PySem PySem.Spec PyProof.Rows L2 FA
mutual
/-- ints, texts, None, lists and tuples of such -/
def nice : D → Bool
  | .non => true
  | .int _ => true
  | .str _ => true
  | .lst xs => nices xs
  | .tup xs => nices xs
  | _ => false
def nices : List D → Bool
  | [] => true
  | x :: xs => nice x && nices xs
end
mutual
def depD : D → Nat
  | .lst xs => depDs xs + 1
  | .tup xs => depDs xs + 1
  | _ => 0
def depDs : List D → Nat
  | [] => 0
  | x :: xs => max (depD x) (depDs xs)
end
mutual
theorem nice_pl : ∀ {d : D}, nice d = true → pl d = true ∧ (toP d).plain = true ∧ (toP d).depth = depD d
  | .non, _ => ⟨rfl, rfl, rfl⟩
  | .int _, _ => ⟨rfl, rfl, rfl⟩
  | .str _, _ => ⟨rfl, rfl, rfl⟩
  | .lst xs, h => by
    obtain ⟨h1, h2, h3⟩ := nices_pl (ds := xs) h
    refine ⟨h1, ?_, ?_⟩
    · rw [toP, PyData.plain]; exact h2
    · rw [toP, PyData.depth, depD, h3]
  | .tup xs, h => by
    obtain ⟨h1, h2, h3⟩ := nices_pl (ds := xs) h
    refine ⟨h1, ?_, ?_⟩
    · rw [toP, PyData.plain]; exact h2
    · rw [toP, PyData.depth, depD, h3]
theorem nices_pl : ∀ {ds : List D}, nices ds = true → pls ds = true ∧ PyData.plainAll (toPs ds) = true ∧ PyData.depthAll (toPs ds) = depDs ds
  | [], _ => ⟨rfl, rfl, rfl⟩
  | x :: xs, h => by
    rw [nices, Bool.and_eq_true] at h
    obtain ⟨a1, a2, a3⟩ := nice_pl h.1
    obtain ⟨b1, b2, b3⟩ := nices_pl h.2
    refine ⟨?_, ?_, ?_⟩
    · rw [pls, a1, b1]; rfl
    · rw [toPs, PyData.plainAll, a2, b2]; rfl
    · rw [toPs, PyData.depthAll, depDs, a3, b3]
end
mutual
theorem nice_eqv : ∀ (x y : D), nice x = true → nice y = true → (PyData.eqv (toP x) (toP y) = true ↔ x = y)
  | .non, y, _, hy => by cases y <;> first | (cases hy; done) | simp [toP, PyData.eqv]
  | .int i, y, _, hy => by cases y <;> first | (cases hy; done) | simp [toP, PyData.eqv]
  | .str i, y, _, hy => by cases y <;> first | (cases hy; done) | simp [toP, PyData.eqv]
  | .lst xs, y, hx, hy => by
    cases y with
    | lst ys =>
      have := nices_eqv xs ys hx hy
      simp [toP, PyData.eqv, this]
    | _ => first | (cases hy; done) | simp [toP, PyData.eqv]
  | .tup xs, y, hx, hy => by
    cases y with
    | tup ys =>
      have := nices_eqv xs ys hx hy
      simp [toP, PyData.eqv, this]
    | _ => first | (cases hy; done) | simp [toP, PyData.eqv]
theorem nices_eqv : ∀ (xs ys : List D), nices xs = true → nices ys = true → (PyData.eqvAll (toPs xs) (toPs ys) = true ↔ xs = ys)
  | [], [], _, _ => by simp [toPs, PyData.eqvAll]
  | [], _ :: _, _, _ => by simp [toPs, PyData.eqvAll]
  | _ :: _, [], _, _ => by simp [toPs, PyData.eqvAll]
  | x :: xs, y :: ys, hx, hy => by
    rw [nices, Bool.and_eq_true] at hx hy
    have h1 := nice_eqv x y hx.1 hy.1
    have h2 := nices_eqv xs ys hx.2 hy.2
    rw [toPs, toPs, PyData.eqvAll, Bool.and_eq_true, h1, h2]
    simp
end
open Classical in
theorem eqD_nice {x y : D} (hx : nice x = true) (hy : nice y = true) (hd : depD x ≤ 60) : eqD x y = some (decide (x = y)) := by
  obtain ⟨a1, a2, a3⟩ := nice_pl hx
  obtain ⟨b1, b2, b3⟩ := nice_pl hy
  unfold eqD
  rw [if_pos ⟨a1, b1, a2, b2, by rw [a3]; exact hd⟩]
  have := nice_eqv x y hx hy
  congr 1
  by_cases h : x = y
  · rw [decide_eq_true h]; exact this.mpr h
  · rw [decide_eq_false h]
    cases q : PyData.eqv (toP x) (toP y) with
    | false => rfl
    | true => exact absurd (this.mp q) h
open Classical in
theorem cNe_nice {x y : D} (hx : nice x = true) (hy : nice y = true) (hd : depD x ≤ 60) : cNe x y = some (R.b (!decide (x = y))) := by
  obtain ⟨a1, a2, a3⟩ := nice_pl hx
  obtain ⟨b1, b2, b3⟩ := nice_pl hy
  show (if pl x = true ∧ pl y = true ∧ (toP x).plain = true ∧ (toP y).plain = true ∧ (toP x).depth ≤ 60 then some (R.b (!PyData.eqv (toP x) (toP y))) else none) = _
  rw [if_pos ⟨a1, b1, a2, b2, by rw [a3]; exact hd⟩]
  have := nice_eqv x y hx hy
  by_cases h : x = y
  · rw [decide_eq_true h, this.mpr h]
  · rw [decide_eq_false h]
    cases q : PyData.eqv (toP x) (toP y) with
    | false => rfl
    | true => exact absurd (this.mp q) h
open Classical in
theorem inSeq_nice {x : D} {ys : List D} (hx : nice x = true) (hy : nices ys = true) (hd : depD x ≤ 60) : inSeq x ys = some (decide (x ∈ ys)) := by
  obtain ⟨a1, a2, a3⟩ := nice_pl hx
  obtain ⟨b1, b2, b3⟩ := nices_pl hy
  unfold inSeq
  rw [if_pos ⟨a1, b1, a2, b2, by rw [a3]; exact hd⟩]
  congr 1
  clear b1 b2 b3
  induction ys with
  | nil => simp [toPs]
  | cons y ys ih =>
    rw [nices, Bool.and_eq_true] at hy
    rw [toPs, List.any_cons, ih hy.2]
    have := nice_eqv y x hy.1 hx
    by_cases h : y = x
    · rw [this.mpr h]; simp [h]
    · have q : PyData.eqv (toP y) (toP x) = false := by
        cases q : PyData.eqv (toP y) (toP x) with
        | false => rfl
        | true => exact absurd (this.mp q) h
      rw [q]
      have h' : ¬ x = y := fun z => h z.symm
      simp [h']
end IP

/-! FB1: sums of differences, plain: a table that is sound and closed tells the least sums; short walks are enough. -/
namespace FB
section
variable {α : Type} [DecidableEq α]
abbrev Fc (α : Type) := List (α × α × Int)
/-- a walk of n facts from x to z, its sum w, all its points within P -/
inductive Wk (F : Fc α) (P : α → Prop) : α → α → Nat → Int → Prop
  | nil {x : α} : P x → Wk F P x x 0 0
  | cons {x y z : α} {c w : Int} {n : Nat} : P x → (x, y, c) ∈ F → Wk F P y z n w → Wk F P x z (n + 1) (c + w)
theorem Wk.fst {F : Fc α} {P : α → Prop} {x z : α} {n : Nat} {w : Int} (h : Wk F P x z n w) : P x := by
  cases h with
  | nil h => exact h
  | cons h _ _ => exact h
theorem Wk.lst {F : Fc α} {P : α → Prop} {x z : α} {n : Nat} {w : Int} (h : Wk F P x z n w) : P z := by
  induction h with
  | nil h => exact h
  | cons _ _ _ ih => exact ih
theorem Wk.wide {F : Fc α} {P P' : α → Prop} (k : ∀ a, P a → P' a) {x z : α} {n : Nat} {w : Int} (h : Wk F P x z n w) : Wk F P' x z n w := by
  induction h with
  | nil h => exact .nil (k _ h)
  | cons h m _ ih => exact .cons (k _ h) m ih
/-- a start that keeps the facts -/
def Pot (s : α → Int) (F : Fc α) : Prop := ∀ x y c, (x, y, c) ∈ F → s x - s y ≤ c
theorem Wk.pot {F : Fc α} {P : α → Prop} {s : α → Int} (hs : Pot s F) {x z : α} {n : Nat} {w : Int} (h : Wk F P x z n w) : s x - s z ≤ w := by
  induction h with
  | nil _ => omega
  | cons _ m _ ih =>
    have := hs _ _ _ m
    omega
/-- behind the last visit of x -/
def Last (F : Fc α) (P : α → Prop) (x z : α) (w : Int) : Prop := (x = z ∧ w = 0) ∨ ∃ y c n w', (x, y, c) ∈ F ∧ Wk F (fun a => P a ∧ a ≠ x) y z n w' ∧ w = c + w'
theorem Wk.split {F : Fc α} {P : α → Prop} (x : α) {y z : α} {n : Nat} {w : Int} (h : Wk F P y z n w) :
    Wk F (fun a => P a ∧ a ≠ x) y z n w ∨ ∃ n1 w1 w2, Wk F P y x n1 w1 ∧ Last F P x z w2 ∧ w = w1 + w2 := by
  induction h with
  | @nil y h =>
    by_cases e : y = x
    · subst e
      exact .inr ⟨0, 0, 0, .nil h, .inl ⟨rfl, rfl⟩, by omega⟩
    · exact .inl (.nil ⟨h, e⟩)
  | @cons y y' z c w n h m t ih =>
    rcases ih with ih | ⟨n1, w1, w2, i1, i2, i3⟩
    · by_cases e : y = x
      · subst e
        exact .inr ⟨0, 0, c + w, .nil h, .inr ⟨y', c, n, w, m, ih, rfl⟩, by omega⟩
      · exact .inl (.cons ⟨h, e⟩ m ih)
    · exact .inr ⟨n1 + 1, c + w1, w2, .cons h m i1, i2, by omega⟩
/-- a walk with fewer facts than points, and no greater sum -/
theorem Wk.short {F : Fc α} {s : α → Int} (hs : Pot s F) : ∀ (k : Nat) (S : List α) (P : α → Prop), S.length = k → (∀ a, P a → a ∈ S) → ∀ {x z : α} {n : Nat} {w : Int}, Wk F P x z n w → ∃ n' w', Wk F P x z n' w' ∧ n' + 1 ≤ k ∧ w' ≤ w := by
  intro k
  induction k with
  | zero =>
    intro S P hl hm x z n w h
    have := hm _ h.fst
    rw [List.length_eq_zero_iff.mp hl] at this
    cases this
  | succ k ih =>
    intro S P hl hm x z n w h
    rcases h.split x with h1 | ⟨n1, w1, w2, h1, h2, h3⟩
    · exact absurd rfl h1.fst.2
    · have hw1 : 0 ≤ w1 := by
        have := h1.pot hs
        omega
      rcases h2 with ⟨rfl, e2⟩ | ⟨y, c, n2, w3, m, t, e⟩
      · exact ⟨0, 0, .nil h.fst, by omega, by omega⟩
      · have hx : x ∈ S := hm _ h.fst
        obtain ⟨n', w', g1, g2, g3⟩ := ih (S.erase x) (fun a => P a ∧ a ≠ x) (by rw [List.length_erase_of_mem hx, hl]; rfl) (fun a ha => (List.mem_erase_of_ne ha.2).mpr (hm a ha.1)) t
        exact ⟨n' + 1, c + w', .cons h.fst m (g1.wide fun a ha => ha.1), by omega, by omega⟩
/-- the table tells at most c -/
def Le (o : Option Int) (c : Int) : Prop := ∃ v, o = some v ∧ v ≤ c
/-- all that the table tells is a walk's sum -/
def Sound (F : Fc α) (P : α → Prop) (d : α → α → Option Int) : Prop := ∀ x y v, d x y = some v → ∃ n, Wk F P x y n v
/-- no walk has less -/
def Whole (F : Fc α) (P : α → Prop) (d : α → α → Option Int) : Prop := ∀ x y n w, Wk F P x y n w → Le (d x y) w
theorem table_unique {F : Fc α} {P : α → Prop} {d d' : α → α → Option Int} (h1 : Sound F P d) (h2 : Whole F P d) (h1' : Sound F P d') (h2' : Whole F P d') : d = d' := by
  funext x y
  cases e : d x y with
  | none =>
    cases e' : d' x y with
    | none => rfl
    | some v =>
      obtain ⟨n, hw⟩ := h1' x y v e'
      obtain ⟨u, hu, _⟩ := h2 x y n v hw
      rw [e] at hu
      cases hu
  | some v =>
    obtain ⟨n, hw⟩ := h1 x y v e
    obtain ⟨u, hu, lu⟩ := h2' x y n v hw
    obtain ⟨n', hw'⟩ := h1' x y u hu
    obtain ⟨t, ht, lt⟩ := h2 x y n' u hw'
    rw [e] at ht
    cases ht
    rw [hu]
    congr 1
    omega
/-- closed under each fact: no walk has less -/
theorem whole_of {F : Fc α} {P : α → Prop} {d : α → α → Option Int} (h0 : ∀ x, P x → Le (d x x) 0) (hs : ∀ x y c z v, P x → (x, y, c) ∈ F → d y z = some v → Le (d x z) (c + v)) : Whole F P d := by
  intro x y n w h
  induction h with
  | nil h => exact h0 _ h
  | @cons x y z c w n h m t ih =>
    obtain ⟨v, hv, lv⟩ := ih
    obtain ⟨u, hu, lu⟩ := hs x y c z v h m hv
    exact ⟨u, hu, by omega⟩
end
end FB

/-! FB2: middle by middle, in place. -/
namespace FB
def addO : Option Int → Option Int → Option Int
  | some a, some b => some (a + b)
  | _, _ => none
def minO : Option Int → Option Int → Option Int
  | some a, some b => some (min a b)
  | none, b => b
  | a, none => a
theorem addO_zero (a : Option Int) : addO a (some 0) = a := by
  cases a with
  | none => rfl
  | some a => show some (a + 0) = some a; rw [Int.add_zero]
theorem zero_addO (a : Option Int) : addO (some 0) a = a := by
  cases a with
  | none => rfl
  | some a => show some (0 + a) = some a; rw [Int.zero_add]
theorem minO_self (a : Option Int) : minO a a = a := by
  cases a with
  | none => rfl
  | some a => show some (min a a) = some a; rw [Int.min_self]
theorem minO_idem (a b : Option Int) : minO (minO a b) b = minO a b := by
  cases a with
  | none => exact minO_self b
  | some a =>
    cases b with
    | none => rfl
    | some b =>
      show some (min (min a b) b) = some (min a b)
      congr 1
      omega
theorem minO_le1 {a : Int} (b : Option Int) : Le (minO (some a) b) a := by
  cases b with
  | none => exact ⟨a, rfl, Int.le_refl _⟩
  | some b => exact ⟨min a b, rfl, by omega⟩
theorem minO_le2 (a : Option Int) {b : Int} : Le (minO a (some b)) b := by
  cases a with
  | none => exact ⟨b, rfl, Int.le_refl _⟩
  | some a => exact ⟨min a b, rfl, by omega⟩
theorem minO_cases {a b : Option Int} {v : Int} (h : minO a b = some v) : a = some v ∨ b = some v := by
  cases a with
  | none => exact .inr h
  | some a =>
    cases b with
    | none => exact .inl h
    | some b =>
      have e : min a b = v := Option.some.inj h
      rcases (show min a b = a ∨ min a b = b by omega) with q | q
      · exact .inl (by rw [← e, q])
      · exact .inr (by rw [← e, q])
theorem addO_some {a b : Option Int} {v : Int} (h : addO a b = some v) : ∃ x y, a = some x ∧ b = some y ∧ v = x + y := by
  cases a with
  | none => cases h
  | some a =>
    cases b with
    | none => cases h
    | some b => exact ⟨a, b, rfl, rfl, (Option.some.inj h).symm⟩
theorem Le.mono {o : Option Int} {a b : Int} (h : Le o a) (k : a ≤ b) : Le o b := by
  obtain ⟨v, e, l⟩ := h
  exact ⟨v, e, by omega⟩
section
variable {α : Type} [DecidableEq α]
abbrev Tb (α : Type) := α → α → Option Int
def relax (m : α) (d : Tb α) (p : α × α) : Tb α := fun u v => if (u, v) = p then minO (d p.1 p.2) (addO (d p.1 m) (d m p.2)) else d u v
def thr (d : Tb α) (m : α) : Tb α := fun u v => minO (d u v) (addO (d u m) (d m v))
theorem thr_col {d : Tb α} {m : α} (h : d m m = some 0) (u : α) : thr d m u m = d u m := by
  unfold thr
  rw [h, addO_zero, minO_self]
theorem thr_row {d : Tb α} {m : α} (h : d m m = some 0) (v : α) : thr d m m v = d m v := by
  unfold thr
  rw [h, zero_addO, minO_self]
/-- some done, some not -/
def part (d : Tb α) (m : α) (L : List (α × α)) : Tb α := fun u v => if (u, v) ∈ L then thr d m u v else d u v
theorem part_col {d : Tb α} {m : α} (h : d m m = some 0) (L : List (α × α)) (u : α) : part d m L u m = d u m := by
  unfold part
  split
  · exact thr_col h u
  · rfl
theorem part_row {d : Tb α} {m : α} (h : d m m = some 0) (L : List (α × α)) (v : α) : part d m L m v = d m v := by
  unfold part
  split
  · exact thr_row h v
  · rfl
theorem relax_part {d : Tb α} {m : α} (h : d m m = some 0) (L : List (α × α)) (p : α × α) : relax m (part d m L) p = part d m (L ++ [p]) := by
  funext u v
  show (if (u, v) = p then minO (part d m L p.1 p.2) (addO (part d m L p.1 m) (part d m L m p.2)) else part d m L u v) = _
  rw [part_col h, part_row h]
  by_cases e : (u, v) = p
  · rw [if_pos e]
    subst e
    show _ = (if (u, v) ∈ L ++ [(u, v)] then thr d m u v else d u v)
    rw [if_pos (by simp)]
    show minO (if (u, v) ∈ L then thr d m u v else d u v) _ = _
    split
    · exact minO_idem _ _
    · rfl
  · rw [if_neg e]
    show (if (u, v) ∈ L then thr d m u v else d u v) = (if (u, v) ∈ L ++ [p] then thr d m u v else d u v)
    have : ((u, v) ∈ L ++ [p]) ↔ ((u, v) ∈ L) := by
      rw [List.mem_append, List.mem_singleton]
      exact ⟨fun z => z.elim id fun z => absurd z e, .inl⟩
    simp only [this]
theorem pass_spec {d : Tb α} {m : α} (h : d m m = some 0) (L : List (α × α)) : L.foldl (relax m) d = part d m L := by
  have key : ∀ (R A : List (α × α)), R.foldl (relax m) (part d m A) = part d m (A ++ R) := by
    intro R
    induction R with
    | nil => intro A; rw [List.append_nil]; rfl
    | cons p R ih =>
      intro A
      rw [List.foldl_cons, relax_part h, ih, List.append_assoc]
      rfl
  have e : part d m [] = d := by
    funext u v
    unfold part
    rw [if_neg (by simp)]
  have := key L []
  rw [e] at this
  rw [this]
  rfl
/-- within P alone something is told; what it tells of each with itself is 0 -/
structure Tab (F : Fc α) (P : α → Prop) (d : Tb α) : Prop where
  sound : Sound F P d
  diag : ∀ x, P x → d x x = some 0
  fact : ∀ x y c, P x → P y → (x, y, c) ∈ F → Le (d x y) c
/-- over each of M -/
def Tri (d : Tb α) (M : List α) : Prop := ∀ k, k ∈ M → ∀ x y a b, d x k = some a → d k y = some b → Le (d x y) (a + b)
theorem Wk.app {F : Fc α} {P : α → Prop} {x y z : α} {n n' : Nat} {v w : Int} (h : Wk F P x y n v) (k : Wk F P y z n' w) : Wk F P x z (n + n') (v + w) := by
  induction h with
  | nil _ => rw [Int.zero_add, Nat.zero_add]; exact k
  | cons h m _ ih =>
    have := Wk.cons h m (ih k)
    rw [Int.add_assoc, Nat.add_right_comm]
    exact this
theorem thr_tab {F : Fc α} {P : α → Prop} {d : Tb α} {s : α → Int} (hs : Pot s F) (T : Tab F P d) (m : α) : Tab F P (thr d m) := by
  refine ⟨fun x y v h => ?_, fun x hx => ?_, fun x y c hx hy hm => ?_⟩
  · rcases minO_cases h with h | h
    · exact T.sound x y v h
    · obtain ⟨a, b, e1, e2, e3⟩ := addO_some h
      obtain ⟨n, h1⟩ := T.sound _ _ _ e1
      obtain ⟨n', h2⟩ := T.sound _ _ _ e2
      exact ⟨_, e3 ▸ h1.app h2⟩
  · unfold thr
    rw [T.diag x hx]
    cases e : addO (d x m) (d m x) with
    | none => rfl
    | some v =>
      obtain ⟨a, b, e1, e2, e3⟩ := addO_some e
      obtain ⟨n, h1⟩ := T.sound _ _ _ e1
      obtain ⟨n', h2⟩ := T.sound _ _ _ e2
      have := (h1.app h2).pot hs
      show some (min 0 v) = some 0
      congr 1
      omega
  · obtain ⟨v, e, l⟩ := T.fact x y c hx hy hm
    unfold thr
    rw [e]
    exact (minO_le1 _).mono l
theorem thr_tri {F : Fc α} {P : α → Prop} {d : Tb α} {s : α → Int} (hs : Pot s F) (T : Tab F P d) {M : List α} (h : Tri d M) {m : α} (hm : P m) : Tri (thr d m) (m :: M) := by
  have le : ∀ x y a, d x y = some a → Le (thr d m x y) a := fun x y a e => by
    unfold thr
    rw [e]
    exact minO_le1 _
  have via : ∀ x y a b, d x m = some a → d m y = some b → Le (thr d m x y) (a + b) := fun x y a b e1 e2 => by
    unfold thr
    rw [e1, e2]
    exact minO_le2 _
  intro k hk x y a b h1 h2
  rcases List.mem_cons.mp hk with rfl | hk
  · rw [thr_col (T.diag _ hm)] at h1
    rw [thr_row (T.diag _ hm)] at h2
    exact via x y a b h1 h2
  · rcases minO_cases h1 with h1 | h1 <;> rcases minO_cases h2 with h2 | h2
    · obtain ⟨v, e, l⟩ := h k hk x y a b h1 h2
      exact (le x y v e).mono l
    · obtain ⟨p, q, e1, e2, e3⟩ := addO_some h2
      obtain ⟨v, e, l⟩ := h k hk x m a p h1 e1
      exact (via x y v q e e2).mono (by omega)
    · obtain ⟨p, q, e1, e2, e3⟩ := addO_some h1
      obtain ⟨v, e, l⟩ := h k hk m y q b e2 h2
      exact (via x y p v e1 e).mono (by omega)
    · obtain ⟨p, q, e1, e2, e3⟩ := addO_some h1
      obtain ⟨p', q', e1', e2', e3'⟩ := addO_some h2
      obtain ⟨n, w1⟩ := T.sound _ _ _ e2
      obtain ⟨n', w2⟩ := T.sound _ _ _ e1'
      have := (w1.app w2).pot hs
      exact (via x y p q' e1 e2').mono (by omega)
/-- all middles: no walk has less -/
theorem tri_whole {F : Fc α} {P : α → Prop} {d : Tb α} (T : Tab F P d) {M : List α} (h : Tri d M) (hP : ∀ a, P a → a ∈ M) : Whole F P d := by
  refine whole_of (fun x hx => ⟨0, T.diag x hx, Int.le_refl _⟩) fun x y c z v hx hm e => ?_
  obtain ⟨n, w⟩ := T.sound _ _ _ e
  obtain ⟨a, e1, l⟩ := T.fact x y c hx w.fst hm
  exact (h y (hP y w.fst) x z a v e1 e).mono (by omega)
end
end FB

/-! FB3: in rounds over all facts. -/
namespace FB
section
variable {α : Type} [DecidableEq α]
abbrev Op (α : Type) := (α × α × Int) × α
def stepR (d : Tb α) (o : Op α) : Tb α := fun u v => if (u, v) = (o.1.1, o.2) then minO (d o.1.1 o.2) (addO (d o.1.2.1 o.2) (some o.1.2.2)) else d u v
theorem stepR_mono {d : Tb α} (o : Op α) {u v : α} {a : Int} (h : Le (d u v) a) : Le (stepR d o u v) a := by
  unfold stepR
  by_cases e : (u, v) = (o.1.1, o.2)
  · rw [if_pos e]
    obtain ⟨b, hb, l⟩ := h
    injection e with e1 e2
    rw [← e1, ← e2, hb]
    exact (minO_le1 _).mono l
  · rw [if_neg e]
    exact h
theorem foldR_mono : ∀ (L : List (Op α)) {d : Tb α} {u v : α} {a : Int}, Le (d u v) a → Le (L.foldl stepR d u v) a
  | [], _, _, _, _, h => h
  | o :: L, _, _, _, _, h => foldR_mono L (stepR_mono o h)
theorem stepR_hit {d : Tb α} {x y z : α} {c v : Int} (h : Le (d y z) v) : Le (stepR d ((x, y, c), z) x z) (c + v) := by
  obtain ⟨b, hb, l⟩ := h
  unfold stepR
  rw [if_pos rfl]
  show Le (minO (d x z) (addO (d y z) (some c))) (c + v)
  rw [hb]
  exact (minO_le2 _).mono (by omega)
theorem foldR_hit : ∀ (L : List (Op α)) {d : Tb α} {x y z : α} {c v : Int}, ((x, y, c), z) ∈ L → Le (d y z) v → Le (L.foldl stepR d x z) (c + v)
  | [], _, _, _, _, _, _, h, _ => nomatch h
  | o :: L, d, x, y, z, c, v, h, k => by
    rcases List.mem_cons.mp h with e | h
    · subst e
      exact foldR_mono L (stepR_hit k)
    · exact foldR_hit L h (stepR_mono o k)
theorem stepR_sound {F : Fc α} {P : α → Prop} {d : Tb α} (h : Sound F P d) {o : Op α} (ho : o.1 ∈ F) (hp : P o.1.1) : Sound F P (stepR d o) := by
  intro u v a e
  unfold stepR at e
  by_cases q : (u, v) = (o.1.1, o.2)
  · rw [if_pos q] at e
    injection q with q1 q2
    subst q1 q2
    rcases minO_cases e with e | e
    · exact h _ _ _ e
    · obtain ⟨x, y, e1, e2, e3⟩ := addO_some e
      obtain ⟨n, w⟩ := h _ _ _ e1
      cases e2
      refine ⟨n + 1, ?_⟩
      rw [e3, Int.add_comm]
      exact .cons hp ho w
  · rw [if_neg q] at e
    exact h _ _ _ e
theorem foldR_sound {F : Fc α} {P : α → Prop} : ∀ (L : List (Op α)) {d : Tb α}, Sound F P d → (∀ o ∈ L, o.1 ∈ F ∧ P o.1.1) → Sound F P (L.foldl stepR d)
  | [], _, h, _ => h
  | o :: L, _, h, k => foldR_sound L (stepR_sound h (k o List.mem_cons_self).1 (k o List.mem_cons_self).2) fun o' h' => k o' (List.mem_cons_of_mem _ h')
def rounds (L : List (Op α)) : Nat → Tb α → Tb α
  | 0, d => d
  | t + 1, d => L.foldl stepR (rounds L t d)
theorem rounds_mono (L : List (Op α)) : ∀ (t : Nat) {d : Tb α} {u v : α} {a : Int}, Le (d u v) a → Le (rounds L t d u v) a
  | 0, _, _, _, _, h => h
  | t + 1, _, _, _, _, h => foldR_mono L (rounds_mono L t h)
theorem rounds_sound {F : Fc α} {P : α → Prop} {L : List (Op α)} (k : ∀ o ∈ L, o.1 ∈ F ∧ P o.1.1) : ∀ (t : Nat) {d : Tb α}, Sound F P d → Sound F P (rounds L t d)
  | 0, _, h => h
  | t + 1, _, h => foldR_sound L (rounds_sound k t h) k
theorem rounds_le {F : Fc α} {P : α → Prop} {L : List (Op α)} {d : Tb α} (hL : ∀ f ∈ F, ∀ z, P z → (f, z) ∈ L) (h0 : ∀ x, P x → Le (d x x) 0) {x z : α} {n : Nat} {w : Int} (h : Wk F P x z n w) : ∀ {t : Nat}, n ≤ t → Le (rounds L t d x z) w := by
  induction h with
  | nil h => exact fun _ => rounds_mono L _ (h0 _ h)
  | @cons x y z c w n hx m t ih =>
    intro k hk
    obtain ⟨k', rfl⟩ : ∃ k', k = k' + 1 := ⟨k - 1, by omega⟩
    exact foldR_hit L (hL _ m z t.lst) (ih (by omega))
/-- as many rounds as points: no walk has less -/
theorem rounds_whole {F : Fc α} {P : α → Prop} {L : List (Op α)} {d : Tb α} {s : α → Int} (hs : Pot s F) (hL : ∀ f ∈ F, ∀ z, P z → (f, z) ∈ L) (h0 : ∀ x, P x → Le (d x x) 0) (S : List α) (hS : ∀ a, P a → a ∈ S) {t : Nat} (ht : S.length ≤ t + 1) : Whole F P (rounds L t d) := by
  intro x y n w h
  obtain ⟨n', w', g1, g2, g3⟩ := Wk.short hs S.length S P rfl hS h
  exact (rounds_le hL h0 g1 (by omega)).mono g3
/-- each with itself, 0; nothing else -/
def diagT (S : List α) : Tb α := fun u v => if u = v ∧ u ∈ S then some 0 else none
theorem diag_sound {F : Fc α} (S : List α) : Sound F (· ∈ S) (diagT S) := by
  intro x y v h
  unfold diagT at h
  split at h
  · rename_i e
    obtain ⟨rfl, hx⟩ := e
    cases h
    exact ⟨0, .nil hx⟩
  · cases h
end
end FB

/-! FB4: facts laid in, then all middles; the same as in rounds. -/
namespace FB
section
variable {α : Type} [DecidableEq α]
def layF (d : Tb α) (f : α × α × Int) : Tb α := fun u v => if (u, v) = (f.1, f.2.1) then minO (d f.1 f.2.1) (some f.2.2) else d u v
theorem layF_mono {d : Tb α} (f : α × α × Int) {u v : α} {a : Int} (h : Le (d u v) a) : Le (layF d f u v) a := by
  unfold layF
  by_cases e : (u, v) = (f.1, f.2.1)
  · rw [if_pos e]
    obtain ⟨b, hb, l⟩ := h
    injection e with e1 e2
    rw [← e1, ← e2, hb]
    exact (minO_le1 _).mono l
  · rw [if_neg e]
    exact h
theorem lays_mono : ∀ (L : Fc α) {d : Tb α} {u v : α} {a : Int}, Le (d u v) a → Le (L.foldl layF d u v) a
  | [], _, _, _, _, h => h
  | f :: L, _, _, _, _, h => lays_mono L (layF_mono f h)
theorem lays_hit : ∀ (L : Fc α) {d : Tb α} {x y : α} {c : Int}, (x, y, c) ∈ L → Le (L.foldl layF d x y) c
  | [], _, _, _, _, h => nomatch h
  | f :: L, d, x, y, c, h => by
    rcases List.mem_cons.mp h with e | h
    · subst e
      refine lays_mono L ?_
      unfold layF
      rw [if_pos rfl]
      exact minO_le2 _
    · exact lays_hit L h
theorem lays_sound {F : Fc α} {P : α → Prop} : ∀ (L : Fc α) {d : Tb α}, Sound F P d → (∀ f ∈ L, f ∈ F ∧ P f.1 ∧ P f.2.1) → Sound F P (L.foldl layF d)
  | [], _, h, _ => h
  | f :: L, d, h, k => by
    refine lays_sound L (fun u v a e => ?_) fun f' h' => k f' (List.mem_cons_of_mem _ h')
    obtain ⟨k1, k2, k3⟩ := k f List.mem_cons_self
    unfold layF at e
    by_cases q : (u, v) = (f.1, f.2.1)
    · rw [if_pos q] at e
      injection q with q1 q2
      subst q1 q2
      rcases minO_cases e with e | e
      · exact h _ _ _ e
      · cases e
        refine ⟨1, ?_⟩
        have := Wk.cons (c := f.2.2) k2 k1 (.nil k3)
        rwa [Int.add_zero] at this
    · rw [if_neg q] at e
      exact h _ _ _ e
/-- the beginning of all middles -/
def layT (S : List α) (F : Fc α) : Tb α := F.foldl layF (diagT S)
theorem lay_tab {S : List α} {F : Fc α} {s : α → Int} (hs : Pot s F) (hF : ∀ f ∈ F, f.1 ∈ S ∧ f.2.1 ∈ S) : Tab F (· ∈ S) (layT S F) := by
  have so : Sound F (· ∈ S) (layT S F) := lays_sound F (diag_sound S) fun f hf => ⟨hf, hF f hf⟩
  refine ⟨so, fun x hx => ?_, fun x y c _ _ hm => lays_hit F hm⟩
  obtain ⟨v, e, l⟩ := lays_mono F (d := diagT S) (u := x) (v := x) (a := 0) ⟨0, by unfold diagT; rw [if_pos ⟨rfl, hx⟩], Int.le_refl _⟩
  obtain ⟨n, w⟩ := so x x v e
  have := w.pot hs
  show F.foldl layF (diagT S) x x = some 0
  rw [e]
  congr 1
  omega
def pairs (S : List α) : List (α × α) := S.flatMap fun x => S.map fun y => (x, y)
theorem mem_pairs {S : List α} {u v : α} : (u, v) ∈ pairs S ↔ u ∈ S ∧ v ∈ S := by
  unfold pairs
  simp only [List.mem_flatMap, List.mem_map, Prod.mk.injEq]
  exact ⟨fun ⟨x, hx, y, hy, e1, e2⟩ => ⟨e1 ▸ hx, e2 ▸ hy⟩, fun ⟨h1, h2⟩ => ⟨u, h1, v, h2, rfl, rfl⟩⟩
theorem part_thr {F : Fc α} {S : List α} {d : Tb α} (h : Sound F (· ∈ S) d) (m : α) : part d m (pairs S) = thr d m := by
  funext u v
  unfold part
  by_cases e : (u, v) ∈ pairs S
  · rw [if_pos e]
  · rw [if_neg e]
    have no : ∀ w, thr d m u v ≠ some w := fun w hw => by
      refine e (mem_pairs.mpr ?_)
      rcases minO_cases hw with hw | hw
      · obtain ⟨n, k⟩ := h _ _ _ hw
        exact ⟨k.fst, k.lst⟩
      · obtain ⟨a, b, e1, e2, _⟩ := addO_some hw
        obtain ⟨n, k⟩ := h _ _ _ e1
        obtain ⟨n', k'⟩ := h _ _ _ e2
        exact ⟨k.fst, k'.lst⟩
    have no1 : ∀ w, d u v ≠ some w := fun w hw => by
      obtain ⟨n, k⟩ := h _ _ _ hw
      exact e (mem_pairs.mpr ⟨k.fst, k.lst⟩)
    cases e1 : d u v with
    | some w => exact absurd e1 (no1 w)
    | none =>
      cases e2 : thr d m u v with
      | some w => exact absurd e2 (no w)
      | none => rfl
/-- all middles -/
def tight (S M : List α) (d : Tb α) : Tb α := M.foldl (fun d m => (pairs S).foldl (relax m) d) d
theorem tight_ok {F : Fc α} {S : List α} {s : α → Int} (hs : Pot s F) : ∀ (M : List α) {d : Tb α} {D : List α}, (∀ m ∈ M, m ∈ S) → Tab F (· ∈ S) d → Tri d D → Tab F (· ∈ S) (tight S M d) ∧ Tri (tight S M d) (M.reverse ++ D)
  | [], _, _, _, T, h => ⟨T, h⟩
  | m :: M, d, D, hm, T, h => by
    have hmS := hm m List.mem_cons_self
    have e : (pairs S).foldl (relax m) d = thr d m := (pass_spec (T.diag m hmS) _).trans (part_thr T.sound m)
    have := tight_ok hs M (d := thr d m) (D := m :: D) (fun m' h' => hm m' (List.mem_cons_of_mem _ h')) (thr_tab hs T m) (thr_tri hs T h hmS)
    show Tab F (· ∈ S) (tight S M ((pairs S).foldl (relax m) d)) ∧ Tri (tight S M ((pairs S).foldl (relax m) d)) _
    rw [e, List.reverse_cons, List.append_assoc]
    exact this
/-- both tables tell the same -/
theorem tight_rounds {F : Fc α} {S : List α} {s : α → Int} (hs : Pot s F) (hF : ∀ f ∈ F, f.1 ∈ S ∧ f.2.1 ∈ S) {L : List (Op α)} (hL : ∀ f ∈ F, ∀ z, z ∈ S → (f, z) ∈ L) (hL' : ∀ o ∈ L, o.1 ∈ F) {t : Nat} (ht : S.length ≤ t + 1) :
    tight S S (layT S F) = rounds L t (diagT S) := by
  obtain ⟨T, h⟩ := tight_ok hs S (D := []) (fun _ h => h) (lay_tab hs hF) (fun k hk => nomatch hk)
  refine table_unique T.sound (tri_whole T h fun a ha => by simpa using ha) (rounds_sound (fun o ho => ⟨hL' o ho, (hF _ (hL' o ho)).1⟩) t (diag_sound S)) ?_
  exact rounds_whole hs hL (fun x hx => ⟨0, by unfold diagT; rw [if_pos ⟨rfl, hx⟩], Int.le_refl _⟩) S (fun a ha => ha) ht
end
end FB

/-! IS4: dicts whose keys are two texts and whose values are ints. -/
namespace IP
open PySem PySem.Spec PyProof.Rows L2 FA
abbrev Te := List ((Str × Str) × Int)
def kyD (k : Str × Str) : D := .tup [.str k.1, .str k.2]
def encT (es : Te) : List (D × D) := es.map fun p => (kyD p.1, .int p.2)
def lookE (es : Te) (k : Str × Str) : Option Int := (es.find? fun p => decide (p.1 = k)).map (·.2)
def putE (es : Te) (k : Str × Str) (v : Int) : Te := if (es.any fun p => decide (p.1 = k)) = true then es.map (fun p => if p.1 = k then (p.1, v) else p) else es ++ [(k, v)]
def tabE (es : Te) : FB.Tb Str := fun x y => lookE es (x, y)
theorem tupOf_ky (k : Str × Str) : tupOf (kyD k) = some [.inr k.1, .inr k.2] := rfl
theorem tupOf_eq (k k' : Str × Str) : (tupOf (kyD k) = some [.inr k'.1, .inr k'.2]) ↔ k = k' := by
  rw [tupOf_ky]
  constructor
  · intro h
    simp at h
    exact Prod.ext h.1 h.2
  · intro h
    rw [h]
theorem encT_all (es : Te) : ((encT es).all fun p => (tupOf p.1).isSome) = true := by
  unfold encT
  rw [List.all_map]
  exact List.all_eq_true.mpr fun _ _ => rfl
theorem encT_len (es : Te) : (encT es).length = es.length := by unfold encT; simp
theorem lookT_enc (es : Te) (k : Str × Str) : lookT (encT es) [.inr k.1, .inr k.2] = (lookE es k).map D.int := by
  unfold lookT lookE encT
  induction es with
  | nil => rfl
  | cons p es ih =>
    rw [List.map_cons, List.find?_cons, List.find?_cons]
    have e : decide (tupOf (kyD p.1) = some [Sum.inr k.1, Sum.inr k.2]) = decide (p.1 = k) := by
      rw [decide_eq_decide]
      exact tupOf_eq p.1 k
    show Option.map _ (match decide (tupOf (kyD p.1) = some [Sum.inr k.1, Sum.inr k.2]) with | true => _ | false => _) = _
    rw [e]
    cases decide (p.1 = k) with
    | true => rfl
    | false => exact ih
theorem dGet_enc (es : Te) (k : Str × Str) : dGet (encT es) (kyD k) = some ((lookE es k).map D.int) := by
  show (match keysOf [.str k.1, .str k.2] with | some q => if ((encT es).all fun p => (tupOf p.1).isSome) = true then some (lookT (encT es) q) else none | none => none) = _
  have e : keysOf [.str k.1, .str k.2] = some [.inr k.1, .inr k.2] := rfl
  rw [e]
  simp only [encT_all, if_true]
  rw [lookT_enc]
theorem dPut_enc (es : Te) (k : Str × Str) (v : Int) : dPut (encT es) (kyD k) (.int v) = some (encT (putE es k v)) := by
  show (match keysOf [.str k.1, .str k.2] with | some q => if ((encT es).all fun p => (tupOf p.1).isSome) = true then some (putD (encT es) (kyD k) (.int v) fun d => decide (tupOf d = some q)) else none | none => none) = _
  have e : keysOf [.str k.1, .str k.2] = some [.inr k.1, .inr k.2] := rfl
  rw [e]
  simp only [encT_all, if_true]
  congr 1
  have same : ∀ p : (Str × Str) × Int, decide (tupOf (kyD p.1) = some [Sum.inr k.1, Sum.inr k.2]) = decide (p.1 = k) := fun p => by
    rw [decide_eq_decide]
    exact tupOf_eq p.1 k
  have ha : ((encT es).any fun p => decide (tupOf p.1 = some [Sum.inr k.1, Sum.inr k.2])) = es.any fun p => decide (p.1 = k) := by
    unfold encT
    rw [List.any_map]
    congr 1
    funext p
    exact same p
  unfold putD putE
  rw [ha]
  split
  · unfold encT
    rw [List.map_map, List.map_map]
    congr 1
    funext p
    show (if decide (tupOf (kyD p.1) = some [Sum.inr k.1, Sum.inr k.2]) = true then (kyD p.1, D.int v) else (kyD p.1, D.int p.2)) = _
    rw [same p]
    by_cases h : p.1 = k
    · simp [h]
    · simp [h]
  · unfold encT
    rw [List.map_append]
    rfl
theorem lookE_put (es : Te) (k k' : Str × Str) (v : Int) : lookE (putE es k v) k' = if k' = k then some v else lookE es k' := by
  unfold putE
  split
  next h =>
    obtain ⟨p0, hp0, e0⟩ := List.any_eq_true.mp h
    have e0 := of_decide_eq_true e0
    clear h
    unfold lookE
    induction es with
    | nil => cases hp0
    | cons p es ih =>
      rw [List.map_cons, List.find?_cons, List.find?_cons]
      by_cases hk : p.1 = k
      · rw [if_pos hk]
        by_cases h2 : k' = k
        · rw [if_pos h2]
          have : decide (p.1 = k') = true := decide_eq_true (by rw [hk, h2])
          simp [this]
        · rw [if_neg h2]
          have hn : decide (p.1 = k') = false := decide_eq_false (by rw [hk]; exact fun z => h2 z.symm)
          simp only [hn]
          by_cases hm : p0 ∈ es
          · have := ih hm
            rw [if_neg h2] at this
            exact this
          · -- the rest holds no such key
            have rest : es.map (fun p => if p.1 = k then (p.1, v) else p) = es ∨ True := .inr trivial
            clear ih rest
            clear hp0 hm
            induction es with
            | nil => rfl
            | cons q es ih2 =>
              rw [List.map_cons, List.find?_cons, List.find?_cons]
              by_cases hq : q.1 = k
              · rw [if_pos hq]
                have hn2 : decide (q.1 = k') = false := decide_eq_false (by rw [hq]; exact fun z => h2 z.symm)
                simp only [hn2]
                exact ih2
              · rw [if_neg hq]
                cases decide (q.1 = k') with
                | true => rfl
                | false => exact ih2
      · rw [if_neg hk]
        have hm : p0 ∈ es := by
          rcases List.mem_cons.mp hp0 with z | z
          · rw [z] at e0; exact absurd e0 hk
          · exact z
        cases q : decide (p.1 = k') with
        | true =>
          have : p.1 = k' := of_decide_eq_true q
          rw [if_neg (by rw [← this]; exact hk)]
        | false => exact ih hm
  next h =>
    unfold lookE
    rw [List.find?_append]
    by_cases h2 : k' = k
    · rw [if_pos h2]
      have hn : es.find? (fun p => decide (p.1 = k')) = none := by
        rw [List.find?_eq_none]
        intro p hp z
        exact h (List.any_eq_true.mpr ⟨p, hp, by rw [h2] at z; exact z⟩)
      rw [hn]
      simp [h2]
    · rw [if_neg h2]
      have : ([(k, v)] : Te).find? (fun p => decide (p.1 = k')) = none := by
        rw [List.find?_eq_none]
        intro p hp z
        cases List.mem_singleton.mp hp
        exact h2 (of_decide_eq_true z).symm
      rw [this]
      simp
theorem putE_len (es : Te) (k : Str × Str) (v : Int) : (putE es k v).length ≤ es.length + 1 := by
  unfold putE
  split <;> simp
theorem putE_keys (es : Te) (k : Str × Str) (v : Int) : (putE es k v).map (·.1) = if k ∈ es.map (·.1) then es.map (·.1) else es.map (·.1) ++ [k] := by
  unfold putE
  have he : (es.any fun p => decide (p.1 = k)) = true ↔ k ∈ es.map (·.1) := by
    rw [List.any_eq_true, List.mem_map]
    exact ⟨fun ⟨p, h1, h2⟩ => ⟨p, h1, of_decide_eq_true h2⟩, fun ⟨p, h1, h2⟩ => ⟨p, h1, decide_eq_true h2⟩⟩
  by_cases h : k ∈ es.map (·.1)
  · rw [if_pos (he.mpr h), if_pos h, List.map_map]
    congr 1
    funext p
    show (if p.1 = k then (p.1, v) else p).1 = p.1
    split <;> rfl
  · rw [if_neg fun z => h (he.mp z), if_neg h, List.map_append]
    rfl
theorem nodup_len {α : Type} [DecidableEq α] : ∀ {l S : List α}, l.Nodup → (∀ a ∈ l, a ∈ S) → l.length ≤ S.length
  | [], S, _, _ => by simp
  | a :: l, S, h, hs => by
    rw [List.nodup_cons] at h
    have h1 : l.length ≤ (S.erase a).length := nodup_len h.2 fun b hb => (List.mem_erase_of_ne (fun z : b = a => h.1 (by rw [← z]; exact hb))).mpr (hs b (List.mem_cons_of_mem _ hb))
    have h2 : a ∈ S := hs a List.mem_cons_self
    rw [List.length_erase_of_mem h2] at h1
    have h3 : 0 < S.length := List.length_pos_of_mem h2
    rw [List.length_cons]
    omega
end IP

/-! IS5: loops as folds. -/
namespace IP
open PySem PySem.Spec PyProof.Rows L2 FA
/-- the wishes of a body within a loop -/
def LQ (Q : Out → Prop) (K : Env → Prop) : Out → Prop := fun o => match o with
  | .nx e => K e
  | .ct e => K e
  | .bk e => Q (.nx e)
  | .rt r => Q (.rt r)
  | .ex x e => Q (.ex x e)
theorem forGo_fold {α σ : Type} {f : D → Env → Option Env} {body : Env → MS} {Q : Out → Prop} (enc : α → D) (St : σ → Env → Prop) (stp : σ → α → σ) : ∀ (L : List α) (s : σ) (env : Env),
    (∀ a ∈ L, ∀ s env K, St s env → (∀ e, St (stp s a) e → K e) → ∃ env', f (enc a) env = some env' ∧ body env' (LQ Q K)) → St s env → (∀ e, St (L.foldl stp s) e → Q (.nx e)) → forGo f body (L.map enc) env Q
  | [], s, env, _, h, fin => fin env h
  | a :: L, s, env, hb, h, fin => by
    obtain ⟨env', e1, h1⟩ := hb a List.mem_cons_self s env (fun e => forGo f body (L.map enc) e Q) h fun e he => forGo_fold enc St stp L (stp s a) e (fun b hb' => hb b (List.mem_cons_of_mem _ hb')) he fin
    show (match f (enc a) env with | none => False | some env' => _)
    rw [e1]
    exact h1
theorem v_get_int {kv : List (D × D)} {k : D} {i : Int} : Mt.get.sem (.dct kv) [k, .int i] = (dGet kv k).map fun o => R.sh (o.getD (.int i)) := rfl
theorem v_get_str {kv : List (D × D)} {k : D} {i : Str} : Mt.get.sem (.dct kv) [k, .str i] = (dGet kv k).map fun o => R.sh (o.getD (.str i)) := rfl
theorem v_in_dct {kv : List (D × D)} {ds : List D} : inD (.tup ds) (.dct kv) = (dGet kv (.tup ds)).map (·.isSome) := rfl
theorem v_ix_dct {kv : List (D × D)} {ds : List D} : ixD (.dct kv) (.tup ds) = (match dGet kv (.tup ds) with | some (some d) => some (.sh d) | _ => none) := rfl
theorem rng_nat {n : Nat} {j : Int} (hj : j = (n : Int)) (h : n ≤ 1000000) : rngD [.int j] = some ((List.range n).map fun i : Nat => D.int (0 + (i : Int))) := by
  subst hj
  have hc : -(2 ^ 62 : Int) ≤ (n : Int) ∧ (n : Int) < 2 ^ 62 := by omega
  rw [v_rng1_, if_pos hc]
  rfl
end IP

/-! IS6: one statement at a time; the rest stays closed. -/
namespace IP
open PySem PySem.Spec PyProof.Rows L2 FA
/-- the wishes behind a statement -/
def SQ (C : Cn) (b : Sms) (Q : Out → Prop) : Out → Prop := fun o => match o with
  | .nx env => evSs C b env Q
  | o => Q o
/-- the wishes at the end of a def -/
def RQ (Q : R → Prop) (E : Xn → Prop) : Out → Prop := fun o => match o with
  | .nx _ => Q (.sh .non)
  | .rt r => Q r
  | .ex x _ => E x
  | _ => False
section
variable {C : Cn} {env : Env} {i j : Nat} {e k c : Ex} {es : Exs} {tg : Tg} {it : Iq} {b y n : Sms} {s : Sm} {Q : Out → Prop} {QR : R → Prop} {E : Xn → Prop}
theorem sq_nx : SQ C b Q (.nx env) = evSs C b env Q := rfl
theorem sq_rt {r : R} : SQ C b Q (.rt r) = Q (.rt r) := rfl
theorem sq_ex {x : Xn} : SQ C b Q (.ex x env) = Q (.ex x env) := rfl
theorem sq_bk : SQ C b Q (.bk env) = Q (.bk env) := rfl
theorem sq_ct : SQ C b Q (.ct env) = Q (.ct env) := rfl
theorem lq_nx {K : Env → Prop} : LQ Q K (.nx env) = K env := rfl
theorem lq_ct {K : Env → Prop} : LQ Q K (.ct env) = K env := rfl
theorem lq_bk {K : Env → Prop} : LQ Q K (.bk env) = Q (.nx env) := rfl
theorem lq_rt {K : Env → Prop} {r : R} : LQ Q K (.rt r) = Q (.rt r) := rfl
theorem lq_ex {K : Env → Prop} {x : Xn} : LQ Q K (.ex x env) = Q (.ex x env) := rfl
theorem rq_nx : RQ QR E (.nx env) = QR (.sh .non) := rfl
theorem rq_rt {r : R} : RQ QR E (.rt r) = QR r := rfl
theorem rq_ex {x : Xn} : RQ QR E (.ex x env) = E x := rfl
theorem st_nil (h : Q (.nx env)) : evSs C .nil env Q := h
theorem st_cons (h : evS C s env (SQ C b Q)) : evSs C (.cons s b) env Q := h
theorem st_frz (h : evSs C b (frzE i env) Q) : evSs C (.frz i b) env Q := h
theorem st_for (h : evI C it env (fun ds => forGo (evG tg) (bodyOf C b) ds env (SQ C y Q)) fun x => SQ C y Q (.ex x env)) : evSs C (.cons (.for_ tg it b) y) env Q := h
theorem sq_go (h : evSs C b env Q) : SQ C b Q (.nx env) := h
theorem body_go (h : evSs C b env Q) : bodyOf C b env Q := h
theorem run_go {N : List Str} {ds : List D} (h : evSs C b (startE N ds) (RQ QR E)) : runB N (evSs C b) ds QR E := h
end
end IP

/-! IS7: draws, comprehensions, ==, what can be shown, calls. -/
namespace IP
open PySem PySem.Spec PyProof.Rows L2 FA
section
variable {α β : Type} {C : Cn} {env : Env} {Q : R → Prop} {E : Xn → Prop} {i j : Int} {a b : Str} {ds es : List D} {d x y : D} {k l : Bool}
/-- what surely comes -/
def Tells {α : Type} (m : M α) (P : α → Prop) : Prop := ∀ Q E, (∀ a, P a → Q a) → m Q E
theorem Tells.go {m : M α} {P : α → Prop} (h : Tells m P) {Q : α → Prop} {E : Xn → Prop} (k : ∀ a, P a → Q a) : m Q E := h Q E k
theorem m_draw (n : Int) (Q : Int → Prop) (E : Xn → Prop) : M.draw n Q E = ∀ r, 0 ≤ r → r < n → Q r := rfl
theorem m_fail (Q : α → Prop) (E : Xn → Prop) : (M.fail : M α) Q E = False := rfl
theorem drw_ok {m : Int} (h0 : 0 < m) (h1 : m < 1000000) : (0 < m ∧ m.natAbs.log2 < 9000) = True := by
  refine propext ⟨fun _ => trivial, fun _ => ⟨h0, ?_⟩⟩
  have hm : m.natAbs < 2 ^ 20 := by omega
  have : m.natAbs.log2 < 20 := (Nat.log2_lt (by omega)).mpr hm
  omega
theorem rLc_app {mi : Env → M (List D)} {vs : List Nat} {f : D → Env → Option Env} {mc : Env → M Bool} {me : Env → M R} : rLc mi vs f mc me env Q E = mi env (fun ds => ds.length ≤ sizeLine ∧ lcGo (lcTurn f mc me (wipeE env vs)) ds (fun rs => Q (.ow (.lst rs))) fun _ => False) E := rfl
theorem turn_app {f : D → Env → Option Env} {mc : Env → M Bool} {me : Env → M R} {Q : Option D → Prop} : lcTurn f mc me env d Q E = M.opt (f d env) (fun env' => mc env' (fun c => if c = true then me env' (fun r => M.opt r.esc (fun d' => Q (some d')) E) E else Q none) E) E := by
  show M.opt (f d env) (fun env' => mc env' (fun c => (if c = true then (do let r ← me env'; let d' ← M.opt r.esc; pure (some d')) else pure none : M (Option D)) Q E) E) E = _
  congr 1
  funext env'
  congr 1
  funext c
  cases c <;> rfl
theorem wipe_nil : wipeE env [] = env := rfl
theorem wipe_cons {n : Nat} {vs : List Nat} : wipeE env (n :: vs) = (wipeE env vs).set n none := rfl
/-- each element for itself -/
theorem lcGo_map {f : D → M (Option D)} (enc : α → D) (g : α → Option D) : ∀ (L : List α) (Q : List D → Prop), (∀ a ∈ L, ∀ K : Option D → Prop, K (g a) → f (enc a) K E) → Q (L.filterMap g) → lcGo f (L.map enc) Q E
  | [], Q, _, h => h
  | a :: L, Q, hb, h => by
    show f (enc a) (fun r => lcGo f (L.map enc) (fun rs => Q (r.toList ++ rs)) E) E
    refine hb a List.mem_cons_self _ ?_
    refine lcGo_map enc g L _ (fun b h => hb b (List.mem_cons_of_mem _ h)) ?_
    cases q : g a with
    | none => rw [List.filterMap_cons_none q] at h; exact h
    | some d => rw [List.filterMap_cons_some q] at h; exact h
/-- each element drawn for itself -/
theorem lcGo_draw {f : D → M (Option D)} (enc : α → D) (den : β → D) (P : α → β → Prop) : ∀ (L : List α) (Q : List D → Prop), (∀ a ∈ L, ∀ K : Option D → Prop, (∀ b, P a b → K (some (den b))) → f (enc a) K E) → (∀ bs : List β, bs.length = L.length → (∀ i (h : i < L.length) (h' : i < bs.length), P L[i] bs[i]) → Q (bs.map den)) → lcGo f (L.map enc) Q E
  | [], Q, _, h => h [] rfl (fun i h => by cases h)
  | a :: L, Q, hb, h => by
    show f (enc a) (fun r => lcGo f (L.map enc) (fun rs => Q (r.toList ++ rs)) E) E
    refine hb a List.mem_cons_self _ fun b hp => ?_
    refine lcGo_draw enc den P L _ (fun b h => hb b (List.mem_cons_of_mem _ h)) fun bs hl hs => ?_
    refine h (b :: bs) (by simp [hl]) fun i h1 h2 => ?_
    cases i with
    | zero => exact hp
    | succ i => exact hs i (by simpa using h1) (by simpa using h2)
theorem x_eq_int : eqD (.int i) (.int j) = some (decide (i = j)) := by
  classical
  rw [eqD_nice rfl rfl (Nat.zero_le _)]
  congr 1
  rw [decide_eq_decide]
  constructor
  · intro h; cases h; rfl
  · intro h; rw [h]
theorem x_eq_str : eqD (.str a) (.str b) = some (decide (a = b)) := by
  classical
  rw [eqD_nice rfl rfl (Nat.zero_le _)]
  congr 1
  rw [decide_eq_decide]
  constructor
  · intro h; cases h; rfl
  · intro h; rw [h]
theorem x_eq_si : eqD (.str a) (.int i) = some false := by
  classical
  rw [eqD_nice rfl rfl (Nat.zero_le _)]
  exact congrArg some (decide_eq_false (fun h => by cases h))
theorem x_eq_is : eqD (.int i) (.str a) = some false := by
  classical
  rw [eqD_nice rfl rfl (Nat.zero_le _)]
  exact congrArg some (decide_eq_false (fun h => by cases h))
theorem x_eq_ns : eqD .non (.str a) = some false := by
  classical
  rw [eqD_nice rfl rfl (Nat.zero_le _)]
  exact congrArg some (decide_eq_false (fun h => by cases h))
theorem x_eq_sn : eqD (.str a) .non = some false := by
  classical
  rw [eqD_nice rfl rfl (Nat.zero_le _)]
  exact congrArg some (decide_eq_false (fun h => by cases h))
theorem x_ne_str : cNe (.str a) (.str b) = some (R.b (!decide (a = b))) := by
  classical
  rw [cNe_nice rfl rfl (Nat.zero_le _)]
  congr 3
  rw [decide_eq_decide]
  constructor
  · intro h; cases h; rfl
  · intro h; rw [h]
theorem x_ne_int : cNe (.int i) (.int j) = some (R.b (!decide (i = j))) := by
  classical
  rw [cNe_nice rfl rfl (Nat.zero_le _)]
  congr 3
  rw [decide_eq_decide]
  constructor
  · intro h; cases h; rfl
  · intro h; rw [h]
theorem x_eq_list {xs ys : List D} : (D.lst xs = D.lst ys) = (xs = ys) := propext ⟨fun h => by cases h; rfl, fun h => by rw [h]⟩
theorem x_mul_str {c n : Nat} (h : n ≤ 1000) : bMul (.str (txL [c])) (.int n) = some (.sh (.str (txL (List.replicate n c)))) := by
  show (if (0 : Int) ≤ n ∧ (n : Int) ≤ 1000 then some (R.sh (.str (txL (List.replicate (n : Int).toNat c)))) else none) = _
  rw [if_pos (by omega)]
  rfl
/-! ### what can be shown -/
mutual
def shw : D → Bool
  | .non => true
  | .bl _ => true
  | .int i => decide (i.natAbs.log2 < 600)
  | .str x => x.cps.toList.all fun c => decide (c < 16 ^ 8)
  | .lst xs => shws xs
  | .tup xs => shws xs
  | _ => false
def shws : List D → Bool
  | [] => true
  | x :: xs => shw x && shws xs
end
mutual
def blk : D → Nat
  | .str x => x.length
  | .lst xs => blks xs
  | .tup xs => blks xs
  | _ => 0
def blks : List D → Nat
  | [] => 0
  | x :: xs => blk x + 1 + blks xs
end
mutual
theorem shw_ok : ∀ {d : D}, shw d = true → pl d = true ∧ (toP d).plain = true ∧ (toP d).depth = depD d ∧ (toP d).showable = true ∧ (toP d).leavesShort 601 = true ∧ (toP d).bulk = blk d
  | .non, _ => ⟨rfl, rfl, rfl, rfl, rfl, rfl⟩
  | .bl _, _ => ⟨rfl, rfl, rfl, rfl, rfl, rfl⟩
  | .int i, h => by
    have h := of_decide_eq_true h
    refine ⟨rfl, rfl, rfl, decide_eq_true (by omega), decide_eq_true ?_, rfl⟩
    have e := int_text_length_le (k := 600) (by decide) h
    show (Str.ofString (toString i)).length ≤ 601
    rw [PySem.ofString_length]
    exact e
  | .str x, h => ⟨rfl, rfl, rfl, rfl, h, rfl⟩
  | .lst xs, h => by
    obtain ⟨h1, h2, h3, h4, h5, h6⟩ := shws_ok (ds := xs) h
    refine ⟨h1, ?_, ?_, ?_, ?_, ?_⟩
    · rw [toP, PyData.plain]; exact h2
    · rw [toP, PyData.depth, depD, h3]
    · rw [toP, PyData.showable]; exact h4
    · rw [toP, PyData.leavesShort]; exact h5
    · rw [toP, PyData.bulk, blk, h6]
  | .tup xs, h => by
    obtain ⟨h1, h2, h3, h4, h5, h6⟩ := shws_ok (ds := xs) h
    refine ⟨h1, ?_, ?_, ?_, ?_, ?_⟩
    · rw [toP, PyData.plain]; exact h2
    · rw [toP, PyData.depth, depD, h3]
    · rw [toP, PyData.showable]; exact h4
    · rw [toP, PyData.leavesShort]; exact h5
    · rw [toP, PyData.bulk, blk, h6]
theorem shws_ok : ∀ {ds : List D}, shws ds = true → pls ds = true ∧ PyData.plainAll (toPs ds) = true ∧ PyData.depthAll (toPs ds) = depDs ds ∧ PyData.showableAll (toPs ds) = true ∧ PyData.leavesShortAll 601 (toPs ds) = true ∧ PyData.bulkAll (toPs ds) = blks ds
  | [], _ => ⟨rfl, rfl, rfl, rfl, rfl, rfl⟩
  | x :: xs, h => by
    rw [shws, Bool.and_eq_true] at h
    obtain ⟨a1, a2, a3, a4, a5, a6⟩ := shw_ok h.1
    obtain ⟨b1, b2, b3, b4, b5, b6⟩ := shws_ok h.2
    refine ⟨?_, ?_, ?_, ?_, ?_, ?_⟩
    · rw [pls, a1, b1]; rfl
    · rw [toPs, PyData.plainAll, a2, b2]; rfl
    · rw [toPs, PyData.depthAll, depDs, a3, b3]
    · rw [toPs, PyData.showableAll, a4, b4]; rfl
    · rw [toPs, PyData.leavesShortAll, a5, b5]; rfl
    · rw [toPs, PyData.bulkAll, blks, a6, b6]
end
theorem shw_len {d : D} (h : shw d = true) (hb : blk d ≤ 25000) : (toP d).shown.length ≤ sizeLine := by
  obtain ⟨_, _, _, _, h5, h6⟩ := shw_ok h
  have := PyData.shown_le_bulk 601 (by decide) (toP d) h5
  rw [h6] at this
  rw [sizeLine_eq]
  omega
theorem eqD_self {d : D} (h : shw d = true) (hd : depD d ≤ 60) : eqD d d = some true := by
  obtain ⟨h1, h2, h3, _, _, _⟩ := shw_ok h
  unfold eqD
  rw [if_pos ⟨h1, h1, h2, h2, by rw [h3]; exact hd⟩, SeqAt.eqv_refl_plain _ h2]
theorem repr_self {d : D} (h : shw d = true) (hd : depD d ≤ 60) (hb : blk d ≤ 25000) : Bi.repr.sem [d] = some (.sh (.str (toP d).shown)) := by
  obtain ⟨h1, h2, h3, h4, _, _⟩ := shw_ok h
  show (if pl d = true ∧ (toP d).showable = true ∧ (toP d).shown.length ≤ sizeLine ∧ (toP d).depth ≤ 60 then some (R.sh (.str (toP d).shown)) else none) = _
  rw [if_pos ⟨h1, h4, shw_len h hb, by rw [h3]; exact hd⟩]
end
end IP

/-! IS8: calls into a module. -/
namespace IP
open PySem PySem.Spec PyProof.Rows L2 FA
section
variable {Mo : Md} {k : Nat} {f c m : Str} {d : Df} {ds : List D} {Q : R → Prop} {QD : D → Prop} {E : Xn → Prop} {env : Env} {a : Addr} {fs : List (Option D)}
theorem callM_def (hn : Mo.xt.lookup f = none) (h : Mo.fs.lookup f = some d) : callM (cnK Mo (k + 1)) f ds Q E = (ds.length = d.ps.length ∧ runB d.N (evSs (cnK Mo k) d.body) ds Q E) := by
  unfold callM
  rw [cnK_tab]
  have e : Mo.tab f = some d.ps := by unfold Md.tab; rw [hn, h]; rfl
  rw [e, cnK_sem hn h]
  rfl
theorem mthM_def (h : Mo.ms.lookup (c, m) = some d) : mthM (cnK Mo (k + 1)).mtab (cnK Mo (k + 1)).msem c m ds Q E = (ds.length = d.ps.length ∧ runB d.N (evSs (cnK Mo k) d.body) ds Q E) := by
  unfold mthM
  rw [cnK_mtab, h, cnK_msem h]
  rfl
theorem newM_def (h : Mo.cs.lookup c = some d) : newM (cnK Mo (k + 1)) c ds Q E = (ds.length + 1 = d.ps.length ∧ runI c d.N (evSs (cnK Mo k) d.body) ds (fun x => Q (.sh x)) E) := by
  unfold newM
  rw [cnK_ctab, h, cnK_csem h]
  rfl
theorem mtab_def (h : Mo.ms.lookup (c, m) = some d) : (cnK Mo k).mtab c m = some d.ps := by rw [cnK_mtab, h]; rfl
theorem v_insC : insC (.ins c fs) = some c := rfl
theorem v_iniC : iniC (some (some (.ini a c fs))) = some (c, fs) := rfl
theorem v_fldD {sl : Str → Option (List Str)} : fldD sl f (.ins c fs) = fldS sl f c fs := rfl
theorem v_fldI {sl : Str → Option (List Str)} : fldI sl f (some (some (.ini a c fs))) = fldS sl f c fs := rfl
theorem fldS_at {sl : Str → Option (List Str)} {ns : List Str} {i : Nat} {x : D} (h : sl c = some ns) (h1 : idxS ns f = some i) (h2 : fs[i]? = some (some x)) : fldS sl f c fs = some x := by
  unfold fldS
  rw [h]
  show (match idxS ns f with | none => none | some i => match fs[i]? with | some (some d) => some d | _ => none) = _
  rw [h1]
  show (match fs[i]? with | some (some d) => some d | _ => none) = _
  rw [h2]
theorem putI_at {sl : Str → Option (List Str)} {ns : List Str} {i : Nat} {x : D} {rest : Env} (h : sl c = some ns) (h1 : idxS ns f = some i) : putI sl f x (some (.ini a c fs) :: rest) = some (some (.ini a c (putF i x fs)) :: rest) := by
  show (match sl c with | none => none | some ns => match idxS ns f with | none => none | some i => some ((some (Sl.ini a c fs) :: rest : Env).set 0 (some (Sl.ini a c (putF i x fs))))) = _
  rw [h]
  show (match idxS ns f with | none => none | some i => some ((some (Sl.ini a c fs) :: rest : Env).set 0 (some (Sl.ini a c (putF i x fs))))) = _
  rw [h1]
  rfl
theorem slots_def {ns : List Str} (h : Mo.sl.lookup c = some ns) : (cnK Mo k).slots c = some ns := by rw [cnK_slots]; exact h
theorem gc_def {x : D} (h : Mo.gc.lookup c = some x) : (cnK Mo k).gc c = some x := by rw [cnK_gc]; exact h
theorem errs_def {ns : List Str} (h : Mo.er.lookup c = some ns) : (cnK Mo k).errs c = some ns := by rw [cnK_errs]; exact h
/-- the wishes at the end of an __init__ -/
def IQ (a : Addr) (cn : Str) (Q : D → Prop) (E : Xn → Prop) : Out → Prop := fun o => match o with
  | .nx env => ∃ fs, env[0]? = some (some (.ini a cn fs)) ∧ fs ≠ [] ∧ Q (.ins cn fs)
  | .ex x _ => E x
  | _ => False
theorem iq_nx : IQ a c QD E (.nx env) = ∃ fs, env[0]? = some (some (.ini a c fs)) ∧ fs ≠ [] ∧ QD (.ins c fs) := rfl
theorem iq_ex {x : Xn} : IQ a c QD E (.ex x env) = E x := rfl
theorem runI_go {C : Cn} {b : Sms} {N : List Str} (h : ∀ a, evSs C b (startI a c N ds) (IQ a c QD E)) : runI c N (evSs C b) ds QD E := h
theorem v_flatM {mm : M R} : flatM mm Q E = mm (fun r => flatR r = true ∧ Q r) fun x => x.args.all flatD = true ∧ E x := rfl
end
end IP

/-! IS9: loops by a word about what is done. -/
namespace IP
open PySem PySem.Spec PyProof.Rows L2 FA
theorem forGo_ind {α : Type} {f : D → Env → Option Env} {body : Env → MS} {Q : Out → Prop} (enc : α → D) (I : List α → Env → Prop) (L : List α) (env : Env)
    (hb : ∀ a done rest env K, L = done ++ a :: rest → I done env → (∀ e, I (done ++ [a]) e → K e) → ∃ env', f (enc a) env = some env' ∧ body env' (LQ Q K)) (h : I [] env) (fin : ∀ e, I L e → Q (.nx e)) : forGo f body (L.map enc) env Q := by
  have gen : ∀ (M done : List α) (env : Env), L = done ++ M → I done env → forGo f body (M.map enc) env Q := by
    intro M
    induction M with
    | nil =>
      intro done env hL h
      rw [List.append_nil] at hL
      subst hL
      exact fin env h
    | cons a M ih =>
      intro done env hL h
      obtain ⟨env', e1, h1⟩ := hb a done M env (fun e => forGo f body (M.map enc) e Q) hL h fun e he => ih (done ++ [a]) e (by rw [hL, List.append_assoc]; rfl) he
      show (match f (enc a) env with | none => False | some env' => _)
      rw [e1]
      exact h1
  exact gen L [] env rfl h
/-- for i in range(n) by a word about how many turns are done -/
theorem forGo_rng {f : D → Env → Option Env} {body : Env → MS} {Q : Out → Prop} (I : Nat → Env → Prop) (n : Nat) (env : Env)
    (hb : ∀ i env K, i < n → I i env → (∀ e, I (i + 1) e → K e) → ∃ env', f (.int (0 + (i : Int))) env = some env' ∧ body env' (LQ Q K)) (h : I 0 env) (fin : ∀ e, I n e → Q (.nx e)) : forGo f body ((List.range n).map fun i : Nat => D.int (0 + (i : Int))) env Q := by
  have gen : ∀ (m i : Nat) (env : Env), i + m = n → I i env → forGo f body ((List.range' i m).map fun i : Nat => D.int (0 + (i : Int))) env Q := by
    intro m
    induction m with
    | zero =>
      intro i env hi h
      have : i = n := by omega
      subst this
      exact fin env h
    | succ m ih =>
      intro i env hi h
      obtain ⟨env', e1, h1⟩ := hb i env (fun e => forGo f body ((List.range' (i + 1) m).map fun i : Nat => D.int (0 + (i : Int))) e Q) (by omega) h fun e he => ih (i + 1) e (by omega) he
      rw [List.range'_succ, List.map_cons]
      show (match f (.int (0 + (i : Int))) env with | none => False | some env' => _)
      rw [e1]
      exact h1
  rw [List.range_eq_range']
  exact gen n 0 env (by omega) h
theorem v_ins {xs : List D} {i : Int} {y : D} (h : xs.length < sizeLine) (h0 : 0 ≤ i) (h1 : i < 2 ^ 63) : Mu.insert.sem (.lst xs) [.int i, y] = some (.lst (xs.take i.toNat ++ [y] ++ xs.drop i.toNat), .non) := by
  show (if xs.length < sizeLine ∧ 0 ≤ i ∧ i < 2 ^ 63 then some (D.lst (xs.take i.toNat ++ [y] ++ xs.drop i.toNat), D.non) else none) = _
  rw [if_pos ⟨h, h0, h1⟩]
section
variable {C : Cn} {env : Env} {c : Ex} {y n z : Sms} {Q : Out → Prop}
/-- an if whose branches stay closed -/
theorem st_if (h : tst (evE C c) env (fun t => if t = true then bodyOf C y env (SQ C z Q) else bodyOf C n env (SQ C z Q)) fun x => SQ C z Q (.ex x env)) : evSs C (.cons (.if_ c y n) z) env Q := by
  have e : (fun t : Bool => if t = true then bodyOf C y env (SQ C z Q) else bodyOf C n env (SQ C z Q)) = fun t => (if t = true then evSs C y env else evSs C n env) (SQ C z Q) := by
    funext t
    cases t <;> rfl
  rw [e] at h
  exact h
theorem body_nil (h : Q (.nx env)) : bodyOf C .nil env Q := h
theorem body_frz {i : Nat} {b : Sms} (h : bodyOf C b (frzE i env) Q) : bodyOf C (.frz i b) env Q := h
end
end IP

/-! IE1: what the top has written, put together for ModOk. -/
namespace IP
open PySem PySem.Spec PyProof.Rows L2 FA
open PySem.W (Frag nsIn findIn typeIn keepIn codeIn hasDictIn clsIn)
theorem mk_errT {P : Program} {K : Frag} {h : Heap} {mg : Str → Option Value} {Ap C fI : Addr} {x : Str} {fs : List Str} (X : K.In h) (G : h.Ns mainGlobals mg)
    {nm q : Str} {N : Addr} {bs : List Value} {sn : List Str} {sub : List Value} {ab : Bool} {col : Option Bool} {dd : Option Addr} {m0 m1 m2 m3 m5 : Option Value}
    {oc doc pm ct : Value} {od an : Option Addr} {osl : Array (Option Value)} {cda cc : Addr} {qn : Str} {p0 a0 a1 a2 a3 a4 : Pos} {ap : List Pos} {bp : List (Pos × PP)}
    {ccl cl : Value} {cdd cld : Option Addr} {vs : Array Value} {ccs csl : Array (Option Value)} {file : Str} {tf : Tok}
    (hop : nsIn K cStatics "thirdparty.any" = some none) (zS : nsIn K mainGlobals "super" = some none)
    (top : (P.main.scope.names.lookup ("super" : Str)).isSome = false)
    (fok : ∀ f ∈ fs, fOk f = true) (nd : fs.Nodup) (line : (a2.endLine == a3.line) = true) (la : ap.length = fs.length) (lb : bp.length = fs.length)
    (hbt : ∀ (s : Shared) (x : Value) (us : List Value), us.length = fs.length → BindsTo s (PySem.W.ksFn "__init__" qn (eA p0 (fs.zip ap)) (eB a0 a1 a2 a3 a4 (fs.zip bp)) (eS fs) .none .none doc pm an (.ref cda) ct cc) ⟨x :: us, []⟩ (("self", x) :: fs.zip us))
    (aC : nsIn K mainGlobals x = some (some (.ref C)))
    (xL : K.lookup C = some (excClassObj nm q C N bs [.ref Ap, .type "ValueError", .type "Exception", .type "BaseException", .type "object"] true sn sub ab col dd m0 m1 m2 m3 m5 "ValueError.__new__"))
    (sup : PySem.W.ks_superIn K C C "__init__" = some (some (.builtin "ValueError.__init__")))
    (sa : findIn K (.ref C) "__setattr__" = some (some (.builtin "object.__setattr__"))) (ga : findIn K (.ref C) "__getattribute__" = some (some (.builtin "BaseException.__getattribute__"))) (gg : findIn K (.ref C) "__getattr__" = some none)
    (noN : ∀ f ∈ fs, findIn K (.ref C) f = some none)
    (iC : findIn K (.ref C) "__init__" = some (some (.ref fI))) (tC : typeIn K (.ref fI) = some (.type "function"))
    (l1 : K.lookup fI = some ⟨oc, od, .func (PySem.W.ksFn "__init__" qn (eA p0 (fs.zip ap)) (eB a0 a1 a2 a3 a4 (fs.zip bp)) (eS fs) .none .none doc pm an (.ref cda) ct cc), osl⟩) (c1 : codeIn K (.ref cda) qn = true)
    (kC : keepIn K (.ref C) = true) (tyC : typeIn K (.ref C) = some (.type "type")) (hdC : hasDictIn K C = true)
    (lcd : K.lookup cda = some ⟨ccl, cdd, .fields vs, ccs⟩) (hvs : vs[2]? = some (.str file tf)) (hfile : ((P.main.file : Str) == file) = true)
    (lcc : K.lookup cc = some ⟨cl, cld, .cell (some (.ref C)), csl⟩) : ErrTxt P K mg x fs C fI := by
  have hcl : clsIn K C = some { name := nm, bases := bs, mro := [.ref C, .ref Ap, .type "ValueError", .type "Exception", .type "BaseException", .type "object"], ns := N, qualname := q, hasDict := true, slotNames := sn, subclasses := sub, abstract := ab, collection := col, hasDel := false } := by unfold clsIn; rw [xL] <;> rfl
  have hm : ∀ v : Value, PySem.W.mroIn K C v = some (([.ref C, .ref Ap, .type "ValueError", .type "Exception", .type "BaseException", .type "object"] : List Value).contains v) := fun v => by
    unfold PySem.W.mroIn
    rw [hcl]
    rfl
  have exC : PySem.W.subIn K (.ref C) (.type "BaseException") = some true := (hm _).trans (by rfl)
  have xf : XfC K C := ⟨ga, gg, exC, hdC⟩
  refine ⟨PySem.W.mg_of X G aC, PySem.W.mg_none_of X G zS, ⟨nm, q, N, bs, _, sn, sub, ab, col, dd, m0, m1, m2, m3, m5, xL, by rfl⟩, sup, (hm _).trans (by rfl), (hm _).trans ?_, hop, sa, noN, iC, tC, kC, tyC, xf, fok, nd, top,
    ⟨oc, od, doc, pm, an, cda, ct, osl, cc, qn, p0, a0, a1, a2, a3, a4, ap, bp, line, la, lb, l1, c1, hbt, ⟨ccl, cdd, vs, ccs, file, tf, lcd, hvs, hfile⟩, cl, cld, csl, lcc⟩⟩
  show some ((Value.ref C == Value.ref C || _)) = some true
  rw [beq_self_eq_true]
  rfl
theorem bindsD {K : Frag} {fd : FuncData} {ps : List Str} {T : Addr} {oc : Value} {od : Option Addr} {items : Array Value} {n : Nat} {osl : Array (Option Value)} (hd : fd.defaults = .ref T) (lk : K.lookup T = some ⟨oc, od, .seq items n, osl⟩)
    (h : ∀ us : List Value, us.length = ps.length → ∃ k : Option (Array Value) → Sem (List (Str × Value)), bindArgs fd ⟨us, []⟩ = (seqItems? fd.defaults >>= k) ∧ k (some items) = pure (ps.zip us)) : Binds K fd ps [] := fun s us kin hl => by
  rw [List.append_nil] at hl ⊢
  obtain ⟨k, h1, h2⟩ := h us hl
  exact BindsTo.of_defaults hd (kin _ _ lk) rfl h1 h2
section
variable {P : Program} {w : World} {K : Frag} {h : Heap} {mg : Str → Option Value} {mx : Mx} {cl : Str → Option Addr}
theorem txt_mk {x qual : Str} {st : Stmt} {f : Addr} {d : Df} {params : Arguments} {oc dV kV doc pm cdv ct : Value} {od an : Option Addr} {osl : Array (Option Value)} (lk : K.lookup f = some ⟨oc, od, .func (PySem.W.fnOf x qual params (defBody st) (defScope st) dV kV doc pm an cdv ct), osl⟩)
    (cd : codeIn K cdv qual = true) (S : FnScope d.N d.ps (defScope st)) (ch : chSs ⟨d.N, defScope st, fun _ => true, mx⟩ d.body (defBody st) = true) (bi : Binds K (PySem.W.fnOf x qual params (defBody st) (defScope st) dV kV doc pm an cdv ct) d.ps []) :
    TxtOk K mx qual st f (PySem.W.fnOf x qual params (defBody st) (defScope st) dV kV doc pm an cdv ct) d := ⟨⟨_, _, oc, od, dV, kV, doc, pm, an, cdv, ct, osl, rfl, lk, cd⟩, S, ch, bi⟩
theorem def_mk {x qual : Str} {st : Stmt} {f : Addr} {fd : FuncData} {d : Df} (X : K.In h) (G : h.Ns mainGlobals mg) (a : nsIn K mainGlobals x = some (some (.ref f))) (kp : keepIn K (.ref f) = true) (T : TxtOk K mx qual st f fd d) : DefOk K mg mx x d :=
  ⟨qual, st, f, fd, T, PySem.W.mg_of X G a, kp⟩
theorem mth_mk {c m qual : Str} {st : Stmt} {f C : Addr} {fd : FuncData} {d : Df} (hc : cl c = some C) (sc : SlX.SCls K C) (a : findIn K (.ref C) m = some (some (.ref f))) (fn : PySem.W.isFn K (.ref f) = true) (kp : keepIn K (.ref f) = true) (T : TxtOk K mx qual st f fd d) : MthOk K cl mx c m d :=
  ⟨qual, st, f, fd, C, T, hc, sc, a, fn, kp⟩
theorem ctr_mk {c qual : Str} {st : Stmt} {f C : Addr} {fd : FuncData} {d : Df} (X : K.In h) (G : h.Ns mainGlobals mg) (hc : cl c = some C) (aC : nsIn K mainGlobals c = some (some (.ref C))) (mk : PySem.W.makesIn K C = true) (a : findIn K (.ref C) "__init__" = some (some (.ref f))) (fn : PySem.W.isFn K (.ref f) = true) (kC : keepIn K (.ref C) = true) (T : TxtOk K mx qual st f fd d) : CtrOk K mg cl mx c d :=
  ⟨qual, st, f, fd, C, T, hc, ⟨mk, a, fn, kC⟩, PySem.W.mg_of X G aC⟩
theorem gc_str {U : Ux} {x z : Str} {t : Tok} (X : K.In h) (G : h.Ns mainGlobals mg) (a : nsIn K mainGlobals x = some (some (.str z t))) : ∃ u v, mg x = some u ∧ RelV v u ∧ ∀ b c B, Dt (U.G b c) B v (.str z) :=
  ⟨_, .str z, PySem.W.mg_of X G a, ⟨t, rfl⟩, fun _ _ _ => .str z⟩
theorem gc_int {U : Ux} {x : Str} {z : Int} {t : Tok} (X : K.In h) (G : h.Ns mainGlobals mg) (a : nsIn K mainGlobals x = some (some (.int z t))) : ∃ u v, mg x = some u ∧ RelV v u ∧ ∀ b c B, Dt (U.G b c) B v (.int z) :=
  ⟨_, .int z, PySem.W.mg_of X G a, ⟨t, rfl⟩, fun _ _ _ => .int z⟩
/-- a table of finitely many: each of them for itself -/
theorem look_nil {α : Type} {Pr : Str → α → Prop} : ∀ x d, ([] : List (Str × α)).lookup x = some d → Pr x d := fun _ _ h => by cases h
theorem look_cons {α : Type} {y : Str} {e : α} {T : List (Str × α)} {Pr : Str → α → Prop} (h0 : Pr y e) (h : ∀ x d, T.lookup x = some d → Pr x d) : ∀ x d, ((y, e) :: T).lookup x = some d → Pr x d := by
  intro x d hx
  rw [List.lookup_cons] at hx
  cases q : (x == y) with
  | true =>
    rw [q] at hx
    cases hx
    rw [show x = y from by simpa using q]
    exact h0
  | false =>
    rw [q] at hx
    exact h x d hx
theorem look_nil2 {α : Type} {Pr : Str → Str → α → Prop} : ∀ c x d, ([] : List ((Str × Str) × α)).lookup (c, x) = some d → Pr c x d := fun _ _ _ h => by cases h
theorem look_cons2 {α : Type} {c y : Str} {e : α} {T : List ((Str × Str) × α)} {Pr : Str → Str → α → Prop} (h0 : Pr c y e) (h : ∀ c x d, T.lookup (c, x) = some d → Pr c x d) : ∀ c' x d, (((c, y), e) :: T).lookup (c', x) = some d → Pr c' x d := by
  intro c' x d hx
  rw [List.lookup_cons] at hx
  cases q : ((c', x) == (c, y)) with
  | true =>
    rw [q] at hx
    cases hx
    have e : (c', x) = (c, y) := by simpa using q
    cases e
    exact h0
  | false =>
    rw [q] at hx
    exact h c' x d hx
theorem slots_nil {C : Addr} {j : Nat} : ∀ i f, ([] : List Str)[i]? = some f → ∃ p, SlX.Slot1 K C f p (i + j) := fun i f h => by simp at h
theorem slots_cons {C p : Addr} {y : Str} {ns : List Str} {j : Nat} (h0 : SlX.Slot1 K C y p j) (h : ∀ i f, ns[i]? = some f → ∃ p, SlX.Slot1 K C f p (i + (j + 1))) : ∀ i f, (y :: ns)[i]? = some f → ∃ p, SlX.Slot1 K C f p (i + j) := by
  intro i f hf
  cases i with
  | zero =>
    simp at hf
    subst hf
    rw [Nat.zero_add]
    exact ⟨p, h0⟩
  | succ i =>
    have := h i f (by simpa using hf)
    rw [show i + 1 + j = i + (j + 1) by omega]
    exact this
end
end IP

namespace Kk
open PySem PySem.Spec PyProof.Rows L2 FA
def top (i : Nat) : Stmt := PySem.Challenge.pw_farapart_k64_sums_over_any_rows.main.body.getD i (.Pass ⟨0, 0, 0, 0⟩)
abbrev s_law_take : Stmt := top 30
abbrev N_law_take : List Str := ["_law_bag_here", "_law_many", "_law_cell", "_law_mixed_here", "_law_value", "_law_begin", "_law_second"]
theorem sc_law_take : FnScope N_law_take ["_law_bag_here", "_law_many"] (defScope s_law_take) := ⟨rfl, rfl, rfl, by decide +kernel, rfl, by decide +kernel, by decide +kernel⟩
section
variable {P : Program} {w : World} {K : PySem.W.Frag} {mg : Str → Option Value} {base : Heap}
theorem ok_take {f : Addr} {fd : FuncData} (F : Fun K "_law_take" "_law_take" s_law_take f fd) (T : Blt mg) : FnOk P w K mg base CX0 1 f fd ["_law_bag_here", "_law_many"] spTake := by
  refine okW F sc_law_take (fun vs H Q E h => ?_) (fun cdv A outer s H vs Q E hr h => ?_)
  · obtain ⟨b, c, m, rfl, _⟩ := h
    rfl
  obtain ⟨b, c, m, rfl, ⟨n0, n1, n2, cells, hb, hc, h0, h1, h1', h2, hl, hz⟩, hm, hm9, k⟩ := h
  have nbc : c ≠ b := ne_of hc hb (by
    intro z
    injection z with z
    have q : V.ref c ∈ cells.map V.int := by rw [z]; simp
    obtain ⟨y, _, e⟩ := List.mem_map.mp q
    cases e)
  refine wcut (ps_if (pt_cmpR op_eq (pe_ix ix_list (pv 0) pe_int (fun _ _ => rfl)) pe_int (by rfl)) pss_w pss_w)
    (fun σ' H' => ∃ x2 x3 n0 n1 n2, σ' = [some (.ref b), some (.int m), x2, x3, none, none, none] ∧ H' b = some (.lst [.int n0, .int n1, .int n2, .ref c]) ∧ H' c = some (.lst (cells.map V.int)) ∧ But b H H' ∧ 0 ≤ n0 ∧ 0 ≤ n1 ∧ n1 < 2147483647 ∧ 0 ≤ n2) ?_ ?_
  · refine ⟨_, rfl, b, _, 0, .int n0, rfl, rfl, SqL.of hb, rfl, rfl, _, rfl, ?_⟩
    refine ite2 (fun hn0 => ?_) (fun hn0 => ?_)
    · -- the next cell
      refine wss (ps_set (i := 2) sc_law_take.nd rfl (Or.inl rfl) pe_int) ?_
      refine wcut (ps_if (pt_cmpR op_lt (pe_ix ix_list (pv 0) pe_int (fun _ _ => rfl)) (pe_callB call_len_seq (by rfl) T.len PySem.boot_len (pa_cons (pe_ix ix_list (pv 0) pe_int (fun _ _ => rfl)) pa_nil)) (by rfl)) pss_w pss_w)
        (fun σ' H' => ∃ z : Int, 0 ≤ z ∧ σ' = [some (.ref b), some (.int m), some (.int z), none, none, none, none] ∧ H = H') ?_ ?_
      · refine ⟨_, rfl, b, _, 2, .int n2, rfl, rfl, SqL.of hb, rfl, _, rfl, b, _, 3, .ref c, rfl, rfl, SqL.of hb, rfl, c, _, rfl, .inl (SqL.of hc), _, _, rfl, rfl, _, rfl, ?_⟩
        refine ite2 (fun h => ?_) (fun h => ?_)
        · have hlt : n2.toNat < cells.length := by
            have := of_decide_eq_true h
            rw [List.length_map] at this
            omega
          refine wss (ps_set (i := 2) sc_law_take.nd rfl (Or.inl rfl) (pe_ix ix_list (pe_ix ix_list (pv 0) pe_int (fun _ _ => rfl)) (pe_ix ix_list (pv 0) pe_int (fun _ _ => rfl)) (fun _ _ => rfl))) ?_
          refine ⟨_, rfl, b, _, 3, .ref c, rfl, rfl, SqL.of hb, rfl, _, rfl, b, _, 2, .int n2, rfl, rfl, SqL.of hb, rfl, c, _, n2, .int cells[n2.toNat], rfl, rfl, SqL.of hc, ?_, ?_⟩
          · have e := atI_nat (xs := cells.map V.int) (j := n2.toNat) (v := .int cells[n2.toNat]) (by rw [List.getElem?_map, List.getElem?_eq_getElem hlt]; rfl)
            rw [Int.toNat_of_nonneg h2] at e
            exact e
          · exact wss_end ⟨cells[n2.toNat], hz _ (List.getElem_mem hlt), rfl, rfl⟩
        · exact wss_end ⟨0, Int.le_refl 0, rfl, rfl⟩
      · rintro σ' H' ⟨z, hz0, rfl, rfl⟩
        -- the count
        refine wss (ps_augS (pv 0) pe_int get_list pe_int ip_add set_list) ?_
        refine ⟨_, rfl, b, _, 2, .int n2, rfl, rfl, by decide, SqL.of hb, rfl, n2, 1, rfl, rfl, b, _, 2, 2, rfl, rfl, hb, rfl, ?_⟩
        -- a great cell is kept
        refine wcut (ps_if (pt_cmpR op_ge (pv 2) pe_int (by rfl)) pss_w pss_w)
          (fun σ' H' => ∃ y : Int, 0 ≤ y ∧ σ' = [some (.ref b), some (.int m), some (.int z), none, none, none, none] ∧ H' b = some (.lst [.int y, .int n1, .int (n2 + 1), .ref c]) ∧ But b H H') ?_ ?_
        · refine ⟨_, rfl, _, _, rfl, rfl, _, rfl, ?_⟩
          refine ite2 (fun _ => ?_) (fun _ => ?_)
          · refine wss (ps_asg (pv 2) (pg_sub (pv 0) pe_int set_list)) ?_
            refine ⟨_, rfl, _, rfl, b, _, 0, 0, rfl, rfl, upd_same, rfl, ?_⟩
            exact wss_end ⟨z, hz0, rfl, upd_same, But.upd.trans But.upd⟩
          · exact wss_end ⟨n0, h0, rfl, upd_same, But.upd⟩
        · rintro σ' H1 ⟨y, hy, rfl, hb1, but1⟩
          refine wss (ps_set (i := 3) sc_law_take.nd rfl (Or.inl rfl) (pe_op op_add (pe_op op_add (pe_op op_mul (pe_ix ix_list (pv 0) pe_int (fun _ _ => rfl)) pe_int) (pe_op op_mod (pe_callTy call_int1 (by rfl) T.int (by decide +kernel) (pa_cons (pv 2) pa_nil)) pe_int)) (pe_op op_mul pe_int (pe_ix ix_list (pv 0) pe_int (fun _ _ => rfl))))) ?_
          refine ⟨_, rfl, b, _, 1, .int n1, rfl, rfl, SqL.of hb1, rfl, _, _, rfl, rfl, .inl ⟨by omega, by omega⟩, _, rfl, .inl ⟨_, rfl, ?_⟩⟩
          refine ⟨_, _, rfl, rfl, (by show (0 : Int) < 2147483647; decide), _, _, rfl, rfl, _, rfl, b, _, 2, .int (n2 + 1), rfl, rfl, SqL.of hb1, rfl, _, _, rfl, rfl, .inl ⟨by decide, by decide⟩, _, _, rfl, rfl, ?_⟩
          refine wss (ps_asg (pe_op op_mod (pe_callTy call_int1 (by rfl) T.int (by decide +kernel) (pa_cons (pv 3) pa_nil)) pe_int) (pg_sub (pv 0) pe_int set_list)) ?_
          refine ⟨_, rfl, .inl ⟨_, rfl, ?_⟩⟩
          refine ⟨_, _, rfl, rfl, (by show (0 : Int) < 2147483647; decide), _, rfl, b, _, 1, 1, rfl, rfl, hb1, rfl, ?_⟩
          refine wss_end ⟨_, _, y, _, n2 + 1, rfl, upd_same, ?_, but1.trans But.upd, hy, Int.emod_nonneg _ (by decide), Int.emod_lt_of_pos _ (by decide), by omega⟩
          rw [upd_ne nbc, but1 c nbc]
          exact hc
    · exact wss_end ⟨_, _, n0, n1, n2, rfl, hb, hc, But.refl, h0, h1, h1', h2⟩
  · rintro σ' H' ⟨x2, x3, n0, n1, n2, rfl, hb', hc', but, h0, h1, h1', h2⟩
    refine wss (ps_if (pt_cmpR op_gt (pe_ix ix_list (pv 0) pe_int (fun _ _ => rfl)) pe_int (by rfl)) pss_w pss_w) ?_
    refine ⟨_, rfl, b, _, 0, .int n0, rfl, rfl, SqL.of hb', rfl, _, _, rfl, rfl, _, rfl, ?_⟩
    refine ite2 (fun hp => ?_) (fun hp => ?_)
    · refine wss (ps_set (i := 4) sc_law_take.nd rfl (Or.inl rfl) (pe_op op_mod (pe_callTy call_int1 (by rfl) T.int (by decide +kernel) (pa_cons (pe_ix ix_list (pv 0) pe_int (fun _ _ => rfl)) pa_nil)) (pv 1))) ?_
      refine ⟨_, rfl, b, _, 0, .int n0, rfl, rfl, SqL.of hb', rfl, .inl ⟨_, rfl, ?_⟩⟩
      refine ⟨_, rfl, _, _, rfl, rfl, hm, ?_⟩
      refine wss (ps_asg (pe_op op_fdivW (pe_ix ix_list (pv 0) pe_int (fun _ _ => rfl)) (pv 1)) (pg_sub (pv 0) pe_int set_list)) ?_
      refine ⟨_, rfl, b, _, 0, .int n0, rfl, rfl, SqL.of hb', rfl, _, rfl, _, _, rfl, rfl, ⟨hm, hm9⟩, _, rfl, b, _, 0, 0, rfl, rfl, hb', rfl, ?_⟩
      refine wss (ps_ret (pv 4)) ?_
      refine ⟨_, rfl, ?_⟩
      refine k _ _ (Int.emod_nonneg _ (by omega)) (Int.emod_lt_of_pos _ hm) ⟨_, _, _, cells, upd_same, ?_, ?_, h1, h1', h2, hl, hz⟩ (but.trans But.upd)
      · rw [upd_ne nbc]
        exact hc'
      · exact Int.ediv_nonneg h0 (by omega)
    · have fin : ∀ x : Int, Q (.int (x % m)) H' := fun x => k _ _ (Int.emod_nonneg _ (by omega)) (Int.emod_lt_of_pos _ hm) ⟨n0, n1, n2, cells, hb', hc', h0, h1, h1', h2, hl, hz⟩ but
      refine wss_end ?_
      refine wss (ps_set (i := 5) sc_law_take.nd rfl (Or.inl rfl) (pe_op op_mod (pe_callTy call_int1 (by rfl) T.int (by decide +kernel) (pa_cons (pe_op op_mul (pe_op op_add (pe_ix ix_list (pv 0) pe_int (fun _ _ => rfl)) pe_int) pe_int) pa_nil)) pe_int)) ?_
      refine ⟨_, rfl, b, _, 1, .int n1, rfl, rfl, SqL.of hb', rfl, _, _, rfl, rfl, _, _, rfl, rfl, .inl ⟨by omega, by omega⟩, .inl ⟨_, rfl, _, _, rfl, rfl, (by show (0 : Int) < 1000000007; decide), ?_⟩⟩
      generalize hx : (n1 + 1) * 39373 % 1000000007 = x
      have x0 : 0 ≤ x := hx ▸ Int.emod_nonneg _ (by decide)
      have x1 : x < 1000000007 := hx ▸ Int.emod_lt_of_pos _ (by decide)
      refine wss (ps_set (i := 6) sc_law_take.nd rfl (Or.inl rfl) (pe_op op_mod (pe_callTy call_int1 (by rfl) T.int (by decide +kernel) (pa_cons (pe_op op_mul (pe_op op_mod (pe_callTy call_int1 (by rfl) T.int (by decide +kernel) (pa_cons (pe_op op_mul (pv 5) (pv 5)) pa_nil)) pe_int) pe_int) pa_nil)) pe_int)) ?_
      refine ⟨_, rfl, _, rfl, _, _, rfl, rfl, .inl ⟨by omega, by omega⟩, .inl ⟨_, rfl, _, _, rfl, rfl, (by show (0 : Int) < 998244353; decide), _, _, rfl, rfl, .inr ⟨by decide, by decide⟩, .inl ⟨_, rfl, _, _, rfl, rfl, (by show (0 : Int) < 998244353; decide), ?_⟩⟩⟩
      generalize hy : x * x % 998244353 * 30011 % 998244353 = y
      refine wss (ps_if (pt_cmpR op_gt (pv 1) pe_int (by rfl)) pss_w pss_w) ?_
      refine ⟨_, rfl, _, _, rfl, rfl, _, rfl, ?_⟩
      refine ite2 (fun hp => ?_) (fun hp => ?_)
      · refine wss (ps_ret (pe_op op_mod (pe_callTy call_int1 (by rfl) T.int (by decide +kernel) (pa_cons (pe_op op_add (pe_op op_mul (pv 6) pe_int) (pv 5)) pa_nil)) (pv 1))) ?_
        exact ⟨_, rfl, _, _, rfl, rfl, .inr ⟨by decide, by decide⟩, _, rfl, _, _, rfl, rfl, .inl ⟨_, rfl, _, rfl, _, _, rfl, rfl, hm, fin _⟩⟩
      · refine wss_end ?_
        refine wss (ps_ret (pe_op op_mod (pe_callTy call_int1 (by rfl) T.int (by decide +kernel) (pa_cons (pe_op op_fdivW (pv 6) pe_int) pa_nil)) (pv 1))) ?_
        exact ⟨_, rfl, _, _, rfl, rfl, ⟨by decide, by decide⟩, .inl ⟨_, rfl, _, rfl, _, _, rfl, rfl, hm, fin _⟩⟩
end
end Kk

namespace Kk
open PySem PySem.Spec PyProof.Rows L2 FA
section
variable {P : Program} {w : World} {K : PySem.W.Frag} {mg : Str → Option Value} {base : Heap}
abbrev s_law_alike : Stmt := top 31
abbrev N_law_alike : List Str := ["_law_found", "_law_due"]
theorem sc_law_alike : FnScope N_law_alike ["_law_found", "_law_due"] (defScope s_law_alike) := ⟨rfl, rfl, rfl, by decide +kernel, rfl, by decide +kernel, by decide +kernel⟩
/-- two values that stand for the same datum, dicts within -/
def spAlikeD (K : PySem.W.Frag) : Sp := fun vs H Q _ => ∃ v u d, vs = [v, u] ∧ Dt K H v d ∧ Dt K H u d ∧ d.showable = true ∧ d.shown.length ≤ sizeLine ∧ d.depth ≤ 30 ∧ noT d = true ∧ Q (.bl true) H
theorem ok_law_alike {f : Addr} {fd : FuncData} (F : Fun K "_law_alike" "_law_alike" s_law_alike f fd) (T : Blt mg) : FnG P w K mg base CX0 1 f fd ["_law_found", "_law_due"] (spAlikeD K) := by
  refine okG F sc_law_alike (fun vs H Q E h => ?_) (fun cdv A outer s H vs Q E hr hG h => ?_)
  · obtain ⟨v, u, d, rfl, _⟩ := h
    rfl
  obtain ⟨v, u, d, rfl, hv, hu, h1, h2, h3, h4, q⟩ := h
  refine wss (ps_ret (pe_and (pe_cmpR (op_eqS hr.units) (pv 0) (pv 1) (by rfl)) (pe_one (pe_cmpR op_eq (pe_callB (call_reprD hG hr.units) (by rfl) T.repr (by decide +kernel) (pa_cons (pv 0) pa_nil)) (pe_callB (call_reprD hG hr.units) (by rfl) T.repr (by decide +kernel) (pa_cons (pv 1) pa_nil)) (by rfl))))) ?_
  refine ⟨_, rfl, _, rfl, d, hv, hu, h4, by omega, _, rfl, ?_⟩
  refine iteT ⟨_, rfl, _, d, rfl, hv, h1, h2, by omega, _, rfl, _, d, rfl, hu, h1, h2, by omega, rfl, ?_⟩
  rw [decide_eq_true rfl]
  exact q
abbrev s_law_bag : Stmt := top 29
abbrev N_law_bag : List Str := ["_law_script", "_law_cell"]
theorem sc_law_bag : FnScope N_law_bag ["_law_script"] (defScope s_law_bag) := ⟨rfl, rfl, rfl, by decide +kernel, rfl, by decide +kernel, by decide +kernel⟩
def spBag (K : PySem.W.Frag) : Sp := fun vs H Q _ => ∃ (a : Addr) (ns : List Int), vs = [.ref a] ∧ SqL K H a (ns.map V.int) ∧ ns.length ≤ 63 ∧ ∀ (b c : Addr) (H' : Hp), H b = none → BagAt H' b c → Same H H' → Q (.ref b) H'
def absI (i : Int) : Int := if i < 0 then -i else i
theorem ok_law_bag {f : Addr} {fd : FuncData} (F : Fun K "_law_bag" "_law_bag" s_law_bag f fd) (T : Blt mg) : FnG P w K mg base CX0 1 f fd ["_law_script"] (spBag K) := by
  refine okG F sc_law_bag (fun vs H Q E h => ?_) (fun cdv A outer s H vs Q E hr hG h => ?_)
  · obtain ⟨a, ns, rfl, _⟩ := h
    rfl
  obtain ⟨a, ns, rfl, hS, hl, k⟩ := h
  refine wss (ps_ret (pe_lst (pa_cons pe_int (pa_cons pe_int (pa_cons pe_int (pa_cons (pe_lc (own := [("_law_cell", 1)]) (g := (gName 1)) (by rfl) sc_law_bag.nd (pi_list (pe_slice sl_list (pv 0) po_none (po_some pe_int))) (blkOk_by (own := [("_law_cell", 1)]) (N := N_law_bag) (sc := defScope s_law_bag) (by decide +kernel)) (fun _ _ _ _ _ => (pg_name (i := 1) sc_law_bag.nd rfl (Or.inl rfl))) (fun _ _ _ _ _ => pts_nil) (fun _ _ _ _ _ => (pe_callB call_abs (by rfl) T.abs (by decide +kernel) (pa_cons (pv 1) pa_nil)))) pa_nil)))))) ?_
  refine ⟨_, rfl, _, rfl, a, _, rfl, hS, fun p hp => ?_⟩
  rw [show cutV (ns.map V.int) none (some 63) = (ns.map V.int).take 63 from cutV_to (a := 63), List.take_of_length_le (by rw [List.length_map]; exact hl)]
  have s1 := same_new (o := .lst (ns.map V.int)) hp
  have ep := (upd_same : upd H p (.lst (ns.map V.int)) p = _)
  generalize upd H p (.lst (ns.map V.int)) = H1 at s1 ep ⊢
  refine ⟨p, rfl, ⟨_, SqL.of ep⟩, fun D hD => lc_list (K := K) (a := p) (xs := ns.map V.int) (fun i H' => H' = upd H1 D (.lst (((ns.take i).map absI).map V.int))) rfl ?_ ?_ ?_⟩
  · rintro i _ hi rfl
    exact SqL.of (by rw [upd_ne (ne_of_none ep hD)]; exact ep)
  · rintro i y _ hi rfl
    obtain ⟨z, hz, rfl⟩ : ∃ z, ns[i]? = some z ∧ y = V.int z := by
      rw [List.getElem?_map] at hi
      cases e : ns[i]? with
      | none =>
        rw [e] at hi
        cases hi
      | some z =>
        rw [e] at hi
        exact ⟨z, rfl, (Option.some.inj hi).symm⟩
    refine ⟨rfl, _, rfl, _, rfl, _, upd_same, sz5' ?_, ?_⟩
    · rw [List.length_map, List.length_map, List.length_take]
      omega
    · rw [upd_upd, map_take_succ hz, List.map_append]
      rfl
  · rintro _ rfl
    rw [List.length_map, List.take_length]
    refine ⟨(by show 4 ≤ sizeLine; decide), fun q hq => ?_⟩
    have s2 := same_new (o := .lst ((ns.map absI).map V.int)) hD
    have nDq : D ≠ q := fun z => by rw [← z, upd_same] at hq; cases hq
    refine k q D _ ((s1.trans s2).free hq) ⟨0, 1234567891, 0, ns.map absI, upd_same, by rw [upd_ne nDq, upd_same], by decide, by decide, by decide, by decide, by rw [List.length_map]; exact hl, ?_⟩ ((s1.trans s2).trans (same_new hq))
    intro z hz
    obtain ⟨y, _, rfl⟩ := List.mem_map.mp hz
    unfold absI
    split <;> omega
end
end Kk

namespace Kt
open PySem PySem.Spec PyProof.Rows L2 FA IP
def top (i : Nat) : Stmt := PySem.Challenge.pw_farapart_k64_sums_over_any_rows.main.body.getD i (.Pass ⟨0, 0, 0, 0⟩)
def clsB (s : Stmt) : List Stmt := match s with
  | .ClassDef _ _ _ b _ _ _ _ _ _ _ => b
  | _ => []
def mth (i j : Nat) : Stmt := (clsB (top i)).getD j (.Pass ⟨0, 0, 0, 0⟩)
def nn_plus : List Str := ["one", "other"]
def b_plus : Sms := (.cons (.ret (.ite (.cmp .In (.gc "ENDLESS_links") (.tup (.cons (.var 0) (.cons (.var 1) .nil)))) (.gc "ENDLESS_links") (.bin .Add (.var 0) (.var 1))))
 .nil)
def t_plus : Df := ⟨["one", "other"], nn_plus, b_plus⟩
def nn_greater : List Str := ["one", "other"]
def b_greater : Sms := (.cons (.if_ (.or (.cmp .Is (.var 0) .non) (.cmp .Eq (.var 1) (.gc "ENDLESS_links")))
 (.cons (.retV 1)
 .nil)
 .nil)
 (.cons (.if_ (.or (.cmp .Is (.var 1) .non) (.cmp .Eq (.var 0) (.gc "ENDLESS_links")))
 (.cons (.retV 0)
 .nil)
 .nil)
 (.cons (.ret (.bi .max (.cons (.var 0) (.cons (.var 1) .nil))))
 .nil)))
def t_greater : Df := ⟨["one", "other"], nn_greater, b_greater⟩
def nn_known : List Str := ["facts", "rows", "spot", "found", "name", "place", "u", "v", "s", "t", "value"]
def b_known : Sms := (.cons (.set 3 .non)
 (.cons (.for_ (.tp (.cons (.nm 4) (.cons (.nm 5) (.cons (.nm 6) (.cons (.nm 7) (.cons (.nm 8) (.cons (.nm 9) (.cons (.nm 10) .nil)))))))) (.any (.var 1))
 (.cons (.if_ (.cmp .Eq (.tup (.cons (.var 4) (.cons (.var 5) (.cons (.var 6) (.cons (.var 7) .nil))))) (.bi .tuple (.cons (.var 2) .nil)))
 (.frz 3 (.cons (.set 3 (.call "greater" (.cons (.var 3) (.cons (.call "plus" (.cons (.var 10) (.cons (.meth (.var 0) "greatest" (.cons (.var 8) (.cons (.var 9) .nil))) .nil))) .nil))))
 .nil))
 .nil)
 .nil))
 (.cons (.retV 3)
 .nil)))
def t_known : Df := ⟨["facts", "rows", "spot"], nn_known, b_known⟩
def nn_is_integer : List Str := ["thing"]
def b_is_integer : Sms := (.cons (.ret (.and (.isi (.var 0) ["int"]) (.not (.isi (.var 0) ["bool"]))))
 .nil)
def t_is_integer : Df := ⟨["thing"], nn_is_integer, b_is_integer⟩
def nn_is_name : List Str := ["thing", "sign"]
def b_is_name : Sms := (.cons (.if_ (.or (.not (.isi (.var 0) ["str"])) (.not (.cmp2 .LtE .LtE (.int 1) (.bi .len (.cons (.var 0) .nil)) (.gc "LONGEST"))))
 (.cons (.ret (.bl false))
 .nil)
 .nil)
 (.cons (.ret (.bi .all (.cons (.lc (.cmp .In (.var 1) (.gc "LETTERS")) (.nm 1) (.any (.var 0)) .none [("sign", 1)]) .nil)))
 .nil))
def t_is_name : Df := ⟨["thing"], nn_is_name, b_is_name⟩
def nn_is_source : List Str := ["thing"]
def b_is_source : Sms := (.cons (.ret (.and (.isi (.var 0) ["str"]) (.or (.cmp .Eq (.var 0) (.gc "ZERO")) (.call "is_name" (.cons (.var 0) .nil)))))
 .nil)
def t_is_source : Df := ⟨["thing"], nn_is_source, b_is_source⟩
def nn_are_different : List Str := ["things"]
def b_are_different : Sms := (.cons (.ret (.cmp .Eq (.lenSet (.var 0)) (.bi .len (.cons (.var 0) .nil))))
 .nil)
def t_are_different : Df := ⟨["things"], nn_are_different, b_are_different⟩
def nn_are_names : List Str := ["thing", "one"]
def b_are_names : Sms := (.cons (.if_ (.or (.not (.isi (.var 0) ["list", "tuple"])) (.not (.bi .all (.cons (.lc (.call "is_name" (.cons (.var 1) .nil)) (.nm 1) (.any (.var 0)) .none [("one", 1)]) .nil))))
 (.cons (.ret (.bl false))
 .nil)
 .nil)
 (.cons (.ret (.call "are_different" (.cons (.var 0) .nil)))
 .nil))
def t_are_names : Df := ⟨["thing"], nn_are_names, b_are_names⟩
def nn_is_fact : List Str := ["thing"]
def b_is_fact : Sms := (.cons (.if_ (.or (.not (.isi (.var 0) ["tuple"])) (.or (.cmp .NotEq (.bi .len (.cons (.var 0) .nil)) (.int 3)) (.not (.call "is_integer" (.cons (.ix (.var 0) (.int 2)) .nil)))))
 (.cons (.ret (.bl false))
 .nil)
 .nil)
 (.cons (.ret (.and (.call "is_source" (.cons (.ix (.var 0) (.int 0)) .nil)) (.call "is_source" (.cons (.ix (.var 0) (.int 1)) .nil))))
 .nil))
def t_is_fact : Df := ⟨["thing"], nn_is_fact, b_is_fact⟩
def nn_are_facts : List Str := ["thing", "one"]
def b_are_facts : Sms := (.cons (.ret (.and (.isi (.var 0) ["list", "tuple"]) (.bi .all (.cons (.lc (.call "is_fact" (.cons (.var 1) .nil)) (.nm 1) (.any (.var 0)) .none [("one", 1)]) .nil))))
 .nil)
def t_are_facts : Df := ⟨["thing"], nn_are_facts, b_are_facts⟩
def nn_tightest : List Str := ["sources", "facts", "known", "one", "middle", "x", "y", "most", "through"]
def b_tightest : Sms := (.cons (.set 2 .dct0)
 (.cons (.for_ (.nm 3) (.any (.var 0))
 (.cons (.put 2 (.tup (.cons (.var 3) (.cons (.var 3) .nil))) (.int 0))
 .nil))
 (.cons (.for_ (.tp (.cons (.nm 5) (.cons (.nm 6) (.cons (.nm 7) .nil)))) (.any (.var 1))
 (.cons (.put 2 (.tup (.cons (.var 5) (.cons (.var 6) .nil))) (.bi .min (.cons (.mth .get (.var 2) (.cons (.tup (.cons (.var 5) (.cons (.var 6) .nil))) (.cons (.var 7) .nil))) (.cons (.var 7) .nil))))
 .nil))
 (.cons (.for_ (.nm 4) (.any (.var 0))
 (.cons (.for_ (.nm 5) (.any (.var 0))
 (.cons (.for_ (.nm 6) (.any (.var 0))
 (.cons (.if_ (.and (.cmp .In (.tup (.cons (.var 5) (.cons (.var 4) .nil))) (.var 2)) (.cmp .In (.tup (.cons (.var 4) (.cons (.var 6) .nil))) (.var 2)))
 (.cons (.set 8 (.bin .Add (.ix (.var 2) (.tup (.cons (.var 5) (.cons (.var 4) .nil)))) (.ix (.var 2) (.tup (.cons (.var 4) (.cons (.var 6) .nil))))))
 (.cons (.put 2 (.tup (.cons (.var 5) (.cons (.var 6) .nil))) (.bi .min (.cons (.mth .get (.var 2) (.cons (.tup (.cons (.var 5) (.cons (.var 6) .nil))) (.cons (.var 8) .nil))) (.cons (.var 8) .nil))))
 .nil))
 .nil)
 .nil))
 .nil))
 .nil))
 (.cons (.retV 2)
 .nil)))))
def t_tightest : Df := ⟨["sources", "facts"], nn_tightest, b_tightest⟩
def nn_law_alike : List Str := ["_law_found", "_law_due"]
def b_law_alike : Sms := (.cons (.ret (.and (.cmp .Eq (.var 0) (.var 1)) (.cmp .Eq (.bi .repr (.cons (.var 0) .nil)) (.bi .repr (.cons (.var 1) .nil)))))
 .nil)
def t_law_alike : Df := ⟨["_law_found", "_law_due"], nn_law_alike, b_law_alike⟩
def nn_law_mixed : List Str := ["_law_bag_here", "_law_things", "_law_found", "_law_thing"]
def b_law_mixed : Sms := (.cons (.set 2 (.lst .nil))
 (.cons (.for_ (.nm 3) (.any (.var 1))
 (.cons (.mut .insert 2 (.cons (.draw "_law_take" (.var 0) (.bin .Add (.bi .len (.cons (.var 2) .nil)) (.int 1))) (.cons (.var 3) .nil)))
 .nil))
 (.cons (.retV 2)
 .nil)))
def t_law_mixed : Df := ⟨["_law_bag_here", "_law_things"], nn_law_mixed, b_law_mixed⟩
def nn_law_names : List Str := ["_law_bag_here", "_law_many", "_law_letters", "_law_words", "_law_base", "_law_at", "_law_style", "_law_turn", "_law_k"]
def b_law_names : Sms := (.cons (.set 2 (.str "abcdefghijklmnopqrstuvwxyz"))
 (.cons (.set 3 (.str "set most least call skip run part steps first names params results places plain high"))
 (.cons (.set 3 (.mth .split (.bin .Add (.var 3) (.str " low proc wide endless never a b ab ba z")) (.cons (.str " ") .nil)))
 (.cons (.par [6, 7] (.cons (.draw "_law_take" (.var 0) (.int 4)) (.cons (.draw "_law_take" (.var 0) (.int 20)) .nil)))
 (.cons (.set 4 (.mth .join (.str "") (.cons (.lc (.ix (.var 2) (.draw "_law_take" (.var 0) (.int 26))) (.nm 8) (.rng1 (.bin .Add (.int 1) (.draw "_law_take" (.var 0) (.int 7)))) .none [("_law_k", 8)]) .nil)))
 (.cons (.set 5 (.draw "_law_take" (.var 0) (.bin .Add (.bi .len (.cons (.var 4) .nil)) (.int 1))))
 (.cons (.if_ (.cmp .Eq (.var 6) (.int 0))
 (.cons (.ret (.sl (.bin .Add (.sl (.var 3) (.some (.var 7)) .none) (.sl (.var 3) .none (.some (.var 7)))) .none (.some (.var 1))))
 .nil)
 .nil)
 (.cons (.if_ (.cmp .Eq (.var 6) (.int 1))
 (.cons (.ret (.lc (.ix (.var 2) (.bin .Mod (.bi .int (.cons (.bin .Add (.var 7) (.bin .Mult (.int 3) (.var 8))) .nil)) (.int 26))) (.nm 8) (.rng1 (.var 1)) .none [("_law_k", 8)]))
 .nil)
 .nil)
 (.cons (.ret (.lc (.bin .Add (.bin .Add (.sl (.var 4) .none (.some (.var 5))) (.ix (.var 2) (.bin .Mod (.bi .int (.cons (.bin .Add (.var 7) (.bin .Mult (.int 3) (.var 8))) .nil)) (.int 26)))) (.sl (.var 4) (.some (.var 5)) .none)) (.nm 8) (.rng1 (.var 1)) .none [("_law_k", 8)]))
 .nil)))))))))
def t_law_names : Df := ⟨["_law_bag_here", "_law_many"], nn_law_names, b_law_names⟩
def nn_law_number : List Str := ["_law_bag_here", "_law_wide"]
def b_law_number : Sms := (.cons (.if_ (.cmp .Eq (.draw "_law_take" (.var 0) (.int 12)) (.int 0))
 (.cons (.set 1 (.bin .Sub (.bi .int (.cons (.bin .Add (.str "1") (.bin .Mult (.str "0") (.bin .Add (.int 1) (.draw "_law_take" (.var 0) (.int 38))))) .nil)) (.draw "_law_take" (.var 0) (.int 2))))
 (.frz 1 (.cons (.ret (.ite (.cmp .Eq (.draw "_law_take" (.var 0) (.int 2)) (.int 0)) (.var 1) (.neg (.var 1))))
 .nil)))
 .nil)
 (.cons (.ret (.bin .Sub (.draw "_law_take" (.var 0) (.int 9)) (.int 4)))
 .nil))
def t_law_number : Df := ⟨["_law_bag_here"], nn_law_number, b_law_number⟩
def nn_law_facts : List Str := ["_law_bag_here", "_law_names_here", "_law_start", "_law_k", "_law_sources", "_law_found", "_law_x", "_law_y", "_law_name"]
def b_law_facts : Sms := (.cons (.par [4, 5] (.cons (.bin .Add (.lst (.cons (.str "") .nil)) (.bi .list (.cons (.var 1) .nil))) (.cons (.lst .nil) .nil)))
 (.cons (.set 2 (.bin .Add (.lst (.cons (.int 0) .nil)) (.lc (.call "_law_number" (.cons (.var 0) .nil)) (.nm 8) (.any (.var 1)) .none [("_law_name", 8)])))
 (.cons (.for_ (.nm 3) (.rng1 (.draw "_law_take" (.var 0) (.int 4)))
 (.cons (.par [6, 7] (.cons (.draw "_law_take" (.var 0) (.bi .len (.cons (.var 4) .nil))) (.cons (.draw "_law_take" (.var 0) (.bi .len (.cons (.var 4) .nil))) .nil)))
 (.cons (.mut .append 5 (.cons (.tup (.cons (.ix (.var 4) (.var 6)) (.cons (.ix (.var 4) (.var 7)) (.cons (.bin .Add (.bin .Sub (.ix (.var 2) (.var 6)) (.ix (.var 2) (.var 7))) (.draw "_law_take" (.var 0) (.int 4))) .nil)))) .nil))
 .nil)))
 (.cons (.retV 5)
 .nil))))
def t_law_facts : Df := ⟨["_law_bag_here", "_law_names_here"], nn_law_facts, b_law_facts⟩
def nn_law_closed : List Str := ["_law_names_here", "_law_facts_here", "_law_bound", "_law_one", "_law_turn", "_law_x", "_law_y", "_law_c", "_law_passed"]
def b_law_closed : Sms := (.cons (.set 2 .dct0)
 (.cons (.for_ (.nm 3) (.any (.bin .Add (.lst (.cons (.str "") .nil)) (.bi .list (.cons (.var 0) .nil))))
 (.cons (.put 2 (.tup (.cons (.var 3) (.cons (.var 3) .nil))) (.int 0))
 .nil))
 (.cons (.for_ (.nm 4) (.rng1 (.bin .Add (.bi .len (.cons (.var 0) .nil)) (.int 2)))
 (.cons (.for_ (.tp (.cons (.nm 5) (.cons (.nm 6) (.cons (.nm 7) .nil)))) (.any (.var 1))
 (.cons (.for_ (.nm 3) (.any (.bin .Add (.lst (.cons (.str "") .nil)) (.bi .list (.cons (.var 0) .nil))))
 (.cons (.set 8 (.ite (.cmp .In (.tup (.cons (.var 6) (.cons (.var 3) .nil))) (.var 2)) (.bin .Add (.ix (.var 2) (.tup (.cons (.var 6) (.cons (.var 3) .nil)))) (.var 7)) .non))
 (.cons (.if_ (.and (.cmp .IsNot (.var 8) .non) (.or (.cmp .NotIn (.tup (.cons (.var 5) (.cons (.var 3) .nil))) (.var 2)) (.cmp .Gt (.ix (.var 2) (.tup (.cons (.var 5) (.cons (.var 3) .nil)))) (.var 8))))
 (.frz 8 (.cons (.put 2 (.tup (.cons (.var 5) (.cons (.var 3) .nil))) (.var 8))
 .nil))
 .nil)
 .nil)))
 .nil))
 .nil))
 (.cons (.retV 2)
 .nil))))
def t_law_closed : Df := ⟨["_law_names_here", "_law_facts_here"], nn_law_closed, b_law_closed⟩
def nn_law_sum : List Str := ["_law_one", "_law_other"]
def b_law_sum : Sms := (.cons (.ret (.ite (.cmp .In (.str "endless") (.tup (.cons (.var 0) (.cons (.var 1) .nil)))) (.str "endless") (.bin .Add (.var 0) (.var 1))))
 .nil)
def t_law_sum : Df := ⟨["_law_one", "_law_other"], nn_law_sum, b_law_sum⟩
def nn_law : List Str := ["_law_script", "_law_bag_here", "_law_turn", "_law_params", "_law_k", "_law_handed", "_law_spot", "_law_told", "_law_rows", "_law_facts_here", "_law_closed_here", "_law_sources", "_law_worth", "_law_pair", "_law_some", "_law_sums", "_law_due", "_law_again", "_law_row", "_law_j"]
def b_law : Sms := (.cons (.for_ (.nm 2) (.rng1 (.int 6))
 (.frz 1 (.cons (.set 3 (.sl (.call "_law_names" (.cons (.var 1) (.cons (.int 2) .nil))) .none (.some (.draw "_law_take" (.var 1) (.int 3)))))
 (.frz 3 (.frz 1 (.cons (.par [7, 8] (.cons (.call "_law_facts" (.cons (.var 1) (.cons (.var 3) .nil))) (.cons (.lst .nil) .nil)))
 (.frz 7 (.frz 3 (.cons (.par [9, 10, 11] (.cons (.new "Facts" (.cons (.var 3) (.cons (.var 7) .nil))) (.cons (.call "_law_closed" (.cons (.var 3) (.cons (.var 7) .nil))) (.cons (.bin .Add (.lst (.cons (.str "") .nil)) (.var 3)) .nil))))
 (.frz 1 (.cons (.for_ (.nm 4) (.rng1 (.draw "_law_take" (.var 1) (.int 9)))
 (.frz 1 (.cons (.set 12 (.ite (.cmp .Eq (.draw "_law_take" (.var 1) (.int 6)) (.int 0)) (.str "endless") (.call "_law_number" (.cons (.var 1) .nil))))
 (.frz 1 (.cons (.set 6 (.tup (.cons (.ix (.lst (.cons (.str "p") (.cons (.str "q") .nil))) (.draw "_law_take" (.var 1) (.int 2))) (.cons (.draw "_law_take" (.var 1) (.int 2)) (.cons (.ix (.lst (.cons (.str "") (.cons (.str "x") .nil))) (.draw "_law_take" (.var 1) (.int 2))) (.cons (.str "y") .nil))))))
 (.frz 1 (.cons (.set 13 (.bi .tuple (.cons (.lc (.ix (.var 11) (.draw "_law_take" (.var 1) (.bi .len (.cons (.var 11) .nil)))) (.nm 19) (.rng1 (.int 2)) .none [("_law_j", 19)]) .nil)))
 (.cons (.if_ (.cmp .Eq (.lc (.var 18) (.nm 18) (.any (.var 8)) (.some (.cmp .Eq (.sl (.var 18) .none (.some (.int 6))) (.bin .Add (.var 6) (.var 13)))) [("_law_row", 18)]) (.lst .nil))
 (.frz 12 (.cons (.mut .append 8 (.cons (.bin .Add (.bin .Add (.var 6) (.var 13)) (.tup (.cons (.var 12) .nil))) .nil))
 .nil))
 .nil)
 .nil))))))))
 (.cons (.set 5 (.bi .list (.cons (.var 8) .nil)))
 (.cons (.for_ (.nm 6) (.any (.lst (.cons (.tup (.cons (.str "p") (.cons (.int 0) (.cons (.str "") (.cons (.str "y") .nil))))) (.cons (.tup (.cons (.str "q") (.cons (.int 1) (.cons (.str "x") (.cons (.str "y") .nil))))) (.cons (.tup (.cons (.str "p") (.cons (.int 1) (.cons (.str "x") (.cons (.str "y") .nil))))) (.cons (.tup (.cons (.str "q") (.cons (.int 0) (.cons (.str "") (.cons (.str "y") .nil))))) (.cons (.tup (.cons (.str "p") (.cons (.int 0) (.cons (.str "y") (.cons (.str "") .nil))))) .nil)))))))
 (.cons (.setLc 14 (.var 18) (.nm 18) (.any (.var 8)) (.some (.cmp .Eq (.sl (.var 18) .none (.some (.int 4))) (.var 6))) [("_law_row", 18)])
 (.cons (.setLc 15 (.call "_law_sum" (.cons (.ix (.var 18) (.int 6)) (.cons (.mth .get (.var 10) (.cons (.sl (.var 18) (.some (.int 4)) (.some (.int 6))) (.cons (.str "endless") .nil))) .nil))) (.nm 18) (.any (.var 14)) .none [("_law_row", 18)])
 (.cons (.set 16 (.ite (.cmp .Eq (.var 15) (.lst .nil)) .non (.ite (.cmp .In (.str "endless") (.var 15)) (.str "endless") (.bi .max (.cons (.var 15) .nil)))))
 (.cons (.for_ (.nm 17) (.rng1 (.int 2))
 (.frz 16 (.frz 9 (.frz 6 (.frz 5 (.cons (.if_ (.or (.not (.call "_law_alike" (.cons (.call "known" (.cons (.var 9) (.cons (.var 5) (.cons (.var 6) .nil)))) (.cons (.var 16) .nil)))) (.cmp .NotEq (.var 5) (.var 8)))
 (.cons (.ret (.bl false))
 .nil)
 .nil)
 (.frz 5 (.frz 1 (.cons (.set 5 (.call "_law_mixed" (.cons (.var 1) (.cons (.var 5) .nil))))
 (.cons (.set 8 (.bi .list (.cons (.var 5) .nil)))
 .nil))))))))))
 .nil)))))
 .nil)))))))))))))
 (.cons (.ret (.bl true))
 .nil))
def nn_Facts_init : List Str := ["self", "names", "facts", "x", "y", "most", "one"]
def b_Facts_init : Sms := (.cons (.if_ (.not (.call "are_names" (.cons (.var 1) .nil)))
 (.cons (.raise_ "Wrong" (.cons (.int 0) .nil))
 .nil)
 .nil)
 (.cons (.if_ (.not (.call "are_facts" (.cons (.var 2) .nil)))
 (.cons (.raise_ "Wrong" (.cons (.int 1) .nil))
 .nil)
 .nil)
 (.cons (.fset "held_names" (.bi .tuple (.cons (.bi .sorted (.cons (.var 1) .nil)) .nil)))
 (.cons (.for_ (.tp (.cons (.nm 3) (.cons (.nm 4) (.cons (.nm 5) .nil)))) (.any (.var 2))
 (.cons (.expr (.methI "need" (.cons (.var 3) (.cons (.var 4) .nil))))
 .nil))
 (.cons (.fset "held_bounds" (.call "tightest" (.cons (.methI "sources" .nil) (.cons (.var 2) .nil))))
 (.cons (.if_ (.not (.bi .all (.cons (.lc (.cmp .Eq (.ix (.fldI "held_bounds") (.tup (.cons (.var 6) (.cons (.var 6) .nil)))) (.int 0)) (.nm 6) (.any (.methI "sources" .nil)) .none [("one", 6)]) .nil)))
 (.cons (.raise0 "NoStart")
 .nil)
 .nil)
 .nil))))))
def t_Facts_init : Df := ⟨["self", "names", "facts"], nn_Facts_init, b_Facts_init⟩
def nn_Facts_names : List Str := ["self"]
def b_Facts_names : Sms := (.cons (.ret (.bi .list (.cons (.fld (.var 0) "held_names") .nil)))
 .nil)
def t_Facts_names : Df := ⟨["self"], nn_Facts_names, b_Facts_names⟩
def nn_Facts_sources : List Str := ["self"]
def b_Facts_sources : Sms := (.cons (.ret (.lst (.cons (.gc "ZERO") (.star (.fld (.var 0) "held_names") .nil))))
 .nil)
def t_Facts_sources : Df := ⟨["self"], nn_Facts_sources, b_Facts_sources⟩
def nn_Facts_need : List Str := ["self", "x", "y", "one"]
def b_Facts_need : Sms := (.cons (.for_ (.nm 3) (.any (.tup (.cons (.var 1) (.cons (.var 2) .nil))))
 (.cons (.if_ (.and (.cmp .NotEq (.var 3) (.gc "ZERO")) (.cmp .NotIn (.var 3) (.fld (.var 0) "held_names")))
 (.cons (.raise_ "NoName" (.cons (.var 3) .nil))
 .nil)
 .nil)
 .nil))
 .nil)
def t_Facts_need : Df := ⟨["self", "x", "y"], nn_Facts_need, b_Facts_need⟩
def nn_Facts_alike : List Str := ["self", "other"]
def b_Facts_alike : Sms := (.cons (.if_ (.cmp .NotEq (.fld (.var 0) "held_names") (.fld (.var 1) "held_names"))
 (.cons (.raise0 "Unlike")
 .nil)
 .nil)
 .nil)
def t_Facts_alike : Df := ⟨["self", "other"], nn_Facts_alike, b_Facts_alike⟩
def nn_Facts_greatest : List Str := ["self", "x", "y"]
def b_Facts_greatest : Sms := (.cons (.expr (.meth (.var 0) "need" (.cons (.var 1) (.cons (.var 2) .nil))))
 (.cons (.ret (.mth .get (.fld (.var 0) "held_bounds") (.cons (.tup (.cons (.var 1) (.cons (.var 2) .nil))) (.cons (.gc "ENDLESS_facts") .nil))))
 .nil))
def t_Facts_greatest : Df := ⟨["self", "x", "y"], nn_Facts_greatest, b_Facts_greatest⟩
def nn_Facts_bounds : List Str := ["self", "x", "y"]
def b_Facts_bounds : Sms := (.cons (.ret (.lc (.tup (.cons (.var 1) (.cons (.var 2) (.cons (.ix (.fld (.var 0) "held_bounds") (.tup (.cons (.var 1) (.cons (.var 2) .nil)))) .nil)))) (.tp (.cons (.nm 1) (.cons (.nm 2) .nil))) (.any (.bi .sorted (.cons (.fld (.var 0) "held_bounds") .nil))) (.some (.cmp .NotEq (.var 1) (.var 2))) [("x", 1), ("y", 2)]))
 .nil)
def t_Facts_bounds : Df := ⟨["self"], nn_Facts_bounds, b_Facts_bounds⟩
def nn_Facts_keeps : List Str := ["self", "thing", "numbers", "name", "x", "y", "most"]
def b_Facts_keeps : Sms := (.cons (.if_ (.or (.not (.isi (.var 1) ["dict"])) (.cmp .NotEq (.bi .len (.cons (.var 1) .nil)) (.bi .len (.cons (.fld (.var 0) "held_names") .nil))))
 (.cons (.ret (.bl false))
 .nil)
 .nil)
 (.cons (.if_ (.not (.bi .all (.cons (.lc (.and (.cmp .In (.var 3) (.var 1)) (.call "is_integer" (.cons (.ix (.var 1) (.var 3)) .nil))) (.nm 3) (.any (.fld (.var 0) "held_names")) .none [("name", 3)]) .nil)))
 (.cons (.ret (.bl false))
 .nil)
 .nil)
 (.cons (.set 2 .nev)
 (.cons (.ret (.bi .all (.cons (.lc (.cmp .LtE (.bin .Sub (.ix (.var 2) (.var 4)) (.ix (.var 2) (.var 5))) (.var 6)) (.tp (.cons (.nm 4) (.cons (.nm 5) (.cons (.nm 6) .nil)))) (.any (.meth (.var 0) "bounds" .nil)) .none [("x", 4), ("y", 5), ("most", 6)]) .nil)))
 .nil))))
def t_Facts_keeps : Df := ⟨["self", "thing"], nn_Facts_keeps, b_Facts_keeps⟩
def nn_Facts_and : List Str := ["self", "other"]
def b_Facts_and : Sms := (.cons (.expr (.meth (.var 0) "alike" (.cons (.var 1) .nil)))
 (.cons (.ret (.new "Facts" (.cons (.fld (.var 0) "held_names") (.cons (.bin .Add (.meth (.var 0) "bounds" .nil) (.meth (.var 1) "bounds" .nil)) .nil))))
 .nil))
def t_Facts_and : Df := ⟨["self", "other"], nn_Facts_and, b_Facts_and⟩
def nn_Facts_eq : List Str := ["self", "other"]
def b_Facts_eq : Sms := (.cons (.if_ (.or (.not .nev) (.cmp .NotEq (.fld (.var 0) "held_names") (.fld (.var 1) "held_names")))
 (.cons (.ret (.bl false))
 .nil)
 .nil)
 (.cons (.ret (.cmp .Eq (.fld (.var 0) "held_bounds") (.fld (.var 1) "held_bounds")))
 .nil))
def t_Facts_eq : Df := ⟨["self", "other"], nn_Facts_eq, b_Facts_eq⟩
def md (xt : List (Str × List Str × (List D → M R))) : Md := ⟨xt, [("plus", t_plus), ("greater", t_greater), ("known", t_known), ("is_integer", t_is_integer), ("is_name", t_is_name), ("is_source", t_is_source), ("are_different", t_are_different), ("are_names", t_are_names), ("is_fact", t_is_fact), ("are_facts", t_are_facts), ("tightest", t_tightest), ("_law_alike", t_law_alike), ("_law_mixed", t_law_mixed), ("_law_names", t_law_names), ("_law_number", t_law_number), ("_law_facts", t_law_facts), ("_law_closed", t_law_closed), ("_law_sum", t_law_sum)],
 [(("Facts", "names"), t_Facts_names), (("Facts", "sources"), t_Facts_sources), (("Facts", "need"), t_Facts_need), (("Facts", "alike"), t_Facts_alike), (("Facts", "greatest"), t_Facts_greatest), (("Facts", "bounds"), t_Facts_bounds), (("Facts", "keeps"), t_Facts_keeps), (("Facts", "__and__"), t_Facts_and), (("Facts", "__eq__"), t_Facts_eq)],
 [("Facts", t_Facts_init)],
 [("Facts", ["held_bounds", "held_names"])],
 [("Wrong", ["place"]), ("NoName", ["name"]), ("NoStart", []), ("Unlike", [])],
 [("ENDLESS_links", .str "endless"), ("LETTERS", .str "abcdefghijklmnopqrstuvwxyz"), ("LONGEST", .int 8), ("ZERO", .str ""), ("ENDLESS_facts", .str "endless")]⟩
def mx : Mx := ⟨["plus", "greater", "known", "is_integer", "is_name", "is_source", "are_different", "are_names", "is_fact", "are_facts", "tightest", "_law_alike", "_law_mixed", "_law_names", "_law_number", "_law_facts", "_law_closed", "_law_sum"], ["Facts"], ["Wrong", "NoName", "NoStart", "Unlike"]⟩
theorem mx_md {xt : List (Str × List Str × (List D → M R))} (h : xt.map (·.1) = ([] : List Str)) : (md xt).mx = mx := by
  unfold Md.mx md
  simp only [h]
  rfl
theorem ch_plus : chSs ⟨nn_plus, defScope (top 9), fun _ => true, mx⟩ b_plus (defBody (top 9)) = true := by decide +kernel
theorem sc_plus : FnScope nn_plus ["one", "other"] (defScope (top 9)) := ⟨rfl, rfl, rfl, by decide +kernel, rfl, by decide +kernel, by decide +kernel⟩
theorem ch_greater : chSs ⟨nn_greater, defScope (top 11), fun _ => true, mx⟩ b_greater (defBody (top 11)) = true := by decide +kernel
theorem sc_greater : FnScope nn_greater ["one", "other"] (defScope (top 11)) := ⟨rfl, rfl, rfl, by decide +kernel, rfl, by decide +kernel, by decide +kernel⟩
theorem ch_known : chSs ⟨nn_known, defScope (top 12), fun _ => true, mx⟩ b_known (defBody (top 12)) = true := by decide +kernel
theorem sc_known : FnScope nn_known ["facts", "rows", "spot"] (defScope (top 12)) := ⟨rfl, rfl, rfl, by decide +kernel, rfl, by decide +kernel, by decide +kernel⟩
theorem ch_is_integer : chSs ⟨nn_is_integer, defScope (top 17), fun _ => true, mx⟩ b_is_integer (defBody (top 17)) = true := by decide +kernel
theorem sc_is_integer : FnScope nn_is_integer ["thing"] (defScope (top 17)) := ⟨rfl, rfl, rfl, by decide +kernel, rfl, by decide +kernel, by decide +kernel⟩
theorem ch_is_name : chSs ⟨nn_is_name, defScope (top 18), fun _ => true, mx⟩ b_is_name (defBody (top 18)) = true := by decide +kernel
theorem sc_is_name : FnScope nn_is_name ["thing"] (defScope (top 18)) := ⟨rfl, rfl, rfl, by decide +kernel, rfl, by decide +kernel, by decide +kernel⟩
theorem ch_is_source : chSs ⟨nn_is_source, defScope (top 19), fun _ => true, mx⟩ b_is_source (defBody (top 19)) = true := by decide +kernel
theorem sc_is_source : FnScope nn_is_source ["thing"] (defScope (top 19)) := ⟨rfl, rfl, rfl, by decide +kernel, rfl, by decide +kernel, by decide +kernel⟩
theorem ch_are_different : chSs ⟨nn_are_different, defScope (top 20), fun _ => true, mx⟩ b_are_different (defBody (top 20)) = true := by decide +kernel
theorem sc_are_different : FnScope nn_are_different ["things"] (defScope (top 20)) := ⟨rfl, rfl, rfl, by decide +kernel, rfl, by decide +kernel, by decide +kernel⟩
theorem ch_are_names : chSs ⟨nn_are_names, defScope (top 21), fun _ => true, mx⟩ b_are_names (defBody (top 21)) = true := by decide +kernel
theorem sc_are_names : FnScope nn_are_names ["thing"] (defScope (top 21)) := ⟨rfl, rfl, rfl, by decide +kernel, rfl, by decide +kernel, by decide +kernel⟩
theorem ch_is_fact : chSs ⟨nn_is_fact, defScope (top 24), fun _ => true, mx⟩ b_is_fact (defBody (top 24)) = true := by decide +kernel
theorem sc_is_fact : FnScope nn_is_fact ["thing"] (defScope (top 24)) := ⟨rfl, rfl, rfl, by decide +kernel, rfl, by decide +kernel, by decide +kernel⟩
theorem ch_are_facts : chSs ⟨nn_are_facts, defScope (top 25), fun _ => true, mx⟩ b_are_facts (defBody (top 25)) = true := by decide +kernel
theorem sc_are_facts : FnScope nn_are_facts ["thing"] (defScope (top 25)) := ⟨rfl, rfl, rfl, by decide +kernel, rfl, by decide +kernel, by decide +kernel⟩
theorem ch_tightest : chSs ⟨nn_tightest, defScope (top 26), fun _ => true, mx⟩ b_tightest (defBody (top 26)) = true := by decide +kernel
theorem sc_tightest : FnScope nn_tightest ["sources", "facts"] (defScope (top 26)) := ⟨rfl, rfl, rfl, by decide +kernel, rfl, by decide +kernel, by decide +kernel⟩
theorem ch_law_alike : chSs ⟨nn_law_alike, defScope (top 31), fun _ => true, mx⟩ b_law_alike (defBody (top 31)) = true := by decide +kernel
theorem sc_law_alike : FnScope nn_law_alike ["_law_found", "_law_due"] (defScope (top 31)) := ⟨rfl, rfl, rfl, by decide +kernel, rfl, by decide +kernel, by decide +kernel⟩
theorem ch_law_mixed : chSs ⟨nn_law_mixed, defScope (top 32), fun _ => true, mx⟩ b_law_mixed (defBody (top 32)) = true := by decide +kernel
theorem sc_law_mixed : FnScope nn_law_mixed ["_law_bag_here", "_law_things"] (defScope (top 32)) := ⟨rfl, rfl, rfl, by decide +kernel, rfl, by decide +kernel, by decide +kernel⟩
theorem ch_law_names : chSs ⟨nn_law_names, defScope (top 33), fun _ => true, mx⟩ b_law_names (defBody (top 33)) = true := by decide +kernel
theorem sc_law_names : FnScope nn_law_names ["_law_bag_here", "_law_many"] (defScope (top 33)) := ⟨rfl, rfl, rfl, by decide +kernel, rfl, by decide +kernel, by decide +kernel⟩
theorem ch_law_number : chSs ⟨nn_law_number, defScope (top 34), fun _ => true, mx⟩ b_law_number (defBody (top 34)) = true := by decide +kernel
theorem sc_law_number : FnScope nn_law_number ["_law_bag_here"] (defScope (top 34)) := ⟨rfl, rfl, rfl, by decide +kernel, rfl, by decide +kernel, by decide +kernel⟩
theorem ch_law_facts : chSs ⟨nn_law_facts, defScope (top 35), fun _ => true, mx⟩ b_law_facts (defBody (top 35)) = true := by decide +kernel
theorem sc_law_facts : FnScope nn_law_facts ["_law_bag_here", "_law_names_here"] (defScope (top 35)) := ⟨rfl, rfl, rfl, by decide +kernel, rfl, by decide +kernel, by decide +kernel⟩
theorem ch_law_closed : chSs ⟨nn_law_closed, defScope (top 36), fun _ => true, mx⟩ b_law_closed (defBody (top 36)) = true := by decide +kernel
theorem sc_law_closed : FnScope nn_law_closed ["_law_names_here", "_law_facts_here"] (defScope (top 36)) := ⟨rfl, rfl, rfl, by decide +kernel, rfl, by decide +kernel, by decide +kernel⟩
theorem ch_law_sum : chSs ⟨nn_law_sum, defScope (top 37), fun _ => true, mx⟩ b_law_sum (defBody (top 37)) = true := by decide +kernel
theorem sc_law_sum : FnScope nn_law_sum ["_law_one", "_law_other"] (defScope (top 37)) := ⟨rfl, rfl, rfl, by decide +kernel, rfl, by decide +kernel, by decide +kernel⟩
theorem ch_law : chSs ⟨nn_law, defScope (top 38), fun _ => true, mx⟩ b_law (defBody (top 38)).tail = true := by decide +kernel
theorem ch_Facts_init : chSs ⟨nn_Facts_init, defScope (mth 27 1), fun _ => true, mx⟩ b_Facts_init (defBody (mth 27 1)) = true := by decide +kernel
theorem sc_Facts_init : FnScope nn_Facts_init ["self", "names", "facts"] (defScope (mth 27 1)) := ⟨rfl, rfl, rfl, by decide +kernel, rfl, by decide +kernel, by decide +kernel⟩
theorem ch_Facts_names : chSs ⟨nn_Facts_names, defScope (mth 27 2), fun _ => true, mx⟩ b_Facts_names (defBody (mth 27 2)) = true := by decide +kernel
theorem sc_Facts_names : FnScope nn_Facts_names ["self"] (defScope (mth 27 2)) := ⟨rfl, rfl, rfl, by decide +kernel, rfl, by decide +kernel, by decide +kernel⟩
theorem ch_Facts_sources : chSs ⟨nn_Facts_sources, defScope (mth 27 3), fun _ => true, mx⟩ b_Facts_sources (defBody (mth 27 3)) = true := by decide +kernel
theorem sc_Facts_sources : FnScope nn_Facts_sources ["self"] (defScope (mth 27 3)) := ⟨rfl, rfl, rfl, by decide +kernel, rfl, by decide +kernel, by decide +kernel⟩
theorem ch_Facts_need : chSs ⟨nn_Facts_need, defScope (mth 27 4), fun _ => true, mx⟩ b_Facts_need (defBody (mth 27 4)) = true := by decide +kernel
theorem sc_Facts_need : FnScope nn_Facts_need ["self", "x", "y"] (defScope (mth 27 4)) := ⟨rfl, rfl, rfl, by decide +kernel, rfl, by decide +kernel, by decide +kernel⟩
theorem ch_Facts_alike : chSs ⟨nn_Facts_alike, defScope (mth 27 5), fun _ => true, mx⟩ b_Facts_alike (defBody (mth 27 5)) = true := by decide +kernel
theorem sc_Facts_alike : FnScope nn_Facts_alike ["self", "other"] (defScope (mth 27 5)) := ⟨rfl, rfl, rfl, by decide +kernel, rfl, by decide +kernel, by decide +kernel⟩
theorem ch_Facts_greatest : chSs ⟨nn_Facts_greatest, defScope (mth 27 6), fun _ => true, mx⟩ b_Facts_greatest (defBody (mth 27 6)) = true := by decide +kernel
theorem sc_Facts_greatest : FnScope nn_Facts_greatest ["self", "x", "y"] (defScope (mth 27 6)) := ⟨rfl, rfl, rfl, by decide +kernel, rfl, by decide +kernel, by decide +kernel⟩
theorem ch_Facts_bounds : chSs ⟨nn_Facts_bounds, defScope (mth 27 7), fun _ => true, mx⟩ b_Facts_bounds (defBody (mth 27 7)) = true := by decide +kernel
theorem sc_Facts_bounds : FnScope nn_Facts_bounds ["self"] (defScope (mth 27 7)) := ⟨rfl, rfl, rfl, by decide +kernel, rfl, by decide +kernel, by decide +kernel⟩
theorem ch_Facts_keeps : chSs ⟨nn_Facts_keeps, defScope (mth 27 8), fun _ => true, mx⟩ b_Facts_keeps (defBody (mth 27 8)) = true := by decide +kernel
theorem sc_Facts_keeps : FnScope nn_Facts_keeps ["self", "thing"] (defScope (mth 27 8)) := ⟨rfl, rfl, rfl, by decide +kernel, rfl, by decide +kernel, by decide +kernel⟩
theorem ch_Facts_and : chSs ⟨nn_Facts_and, defScope (mth 27 11), fun _ => true, mx⟩ b_Facts_and (defBody (mth 27 11)) = true := by decide +kernel
theorem sc_Facts_and : FnScope nn_Facts_and ["self", "other"] (defScope (mth 27 11)) := ⟨rfl, rfl, rfl, by decide +kernel, rfl, by decide +kernel, by decide +kernel⟩
theorem ch_Facts_eq : chSs ⟨nn_Facts_eq, defScope (mth 27 13), fun _ => true, mx⟩ b_Facts_eq (defBody (mth 27 13)) = true := by decide +kernel
theorem sc_Facts_eq : FnScope nn_Facts_eq ["self", "other"] (defScope (mth 27 13)) := ⟨rfl, rfl, rfl, by decide +kernel, rfl, by decide +kernel, by decide +kernel⟩
end Kt

namespace Kt
open PySem PySem.Spec PyProof.Rows L2 FA IP
local macro_rules
  | `(tactic| wp_walk using $[$ts:term],*) => `(tactic| simp only [w_nil, w_cons, w_frz, w_set, w_setLc, w_unp, w_par, w_aug, w_mut, w_setMut, w_put, w_expr, w_ret, w_retV, w_retN, w_if, w_for, w_while, w_pass, w_brk, w_cnt, w_fset, w_raise, w_raise0, evE, evEs, evO, evC, evG, evGs, lenG, evI, evIX, ms_of, ms_ret, m_bind, m_pure, m_some, m_none, m_need, m_ite, ms_ite, MS.seq, tst, mAnd, mOr, mNot, ch2, unpM, putM, mutM, callM, newM, drawM, raiseM, raise0M, v_d_sh, v_d_ow, v_d_bw, v_rb_, v_ri_, v_sl_sh, v_sl_ow, v_esc_sh, v_esc_ow, v_noBw_sh, v_noBw_ow, v_escs_nil, v_escs_sh, v_escs_ow, v_rslot_sh, v_rslot_ow, v_rvar_, v_ret_sh, v_ret_ow, v_owS_, v_owS_sh, v_owS_none, v_slD1_, v_tru_bl, v_tru_non, v_tru_int, v_tru_lst, v_tru_tup, v_asI_, v_asB_, v_bs_add, v_bs_sub, v_bs_mul, v_bs_mod, v_bs_div, v_add_int, v_add_str, v_add_lst, v_add_tup, v_sub_int, v_mod_int, v_neg_int, v_cs_eq, v_cs_ne, v_cs_lt, v_cs_le, v_cs_gt, v_cs_ge, v_cs_is, v_cs_isnot, v_cs_in, v_cs_notin, v_lt_int, v_le_int, v_gt_int, v_ge_int, v_isn_non, v_isn_int, v_isn_str, v_in_lst, v_in_tup, v_ix_lst, v_ix_tup, v_seq_lst, v_seq_tup, v_it_lst, v_it_tup, v_sld_lst, v_sld_tup, v_len_lst, v_len_tup, v_len_dct, v_max_int, v_min_int, v_list_lst, v_list_tup, v_tuple_lst, v_tuple_tup, v_tgn_, v_tgt_, v_tgnil_, v_tgcn_, v_par_nil, v_par_sh, v_par_ow, v_mu_app, v_mt_get, v_ty_dct, v_ty_str, v_put_dct, Option.map_some, Option.map_none, Option.isSome_some, Option.isSome_none, List.map_cons, List.map_nil, List.length_cons, List.length_nil, List.getElem?_cons_zero, List.getElem?_cons_succ, List.set_cons_zero, List.set_cons_succ, List.cons_append, List.nil_append, Nat.reduceAdd, Nat.reduceLeDiff, Nat.reduceSub, Nat.zero_le, sizeLine_eq, Bool.or_false, Bool.false_or, Bool.or_true, Bool.true_or, Bool.and_true, Bool.true_and, Bool.and_false, Bool.false_and, Bool.not_true, Bool.not_false, reduceIte, and_true, true_and, and_false, false_and, and_self, Bool.false_eq_true, v_get_int, v_get_str, v_in_dct, v_ix_dct, Option.getD_some, Option.getD_none, frzE, $[$ts:term],*])
/-- the table as it grows: its keys are of S -/
structure TS (S : List Str) (es : Te) (T : FB.Tb Str) : Prop where
  tab : tabE es = T
  nd : (es.map (·.1)).Nodup
  sub : ∀ k ∈ es.map (·.1), k.1 ∈ S ∧ k.2 ∈ S
theorem TS.len {S : List Str} {es : Te} {T : FB.Tb Str} (h : TS S es T) (hS : S.length ≤ 1000) : es.length < 16777216 := by
  have := nodup_len (S := FB.pairs S) h.nd fun k hk => FB.mem_pairs.mpr (h.sub k hk)
  have hl : (FB.pairs S).length = S.length * S.length := by
    unfold FB.pairs
    rw [List.length_flatMap]
    simp only [List.length_map]
    have gen : ∀ (n : Nat) (L : List Str), (L.map fun _ => n).sum = L.length * n := by
      intro n L
      induction L with
      | nil => simp
      | cons x L ih => rw [List.map_cons, List.sum_cons, ih, List.length_cons, Nat.succ_mul, Nat.add_comm]
    exact gen _ _
  rw [hl, List.length_map] at this
  have : S.length * S.length ≤ 1000 * 1000 := Nat.mul_le_mul hS hS
  omega
theorem TS.put {S : List Str} {es : Te} {T : FB.Tb Str} (h : TS S es T) {x y : Str} (hx : x ∈ S) (hy : y ∈ S) (v : Int) : TS S (putE es (x, y) v) (fun a b => if (a, b) = (x, y) then some v else T a b) := by
  refine ⟨?_, ?_, ?_⟩
  · funext a b
    show lookE (putE es (x, y) v) (a, b) = _
    rw [lookE_put]
    split
    · rfl
    · rw [← h.tab]; rfl
  · rw [putE_keys]
    split
    · exact h.nd
    next hn =>
      rw [List.nodup_append]
      refine ⟨h.nd, by simp, fun a ha b hb => ?_⟩
      rw [List.mem_singleton] at hb
      rw [hb]
      exact fun z => hn (z ▸ ha)
  · intro k hk
    rw [putE_keys] at hk
    split at hk
    · exact h.sub k hk
    · rcases List.mem_append.mp hk with z | z
      · exact h.sub k z
      · rw [List.mem_singleton] at z
        rw [z]
        exact ⟨hx, hy⟩
theorem get_enc {S : List Str} {es : Te} {T : FB.Tb Str} (h : TS S es T) (x y : Str) : dGet (encT es) (.tup [.str x, .str y]) = some ((T x y).map D.int) := by
  rw [← h.tab]
  exact dGet_enc es (x, y)
def fcD (f : Str × Str × Int) : D := .tup [.str f.1, .str f.2.1, .int f.2.2]
/-- the state of tightest within its loops -/
def tSt (S : List Str) (F : D) (T : FB.Tb Str) (env : IP.Env) : Prop := ∃ es o3 o4 o5 o6 o7 o8, TS S es T ∧ env = [some (.sh (.lst (S.map .str))), some (.sh F), some (.ow (.dct (encT es))), o3, o4, o5, o6, o7, o8]
theorem t_diag {C : Cn} {S : List Str} {F : D} {Q : Out → Prop} {env : IP.Env} (hS : S.length ≤ 1000) (h : tSt S F (fun _ _ => none) env) (fin : ∀ e, tSt S F (FB.diagT S) e → Q (.nx e)) :
    forGo (evG (.nm 3)) (bodyOf C (.cons (.put 2 (.tup (.cons (.var 3) (.cons (.var 3) .nil))) (.int 0)) .nil)) (S.map .str) env Q := by
  refine forGo_fold D.str (tSt S F) (fun T x => fun a b => if (a, b) = (x, x) then some 0 else T a b) S (fun _ _ => none) env (fun x hx T env K hs hK => ?_) h fun e he => fin e ?_
  · obtain ⟨es, o3, o4, o5, o6, o7, o8, hT, rfl⟩ := hs
    refine ⟨_, rfl, ?_⟩
    unfold bodyOf
    have hl := hT.len hS
    have hp := dPut_enc es (x, x) 0
    unfold kyD at hp
    wp_walk using hp, encT_len, LQ, hl
    exact hK _ ⟨_, _, o4, o5, o6, o7, o8, hT.put hx hx 0, rfl⟩
  · have : S.foldl (fun (T : FB.Tb Str) x => fun a b => if (a, b) = (x, x) then some 0 else T a b) (fun _ _ => none) = FB.diagT S := by
      have gen : ∀ (L : List Str) (T : FB.Tb Str), L.foldl (fun (T : FB.Tb Str) x => fun a b => if (a, b) = (x, x) then some 0 else T a b) T = fun a b => if a = b ∧ a ∈ L then some 0 else T a b := by
        intro L
        induction L with
        | nil => intro T; funext a b; simp
        | cons x L ih =>
          intro T
          rw [List.foldl_cons, ih]
          funext a b
          by_cases h1 : a = b ∧ a ∈ L
          · rw [if_pos h1, if_pos ⟨h1.1, List.mem_cons_of_mem _ h1.2⟩]
          · rw [if_neg h1]
            by_cases h2 : (a, b) = (x, x)
            · rw [if_pos h2]
              cases h2
              rw [if_pos ⟨rfl, List.mem_cons_self⟩]
            · rw [if_neg h2, if_neg]
              rintro ⟨rfl, h3⟩
              rcases List.mem_cons.mp h3 with z | z
              · exact h2 (by rw [z])
              · exact h1 ⟨rfl, z⟩
      rw [gen]
      rfl
    rw [← this]
    exact he
theorem t_lay {C : Cn} {S : List Str} {L : List (Str × Str × Int)} {F : D} {T : FB.Tb Str} {Q : Out → Prop} {env : IP.Env} (hS : S.length ≤ 1000) (hF : ∀ f ∈ L, f.1 ∈ S ∧ f.2.1 ∈ S) (h : tSt S F T env) (fin : ∀ e, tSt S F (L.foldl FB.layF T) e → Q (.nx e)) :
    forGo (evG (.tp (.cons (.nm 5) (.cons (.nm 6) (.cons (.nm 7) .nil))))) (bodyOf C (.cons (.put 2 (.tup (.cons (.var 5) (.cons (.var 6) .nil))) (.bi .min (.cons (.mth .get (.var 2) (.cons (.tup (.cons (.var 5) (.cons (.var 6) .nil))) (.cons (.var 7) .nil))) (.cons (.var 7) .nil)))) .nil)) (L.map fcD) env Q := by
  refine forGo_fold fcD (tSt S F) FB.layF L T env (fun f hf T env K hs hK => ?_) h fin
  obtain ⟨x, y, c⟩ := f
  obtain ⟨es, o3, o4, o5, o6, o7, o8, hT, rfl⟩ := hs
  obtain ⟨hx, hy⟩ := hF _ hf
  refine ⟨_, rfl, ?_⟩
  unfold bodyOf
  have hl := hT.len hS
  have hg := get_enc hT x y
  have hp := fun v => dPut_enc es (x, y) v
  unfold kyD at hp
  have key : ∀ v, FB.layF T (x, y, c) = (fun a b => if (a, b) = (x, y) then some v else T a b) → K ([some (.sh (.lst (S.map .str))), some (.sh F), some (.ow (.dct (encT (putE es (x, y) v)))), o3, o4, some (.sh (.str x)), some (.sh (.str y)), some (.sh (.int c)), o8] : IP.Env) := by
    intro v hv
    exact hK _ ⟨_, o3, o4, _, _, _, o8, hv ▸ hT.put hx hy v, rfl⟩
  cases q : T x y with
  | none =>
    wp_walk using hp, encT_len, LQ, hl, hg, q
    refine key _ ?_
    funext a b
    show (if (a, b) = (x, y) then FB.minO (T x y) (some c) else T a b) = _
    rw [q]
    simp [FB.minO]
  | some u =>
    wp_walk using hp, encT_len, LQ, hl, hg, q
    refine key _ ?_
    funext a b
    show (if (a, b) = (x, y) then FB.minO (T x y) (some c) else T a b) = _
    rw [q]
    simp only [FB.minO]
    congr 2
    split <;> omega
theorem t_turn {C : Cn} {S : List Str} {F : D} {T : FB.Tb Str} {Q : Out → Prop} {es : Te} {o3 o7 o8 : Option Sl} {m x y : Str} (hS : S.length ≤ 1000) (hx : x ∈ S) (hy : y ∈ S) (hT : TS S es T)
    (fin : ∀ es' o8', TS S es' (FB.relax m T (x, y)) → Q (.nx [some (.sh (.lst (S.map .str))), some (.sh F), some (.ow (.dct (encT es'))), o3, some (.sh (.str m)), some (.sh (.str x)), some (.sh (.str y)), o7, o8'])) :
    evSs C (.cons (.if_ (.and (.cmp .In (.tup (.cons (.var 5) (.cons (.var 4) .nil))) (.var 2)) (.cmp .In (.tup (.cons (.var 4) (.cons (.var 6) .nil))) (.var 2)))
 (.cons (.set 8 (.bin .Add (.ix (.var 2) (.tup (.cons (.var 5) (.cons (.var 4) .nil)))) (.ix (.var 2) (.tup (.cons (.var 4) (.cons (.var 6) .nil))))))
 (.cons (.put 2 (.tup (.cons (.var 5) (.cons (.var 6) .nil))) (.bi .min (.cons (.mth .get (.var 2) (.cons (.tup (.cons (.var 5) (.cons (.var 6) .nil))) (.cons (.var 8) .nil))) (.cons (.var 8) .nil))))
 .nil))
 .nil)
 .nil) [some (.sh (.lst (S.map .str))), some (.sh F), some (.ow (.dct (encT es))), o3, some (.sh (.str m)), some (.sh (.str x)), some (.sh (.str y)), o7, o8] Q := by
  have hl := hT.len hS
  have g1 := get_enc hT x m
  have g2 := get_enc hT m y
  have g3 := get_enc hT x y
  have hp := fun v => dPut_enc es (x, y) v
  unfold kyD at hp
  have same : FB.addO (T x m) (T m y) = none → FB.relax m T (x, y) = T := by
    intro h
    funext a b
    show (if (a, b) = (x, y) then FB.minO (T x y) (FB.addO (T x m) (T m y)) else T a b) = _
    rw [h]
    split
    next e => cases e; cases T x y <;> rfl
    · rfl
  cases q1 : T x m with
  | none =>
    wp_walk using hp, encT_len, hl, g1, q1
    exact fin es o8 (by rw [same (by rw [q1]; rfl)]; exact hT)
  | some u1 =>
    cases q2 : T m y with
    | none =>
      wp_walk using hp, encT_len, hl, g1, g2, q1, q2
      exact fin es o8 (by rw [same (by rw [q1, q2]; rfl)]; exact hT)
    | some u2 =>
      have put : ∀ v, FB.minO (T x y) (some (u1 + u2)) = some v → FB.relax m T (x, y) = fun a b => if (a, b) = (x, y) then some v else T a b := by
        intro v hv
        funext a b
        show (if (a, b) = (x, y) then FB.minO (T x y) (FB.addO (T x m) (T m y)) else T a b) = _
        rw [q1, q2]
        show (if (a, b) = (x, y) then FB.minO (T x y) (some (u1 + u2)) else T a b) = _
        rw [hv]
      cases q3 : T x y with
      | none =>
        wp_walk using hp, encT_len, hl, g1, g2, g3, q1, q2, q3
        exact fin _ _ (by rw [put (u1 + u2) (by rw [q3]; rfl), ite_self]; exact hT.put hx hy _)
      | some u3 =>
        wp_walk using hp, encT_len, hl, g1, g2, g3, q1, q2, q3
        exact fin _ _ (by rw [put (if u1 + u2 < u3 then u1 + u2 else u3) (by rw [q3]; simp only [FB.minO]; congr 1; split <;> omega)]; exact hT.put hx hy _)
theorem t_mid {C : Cn} {S : List Str} {F : D} {T : FB.Tb Str} {Q : Out → Prop} {env : IP.Env} (hS : S.length ≤ 1000) (h : tSt S F T env) (fin : ∀ e, tSt S F (FB.tight S S T) e → Q (.nx e)) :
    forGo (evG (.nm 4)) (bodyOf C (.cons (.for_ (.nm 5) (.any (.var 0))
 (.cons (.for_ (.nm 6) (.any (.var 0))
 (.cons (.if_ (.and (.cmp .In (.tup (.cons (.var 5) (.cons (.var 4) .nil))) (.var 2)) (.cmp .In (.tup (.cons (.var 4) (.cons (.var 6) .nil))) (.var 2)))
 (.cons (.set 8 (.bin .Add (.ix (.var 2) (.tup (.cons (.var 5) (.cons (.var 4) .nil)))) (.ix (.var 2) (.tup (.cons (.var 4) (.cons (.var 6) .nil))))))
 (.cons (.put 2 (.tup (.cons (.var 5) (.cons (.var 6) .nil))) (.bi .min (.cons (.mth .get (.var 2) (.cons (.tup (.cons (.var 5) (.cons (.var 6) .nil))) (.cons (.var 8) .nil))) (.cons (.var 8) .nil))))
 .nil))
 .nil)
 .nil))
 .nil))
 .nil)) (S.map .str) env Q := by
  refine forGo_fold D.str (tSt S F) (fun d m => (FB.pairs S).foldl (FB.relax m) d) S T env (fun m hm T env K hs hK => ?_) h fin
  obtain ⟨es, o3, o4, o5, o6, o7, o8, hT, rfl⟩ := hs
  refine ⟨_, rfl, ?_⟩
  unfold bodyOf
  have inner : ∀ (T : FB.Tb Str) (es : Te) (o5 o6 o8 : Option Sl) (Q' : Out → Prop), TS S es T → (∀ es' o5' o6' o8', TS S es' ((FB.pairs S).foldl (FB.relax m) T) → Q' (.nx [some (.sh (.lst (S.map .str))), some (.sh F), some (.ow (.dct (encT es'))), o3, some (.sh (.str m)), o5', o6', o7, o8'])) →
      forGo (evG (.nm 5)) (bodyOf C (.cons (.for_ (.nm 6) (.any (.var 0))
 (.cons (.if_ (.and (.cmp .In (.tup (.cons (.var 5) (.cons (.var 4) .nil))) (.var 2)) (.cmp .In (.tup (.cons (.var 4) (.cons (.var 6) .nil))) (.var 2)))
 (.cons (.set 8 (.bin .Add (.ix (.var 2) (.tup (.cons (.var 5) (.cons (.var 4) .nil)))) (.ix (.var 2) (.tup (.cons (.var 4) (.cons (.var 6) .nil))))))
 (.cons (.put 2 (.tup (.cons (.var 5) (.cons (.var 6) .nil))) (.bi .min (.cons (.mth .get (.var 2) (.cons (.tup (.cons (.var 5) (.cons (.var 6) .nil))) (.cons (.var 8) .nil))) (.cons (.var 8) .nil))))
 .nil))
 .nil)
 .nil)) .nil)) (S.map .str) [some (.sh (.lst (S.map .str))), some (.sh F), some (.ow (.dct (encT es))), o3, some (.sh (.str m)), o5, o6, o7, o8] Q' := by
    intro T es o5 o6 o8 Q' hT fin'
    have e1 : (FB.pairs S).foldl (FB.relax m) T = S.foldl (fun d x => S.foldl (fun d y => FB.relax m d (x, y)) d) T := by
      unfold FB.pairs
      rw [List.foldl_flatMap]
      congr 1
      funext d x
      rw [List.foldl_map]
    rw [e1] at fin'
    refine forGo_fold D.str (fun T e => ∃ es o5 o6 o8, TS S es T ∧ e = [some (.sh (.lst (S.map .str))), some (.sh F), some (.ow (.dct (encT es))), o3, some (.sh (.str m)), o5, o6, o7, o8]) (fun d x => S.foldl (fun d y => FB.relax m d (x, y)) d) S T _ (fun x hx T env K hs hK => ?_) ⟨es, o5, o6, o8, hT, rfl⟩ fun e ⟨es', o5', o6', o8', h', he⟩ => he ▸ fin' es' o5' o6' o8' h'
    obtain ⟨es, o5, o6, o8, hT, rfl⟩ := hs
    refine ⟨_, rfl, ?_⟩
    unfold bodyOf
    wp_walk using LQ
    refine forGo_fold D.str (fun T e => ∃ es o6 o8, TS S es T ∧ e = [some (.sh (.lst (S.map .str))), some (.sh F), some (.ow (.dct (encT es))), o3, some (.sh (.str m)), some (.sh (.str x)), o6, o7, o8]) (fun d y => FB.relax m d (x, y)) S T _ (fun y hy T env K' hs hK' => ?_) ⟨es, o6, o8, hT, rfl⟩ fun e ⟨es', o6', o8', h', he⟩ => ?_
    · obtain ⟨es, o6, o8, hT, rfl⟩ := hs
      refine ⟨_, rfl, ?_⟩
      unfold bodyOf
      exact t_turn (C := C) hS hx hy hT fun es' o8' h' => hK' _ ⟨es', _, o8', h', rfl⟩
    · subst he
      exact hK _ ⟨es', _, o6', o8', h', rfl⟩
  wp_walk using LQ
  exact inner T es o5 o6 o8 _ hT fun es' o5' o6' o8' h' => hK _ ⟨es', o3, _, o5', o6', o7, o8', h', rfl⟩
/-- tightest, told -/
theorem tight_sem (C : Cn) (S : List Str) (L : List (Str × Str × Int)) (F : D) (hF : F = .lst (L.map fcD) ∨ F = .tup (L.map fcD)) (hS : S.length ≤ 1000) (hL : ∀ f ∈ L, f.1 ∈ S ∧ f.2.1 ∈ S) (Q : R → Prop) (E : Xn → Prop)
    (h : ∀ es, TS S es (FB.tight S S (FB.layT S L)) → Q (.ow (.dct (encT es)))) : runB nn_tightest (evSs C b_tightest) [.lst (S.map .str), F] Q E := by
  unfold runB b_tightest
  show evSs C _ [some (.sh (.lst (S.map .str))), some (.sh F), none, none, none, none, none, none, none] _
  wp_walk using v_d_sh
  refine t_diag (C := C) hS ⟨[], none, none, none, none, none, none, ⟨rfl, List.nodup_nil, fun _ z => by cases z⟩, rfl⟩ fun e he => ?_
  obtain ⟨es, o3, o4, o5, o6, o7, o8, hT, rfl⟩ := he
  have it : itD F = some (L.map fcD) := by rcases hF with rfl | rfl <;> rfl
  wp_walk using it
  refine t_lay (C := C) hS hL ⟨es, o3, o4, o5, o6, o7, o8, hT, rfl⟩ fun e he => ?_
  obtain ⟨es, o3, o4, o5, o6, o7, o8, hT, rfl⟩ := he
  wp_walk using v_d_sh
  refine t_mid (C := C) hS ⟨es, o3, o4, o5, o6, o7, o8, hT, rfl⟩ fun e he => ?_
  obtain ⟨es, o3, o4, o5, o6, o7, o8, hT, rfl⟩ := he
  wp_walk using v_d_sh
  exact h es hT
end Kt

namespace Kt
open PySem PySem.Spec PyProof.Rows L2 FA IP
local macro_rules
  | `(tactic| wp_walk using $[$ts:term],*) => `(tactic| simp only [w_nil, w_cons, w_frz, w_set, w_setLc, w_unp, w_par, w_aug, w_mut, w_setMut, w_put, w_expr, w_ret, w_retV, w_retN, w_if, w_for, w_while, w_pass, w_brk, w_cnt, w_fset, w_raise, w_raise0, evE, evEs, evO, evC, evG, evGs, lenG, evI, evIX, ms_of, ms_ret, m_bind, m_pure, m_some, m_none, m_need, m_ite, ms_ite, MS.seq, tst, mAnd, mOr, mNot, ch2, unpM, putM, mutM, callM, newM, drawM, raiseM, raise0M, v_d_sh, v_d_ow, v_d_bw, v_rb_, v_ri_, v_sl_sh, v_sl_ow, v_esc_sh, v_esc_ow, v_noBw_sh, v_noBw_ow, v_escs_nil, v_escs_sh, v_escs_ow, v_rslot_sh, v_rslot_ow, v_rvar_, v_ret_sh, v_ret_ow, v_owS_, v_owS_sh, v_owS_none, v_slD1_, v_tru_bl, v_tru_non, v_tru_int, v_tru_lst, v_tru_tup, v_asI_, v_asB_, v_bs_add, v_bs_sub, v_bs_mul, v_bs_mod, v_bs_div, v_add_int, v_add_str, v_add_lst, v_add_tup, v_sub_int, v_mod_int, v_neg_int, v_cs_eq, v_cs_ne, v_cs_lt, v_cs_le, v_cs_gt, v_cs_ge, v_cs_is, v_cs_isnot, v_cs_in, v_cs_notin, v_lt_int, v_le_int, v_gt_int, v_ge_int, v_isn_non, v_isn_int, v_isn_str, v_in_lst, v_in_tup, v_ix_lst, v_ix_tup, v_seq_lst, v_seq_tup, v_it_lst, v_it_tup, v_sld_lst, v_sld_tup, v_len_lst, v_len_tup, v_len_dct, v_max_int, v_min_int, v_list_lst, v_list_tup, v_tuple_lst, v_tuple_tup, v_tgn_, v_tgt_, v_tgnil_, v_tgcn_, v_par_nil, v_par_sh, v_par_ow, v_mu_app, v_mt_get, v_ty_dct, v_ty_str, v_put_dct, Option.map_some, Option.map_none, Option.isSome_some, Option.isSome_none, List.map_cons, List.map_nil, List.length_cons, List.length_nil, List.getElem?_cons_zero, List.getElem?_cons_succ, List.set_cons_zero, List.set_cons_succ, List.cons_append, List.nil_append, Nat.reduceAdd, Nat.reduceLeDiff, Nat.reduceSub, Nat.zero_le, sizeLine_eq, Bool.or_false, Bool.false_or, Bool.or_true, Bool.true_or, Bool.and_true, Bool.true_and, Bool.and_false, Bool.false_and, Bool.not_true, Bool.not_false, reduceIte, and_true, true_and, and_false, false_and, and_self, Bool.false_eq_true, v_get_int, v_get_str, v_in_dct, v_ix_dct, Option.getD_some, Option.getD_none, frzE, $[$ts:term],*])
theorem c_turn {C : Cn} {S : List Str} {N F : D} {T : FB.Tb Str} {Q : Out → Prop} {es : Te} {o4 o8 : Option Sl} {x y z : Str} {c : Int} (hS : S.length ≤ 1000) (hx : x ∈ S) (hz : z ∈ S) (hT : TS S es T)
    (fin : ∀ es' o8', TS S es' (FB.stepR T ((x, y, c), z)) → Q (.nx [some (.sh N), some (.sh F), some (.ow (.dct (encT es'))), some (.sh (.str z)), o4, some (.sh (.str x)), some (.sh (.str y)), some (.sh (.int c)), o8'])) :
    evSs C (.cons (.set 8 (.ite (.cmp .In (.tup (.cons (.var 6) (.cons (.var 3) .nil))) (.var 2)) (.bin .Add (.ix (.var 2) (.tup (.cons (.var 6) (.cons (.var 3) .nil)))) (.var 7)) .non))
 (.cons (.if_ (.and (.cmp .IsNot (.var 8) .non) (.or (.cmp .NotIn (.tup (.cons (.var 5) (.cons (.var 3) .nil))) (.var 2)) (.cmp .Gt (.ix (.var 2) (.tup (.cons (.var 5) (.cons (.var 3) .nil)))) (.var 8))))
 (.frz 8 (.cons (.put 2 (.tup (.cons (.var 5) (.cons (.var 3) .nil))) (.var 8))
 .nil))
 .nil)
 .nil)) [some (.sh N), some (.sh F), some (.ow (.dct (encT es))), some (.sh (.str z)), o4, some (.sh (.str x)), some (.sh (.str y)), some (.sh (.int c)), o8] Q := by
  have hl := hT.len hS
  have g1 := get_enc hT y z
  have g2 := get_enc hT x z
  have hp := fun v => dPut_enc es (x, z) v
  unfold kyD at hp
  have eqn : FB.stepR T ((x, y, c), z) = fun a b => if (a, b) = (x, z) then FB.minO (T x z) (FB.addO (T y z) (some c)) else T a b := rfl
  cases q1 : T y z with
  | none =>
    wp_walk using hp, encT_len, hl, g1, q1
    refine fin es _ ?_
    have : FB.stepR T ((x, y, c), z) = T := by
      rw [eqn, q1]
      funext a b
      show (if (a, b) = (x, z) then FB.minO (T x z) none else T a b) = _
      split
      next e => cases e; cases T x z <;> rfl
      · rfl
    rw [this]
    exact hT
  | some u1 =>
    cases q2 : T x z with
    | none =>
      wp_walk using hp, encT_len, hl, g1, g2, q1, q2
      refine fin _ _ ?_
      rw [eqn, q1, q2]
      exact hT.put hx hz (u1 + c)
    | some u2 =>
      by_cases hc : u1 + c < u2
      · have hd : decide (u1 + c < u2) = true := decide_eq_true hc
        wp_walk using hp, encT_len, hl, g1, g2, q1, q2, hd
        refine fin _ _ ?_
        rw [eqn, q1, q2]
        have : FB.minO (some u2) (FB.addO (some u1) (some c)) = some (u1 + c) := by
          show some (min u2 (u1 + c)) = _
          congr 1
          omega
        rw [this]
        exact hT.put hx hz (u1 + c)
      · have hd : decide (u1 + c < u2) = false := decide_eq_false hc
        wp_walk using hp, encT_len, hl, g1, g2, q1, q2, hd
        refine fin _ _ ?_
        have : FB.stepR T ((x, y, c), z) = T := by
          rw [eqn, q1, q2]
          funext a b
          show (if (a, b) = (x, z) then some (min u2 (u1 + c)) else T a b) = _
          split
          next e =>
            cases e
            rw [q2]
            congr 1
            omega
          · rfl
        rw [this]
        exact hT
theorem fold_diag (S : List Str) : S.foldl (fun (T : FB.Tb Str) x => fun a b => if (a, b) = (x, x) then some 0 else T a b) (fun _ _ => none) = FB.diagT S := by
  have gen : ∀ (L : List Str) (T : FB.Tb Str), L.foldl (fun (T : FB.Tb Str) x => fun a b => if (a, b) = (x, x) then some 0 else T a b) T = fun a b => if a = b ∧ a ∈ L then some 0 else T a b := by
    intro L
    induction L with
    | nil => intro T; funext a b; simp
    | cons x L ih =>
      intro T
      rw [List.foldl_cons, ih]
      funext a b
      by_cases h1 : a = b ∧ a ∈ L
      · rw [if_pos h1, if_pos ⟨h1.1, List.mem_cons_of_mem _ h1.2⟩]
      · rw [if_neg h1]
        by_cases h2 : (a, b) = (x, x)
        · rw [if_pos h2]
          cases h2
          rw [if_pos ⟨rfl, List.mem_cons_self⟩]
        · rw [if_neg h2, if_neg]
          rintro ⟨rfl, h3⟩
          rcases List.mem_cons.mp h3 with z | z
          · exact h2 (by rw [z])
          · exact h1 ⟨rfl, z⟩
  rw [gen]
  rfl
def opsC (S : List Str) (L : List (Str × Str × Int)) : List (FB.Op Str) := L.flatMap fun f => S.map fun z => (f, z)
theorem foldl_ops (S : List Str) (L : List (Str × Str × Int)) (T : FB.Tb Str) : (opsC S L).foldl FB.stepR T = L.foldl (fun d f => S.foldl (fun d z => FB.stepR d (f, z)) d) T := by
  unfold opsC
  rw [List.foldl_flatMap]
  congr 1
  funext d f
  rw [List.foldl_map]
def cSt (S : List Str) (N F : D) (T : FB.Tb Str) (env : IP.Env) : Prop := ∃ es o3 o4 o5 o6 o7 o8, TS S es T ∧ env = [some (.sh N), some (.sh F), some (.ow (.dct (encT es))), o3, o4, o5, o6, o7, o8]
/-- the law's own closing, told -/
theorem c_facts {C : Cn} {z0 : Str} {N : List Str} {L : List (Str × Str × Int)} {M : List (Str × Str × Int)} {T : FB.Tb Str} {Q : Out → Prop} {env : IP.Env} (hN : N.length ≤ 900) (hL : ∀ f ∈ M, f.1 ∈ z0 :: N) (h : cSt (z0 :: N) (.lst (N.map .str)) (.lst (L.map fcD)) T env)
    (fin : ∀ e, cSt (z0 :: N) (.lst (N.map .str)) (.lst (L.map fcD)) (M.foldl (fun d f => (z0 :: N).foldl (fun d z => FB.stepR d (f, z)) d) T) e → Q (.nx e)) :
    forGo (evG (.tp (.cons (.nm 5) (.cons (.nm 6) (.cons (.nm 7) .nil))))) (bodyOf C (.cons (.for_ (.nm 3) (.any (.bin .Add (.lst (.cons (.str z0) .nil)) (.bi .list (.cons (.var 0) .nil))))
 (.cons (.set 8 (.ite (.cmp .In (.tup (.cons (.var 6) (.cons (.var 3) .nil))) (.var 2)) (.bin .Add (.ix (.var 2) (.tup (.cons (.var 6) (.cons (.var 3) .nil)))) (.var 7)) .non))
 (.cons (.if_ (.and (.cmp .IsNot (.var 8) .non) (.or (.cmp .NotIn (.tup (.cons (.var 5) (.cons (.var 3) .nil))) (.var 2)) (.cmp .Gt (.ix (.var 2) (.tup (.cons (.var 5) (.cons (.var 3) .nil)))) (.var 8))))
 (.frz 8 (.cons (.put 2 (.tup (.cons (.var 5) (.cons (.var 3) .nil))) (.var 8))
 .nil))
 .nil)
 .nil))) .nil)) (M.map fcD) env Q := by
  have hS : (z0 :: N).length ≤ 1000 := by rw [List.length_cons]; omega
  have hlen' : 1 + (N.map D.str).length ≤ 16777216 := by rw [List.length_map]; omega
  refine forGo_fold fcD (cSt (z0 :: N) (.lst (N.map .str)) (.lst (L.map fcD))) (fun d f => (z0 :: N).foldl (fun d z => FB.stepR d (f, z)) d) M T env (fun f hf T env K' hs hK' => ?_) h fin
  obtain ⟨x, y, c⟩ := f
  obtain ⟨es, o3, o4, o5, o6, o7, o8, hT, rfl⟩ := hs
  refine ⟨_, rfl, ?_⟩
  unfold bodyOf
  have hx := hL _ hf
  wp_walk using LQ, hlen'
  refine forGo_fold D.str (fun T e => ∃ es o3 o8, TS (z0 :: N) es T ∧ e = [some (.sh (.lst (N.map .str))), some (.sh (.lst (L.map fcD))), some (.ow (.dct (encT es))), o3, o4, some (.sh (.str x)), some (.sh (.str y)), some (.sh (.int c)), o8]) (fun d z => FB.stepR d ((x, y, c), z)) (z0 :: N) T _ (fun z hz T env K2 hs hK2 => ?_) ⟨es, o3, o8, hT, rfl⟩ fun e ⟨es', o3', o8', h', he⟩ => ?_
  · obtain ⟨es, o3, o8, hT, rfl⟩ := hs
    refine ⟨_, rfl, ?_⟩
    unfold bodyOf
    exact c_turn (C := C) hS hx hz hT fun es' o8' h' => hK2 _ ⟨es', _, o8', h', rfl⟩
  · subst he
    exact hK' _ ⟨es', o3', o4, _, _, _, o8', h', rfl⟩
end Kt

namespace Kt
open PySem PySem.Spec PyProof.Rows L2 FA IP
local macro_rules
  | `(tactic| wp_walk using $[$ts:term],*) => `(tactic| simp only [w_nil, w_cons, w_frz, w_set, w_setLc, w_unp, w_par, w_aug, w_mut, w_setMut, w_put, w_expr, w_ret, w_retV, w_retN, w_if, w_for, w_while, w_pass, w_brk, w_cnt, w_fset, w_raise, w_raise0, evE, evEs, evO, evC, evG, evGs, lenG, evI, evIX, ms_of, ms_ret, m_bind, m_pure, m_some, m_none, m_need, m_ite, ms_ite, MS.seq, tst, mAnd, mOr, mNot, ch2, unpM, putM, mutM, callM, newM, drawM, raiseM, raise0M, v_d_sh, v_d_ow, v_d_bw, v_rb_, v_ri_, v_sl_sh, v_sl_ow, v_esc_sh, v_esc_ow, v_noBw_sh, v_noBw_ow, v_escs_nil, v_escs_sh, v_escs_ow, v_rslot_sh, v_rslot_ow, v_rvar_, v_ret_sh, v_ret_ow, v_owS_, v_owS_sh, v_owS_none, v_slD1_, v_tru_bl, v_tru_non, v_tru_int, v_tru_lst, v_tru_tup, v_asI_, v_asB_, v_bs_add, v_bs_sub, v_bs_mul, v_bs_mod, v_bs_div, v_add_int, v_add_str, v_add_lst, v_add_tup, v_sub_int, v_mod_int, v_neg_int, v_cs_eq, v_cs_ne, v_cs_lt, v_cs_le, v_cs_gt, v_cs_ge, v_cs_is, v_cs_isnot, v_cs_in, v_cs_notin, v_lt_int, v_le_int, v_gt_int, v_ge_int, v_isn_non, v_isn_int, v_isn_str, v_in_lst, v_in_tup, v_ix_lst, v_ix_tup, v_seq_lst, v_seq_tup, v_it_lst, v_it_tup, v_sld_lst, v_sld_tup, v_len_lst, v_len_tup, v_len_dct, v_max_int, v_min_int, v_list_lst, v_list_tup, v_tuple_lst, v_tuple_tup, v_tgn_, v_tgt_, v_tgnil_, v_tgcn_, v_par_nil, v_par_sh, v_par_ow, v_mu_app, v_mt_get, v_ty_dct, v_ty_str, v_put_dct, Option.map_some, Option.map_none, Option.isSome_some, Option.isSome_none, List.map_cons, List.map_nil, List.length_cons, List.length_nil, List.getElem?_cons_zero, List.getElem?_cons_succ, List.set_cons_zero, List.set_cons_succ, List.cons_append, List.nil_append, Nat.reduceAdd, Nat.reduceLeDiff, Nat.reduceSub, Nat.zero_le, sizeLine_eq, Bool.or_false, Bool.false_or, Bool.or_true, Bool.true_or, Bool.and_true, Bool.true_and, Bool.and_false, Bool.false_and, Bool.not_true, Bool.not_false, reduceIte, and_true, true_and, and_false, false_and, and_self, Bool.false_eq_true, v_get_int, v_get_str, v_in_dct, v_ix_dct, Option.getD_some, Option.getD_none, frzE, $[$ts:term],*])
theorem c_diag {C : Cn} {S : List Str} {N F : D} {Q : Out → Prop} {env : IP.Env} (hS : S.length ≤ 1000) (h : cSt S N F (fun _ _ => none) env) (fin : ∀ e, cSt S N F (FB.diagT S) e → Q (.nx e)) :
    forGo (evG (.nm 3)) (bodyOf C (.cons (.put 2 (.tup (.cons (.var 3) (.cons (.var 3) .nil))) (.int 0)) .nil)) (S.map .str) env Q := by
  refine forGo_fold D.str (cSt S N F) (fun T x => fun a b => if (a, b) = (x, x) then some 0 else T a b) S (fun _ _ => none) env (fun x hx T env K hs hK => ?_) h fun e he => fin e ?_
  · obtain ⟨es, o3, o4, o5, o6, o7, o8, hT, rfl⟩ := hs
    refine ⟨_, rfl, ?_⟩
    unfold bodyOf
    have hl := hT.len hS
    have hp := dPut_enc es (x, x) 0
    unfold kyD at hp
    wp_walk using hp, encT_len, LQ, hl
    exact hK _ ⟨_, _, o4, o5, o6, o7, o8, hT.put hx hx 0, rfl⟩
  · rw [← fold_diag S]
    exact he
theorem c_rounds {C : Cn} {z0 : Str} {N : List Str} {L : List (Str × Str × Int)} {T : FB.Tb Str} {Q : Out → Prop} {env : IP.Env} {n : Nat} (hN : N.length ≤ 900) (hL : ∀ f ∈ L, f.1 ∈ z0 :: N) (h : cSt (z0 :: N) (.lst (N.map .str)) (.lst (L.map fcD)) T env)
    (fin : ∀ e, cSt (z0 :: N) (.lst (N.map .str)) (.lst (L.map fcD)) ((List.range n).foldl (fun T _ => (opsC (z0 :: N) L).foldl FB.stepR T) T) e → Q (.nx e)) :
    forGo (evG (.nm 4)) (bodyOf C (.cons (.for_ (.tp (.cons (.nm 5) (.cons (.nm 6) (.cons (.nm 7) .nil)))) (.any (.var 1))
 (.cons (.for_ (.nm 3) (.any (.bin .Add (.lst (.cons (.str z0) .nil)) (.bi .list (.cons (.var 0) .nil))))
 (.cons (.set 8 (.ite (.cmp .In (.tup (.cons (.var 6) (.cons (.var 3) .nil))) (.var 2)) (.bin .Add (.ix (.var 2) (.tup (.cons (.var 6) (.cons (.var 3) .nil)))) (.var 7)) .non))
 (.cons (.if_ (.and (.cmp .IsNot (.var 8) .non) (.or (.cmp .NotIn (.tup (.cons (.var 5) (.cons (.var 3) .nil))) (.var 2)) (.cmp .Gt (.ix (.var 2) (.tup (.cons (.var 5) (.cons (.var 3) .nil)))) (.var 8))))
 (.frz 8 (.cons (.put 2 (.tup (.cons (.var 5) (.cons (.var 3) .nil))) (.var 8))
 .nil))
 .nil)
 .nil)))
 .nil)) .nil)) ((List.range n).map fun i : Nat => D.int (0 + (i : Int))) env Q := by
  refine forGo_fold (fun i : Nat => D.int (0 + (i : Int))) (cSt (z0 :: N) (.lst (N.map .str)) (.lst (L.map fcD))) (fun T _ => (opsC (z0 :: N) L).foldl FB.stepR T) (List.range n) T env (fun i hi T env K hs hK => ?_) h fin
  obtain ⟨es, o3, o4, o5, o6, o7, o8, hT, rfl⟩ := hs
  refine ⟨_, rfl, body_go (st_for ?_)⟩
  wp_walk using v_d_sh
  refine c_facts hN hL ⟨es, o3, _, o5, o6, o7, o8, hT, rfl⟩ fun e he => ?_
  rw [← foldl_ops] at he
  exact hK e he
theorem fold_rounds (S : List Str) (L : List (Str × Str × Int)) (T : FB.Tb Str) : ∀ n, (List.range n).foldl (fun T _ => (opsC S L).foldl FB.stepR T) T = FB.rounds (opsC S L) n T := by
  intro n
  induction n with
  | zero => rfl
  | succ n ih =>
    rw [List.range_succ, List.foldl_append, ih]
    rfl
theorem closed_sem (C : Cn) (N : List Str) (L : List (Str × Str × Int)) (hN : N.length ≤ 900) (hL : ∀ f ∈ L, f.1 ∈ ("" : Str) :: N) (Q : R → Prop) (E : Xn → Prop)
    (h : ∀ es, TS (("" : Str) :: N) es (FB.rounds (opsC (("" : Str) :: N) L) (N.length + 2) (FB.diagT (("" : Str) :: N))) → Q (.ow (.dct (encT es)))) : runB nn_law_closed (evSs C b_law_closed) [.lst (N.map .str), .lst (L.map fcD)] Q E := by
  have hS : (("" : Str) :: N).length ≤ 1000 := by rw [List.length_cons]; omega
  have hlen' : 1 + (N.map D.str).length ≤ 16777216 := by rw [List.length_map]; omega
  refine run_go ?_
  show evSs C b_law_closed [some (.sh (.lst (N.map .str))), some (.sh (.lst (L.map fcD))), none, none, none, none, none, none, none] (RQ Q E)
  unfold b_law_closed
  refine st_cons ?_
  wp_walk using v_d_sh
  refine sq_go (st_for ?_)
  wp_walk using hlen'
  refine c_diag (C := C) (S := ("" : Str) :: N) (N := .lst (N.map .str)) (F := .lst (L.map fcD)) hS ⟨[], none, none, none, none, none, none, ⟨rfl, List.nodup_nil, fun _ z => by cases z⟩, rfl⟩ fun e he => ?_
  obtain ⟨es, o3, o4, o5, o6, o7, o8, hT, rfl⟩ := he
  have hrng : rngD [.int (((N.map D.str).length : Int) + 2)] = _ := rng_nat (n := N.length + 2) (by rw [List.length_map]; omega) (by omega)
  refine sq_go (st_for ?_)
  wp_walk using hrng
  refine c_rounds (C := C) hN hL ⟨es, o3, o4, o5, o6, o7, o8, hT, rfl⟩ fun e he => ?_
  rw [fold_rounds] at he
  obtain ⟨es, o3, o4, o5, o6, o7, o8, hT, rfl⟩ := he
  refine sq_go (st_cons ?_)
  wp_walk using sq_rt, rq_rt
  exact h es hT
end Kt

namespace Kt
open PySem PySem.Spec PyProof.Rows L2 FA IP
noncomputable abbrev CC (k : Nat) : Cn := cnK (md []) k
section
variable {k : Nat} {ds : List D} {Q : R → Prop} {E : Xn → Prop}
theorem c_plus : callM (CC (k + 1)) "plus" ds Q E = (ds.length = 2 ∧ runB nn_plus (evSs (CC k) b_plus) ds Q E) := callM_def (d := t_plus) rfl rfl
theorem c_greater : callM (CC (k + 1)) "greater" ds Q E = (ds.length = 2 ∧ runB nn_greater (evSs (CC k) b_greater) ds Q E) := callM_def (d := t_greater) rfl rfl
theorem c_known : callM (CC (k + 1)) "known" ds Q E = (ds.length = 3 ∧ runB nn_known (evSs (CC k) b_known) ds Q E) := callM_def (d := t_known) rfl rfl
theorem c_is_integer : callM (CC (k + 1)) "is_integer" ds Q E = (ds.length = 1 ∧ runB nn_is_integer (evSs (CC k) b_is_integer) ds Q E) := callM_def (d := t_is_integer) rfl rfl
theorem c_is_name : callM (CC (k + 1)) "is_name" ds Q E = (ds.length = 1 ∧ runB nn_is_name (evSs (CC k) b_is_name) ds Q E) := callM_def (d := t_is_name) rfl rfl
theorem c_is_source : callM (CC (k + 1)) "is_source" ds Q E = (ds.length = 1 ∧ runB nn_is_source (evSs (CC k) b_is_source) ds Q E) := callM_def (d := t_is_source) rfl rfl
theorem c_are_different : callM (CC (k + 1)) "are_different" ds Q E = (ds.length = 1 ∧ runB nn_are_different (evSs (CC k) b_are_different) ds Q E) := callM_def (d := t_are_different) rfl rfl
theorem c_are_names : callM (CC (k + 1)) "are_names" ds Q E = (ds.length = 1 ∧ runB nn_are_names (evSs (CC k) b_are_names) ds Q E) := callM_def (d := t_are_names) rfl rfl
theorem c_is_fact : callM (CC (k + 1)) "is_fact" ds Q E = (ds.length = 1 ∧ runB nn_is_fact (evSs (CC k) b_is_fact) ds Q E) := callM_def (d := t_is_fact) rfl rfl
theorem c_are_facts : callM (CC (k + 1)) "are_facts" ds Q E = (ds.length = 1 ∧ runB nn_are_facts (evSs (CC k) b_are_facts) ds Q E) := callM_def (d := t_are_facts) rfl rfl
theorem c_tightest : callM (CC (k + 1)) "tightest" ds Q E = (ds.length = 2 ∧ runB nn_tightest (evSs (CC k) b_tightest) ds Q E) := callM_def (d := t_tightest) rfl rfl
theorem c_law_alike : callM (CC (k + 1)) "_law_alike" ds Q E = (ds.length = 2 ∧ runB nn_law_alike (evSs (CC k) b_law_alike) ds Q E) := callM_def (d := t_law_alike) rfl rfl
theorem c_law_mixed : callM (CC (k + 1)) "_law_mixed" ds Q E = (ds.length = 2 ∧ runB nn_law_mixed (evSs (CC k) b_law_mixed) ds Q E) := callM_def (d := t_law_mixed) rfl rfl
theorem c_law_names : callM (CC (k + 1)) "_law_names" ds Q E = (ds.length = 2 ∧ runB nn_law_names (evSs (CC k) b_law_names) ds Q E) := callM_def (d := t_law_names) rfl rfl
theorem c_law_number : callM (CC (k + 1)) "_law_number" ds Q E = (ds.length = 1 ∧ runB nn_law_number (evSs (CC k) b_law_number) ds Q E) := callM_def (d := t_law_number) rfl rfl
theorem c_law_facts : callM (CC (k + 1)) "_law_facts" ds Q E = (ds.length = 2 ∧ runB nn_law_facts (evSs (CC k) b_law_facts) ds Q E) := callM_def (d := t_law_facts) rfl rfl
theorem c_law_closed : callM (CC (k + 1)) "_law_closed" ds Q E = (ds.length = 2 ∧ runB nn_law_closed (evSs (CC k) b_law_closed) ds Q E) := callM_def (d := t_law_closed) rfl rfl
theorem c_law_sum : callM (CC (k + 1)) "_law_sum" ds Q E = (ds.length = 2 ∧ runB nn_law_sum (evSs (CC k) b_law_sum) ds Q E) := callM_def (d := t_law_sum) rfl rfl
theorem c_Facts_init : newM (CC (k + 1)) "Facts" ds Q E = (ds.length + 1 = 3 ∧ runI "Facts" nn_Facts_init (evSs (CC k) b_Facts_init) ds (fun x => Q (.sh x)) E) := newM_def (d := t_Facts_init) rfl
theorem c_Facts_names : mthM (CC (k + 1)).mtab (CC (k + 1)).msem "Facts" "names" ds Q E = (ds.length = 1 ∧ runB nn_Facts_names (evSs (CC k) b_Facts_names) ds Q E) := mthM_def (d := t_Facts_names) rfl
theorem mt_Facts_names : (CC k).mtab "Facts" "names" = some (["self"] : List Str) := mtab_def (d := t_Facts_names) rfl
theorem c_Facts_sources : mthM (CC (k + 1)).mtab (CC (k + 1)).msem "Facts" "sources" ds Q E = (ds.length = 1 ∧ runB nn_Facts_sources (evSs (CC k) b_Facts_sources) ds Q E) := mthM_def (d := t_Facts_sources) rfl
theorem mt_Facts_sources : (CC k).mtab "Facts" "sources" = some (["self"] : List Str) := mtab_def (d := t_Facts_sources) rfl
theorem c_Facts_need : mthM (CC (k + 1)).mtab (CC (k + 1)).msem "Facts" "need" ds Q E = (ds.length = 3 ∧ runB nn_Facts_need (evSs (CC k) b_Facts_need) ds Q E) := mthM_def (d := t_Facts_need) rfl
theorem mt_Facts_need : (CC k).mtab "Facts" "need" = some (["self", "x", "y"] : List Str) := mtab_def (d := t_Facts_need) rfl
theorem c_Facts_alike : mthM (CC (k + 1)).mtab (CC (k + 1)).msem "Facts" "alike" ds Q E = (ds.length = 2 ∧ runB nn_Facts_alike (evSs (CC k) b_Facts_alike) ds Q E) := mthM_def (d := t_Facts_alike) rfl
theorem mt_Facts_alike : (CC k).mtab "Facts" "alike" = some (["self", "other"] : List Str) := mtab_def (d := t_Facts_alike) rfl
theorem c_Facts_greatest : mthM (CC (k + 1)).mtab (CC (k + 1)).msem "Facts" "greatest" ds Q E = (ds.length = 3 ∧ runB nn_Facts_greatest (evSs (CC k) b_Facts_greatest) ds Q E) := mthM_def (d := t_Facts_greatest) rfl
theorem mt_Facts_greatest : (CC k).mtab "Facts" "greatest" = some (["self", "x", "y"] : List Str) := mtab_def (d := t_Facts_greatest) rfl
theorem c_Facts_bounds : mthM (CC (k + 1)).mtab (CC (k + 1)).msem "Facts" "bounds" ds Q E = (ds.length = 1 ∧ runB nn_Facts_bounds (evSs (CC k) b_Facts_bounds) ds Q E) := mthM_def (d := t_Facts_bounds) rfl
theorem mt_Facts_bounds : (CC k).mtab "Facts" "bounds" = some (["self"] : List Str) := mtab_def (d := t_Facts_bounds) rfl
theorem c_Facts_keeps : mthM (CC (k + 1)).mtab (CC (k + 1)).msem "Facts" "keeps" ds Q E = (ds.length = 2 ∧ runB nn_Facts_keeps (evSs (CC k) b_Facts_keeps) ds Q E) := mthM_def (d := t_Facts_keeps) rfl
theorem mt_Facts_keeps : (CC k).mtab "Facts" "keeps" = some (["self", "thing"] : List Str) := mtab_def (d := t_Facts_keeps) rfl
theorem c_Facts_and : mthM (CC (k + 1)).mtab (CC (k + 1)).msem "Facts" "__and__" ds Q E = (ds.length = 2 ∧ runB nn_Facts_and (evSs (CC k) b_Facts_and) ds Q E) := mthM_def (d := t_Facts_and) rfl
theorem mt_Facts_and : (CC k).mtab "Facts" "__and__" = some (["self", "other"] : List Str) := mtab_def (d := t_Facts_and) rfl
theorem c_Facts_eq : mthM (CC (k + 1)).mtab (CC (k + 1)).msem "Facts" "__eq__" ds Q E = (ds.length = 2 ∧ runB nn_Facts_eq (evSs (CC k) b_Facts_eq) ds Q E) := mthM_def (d := t_Facts_eq) rfl
theorem mt_Facts_eq : (CC k).mtab "Facts" "__eq__" = some (["self", "other"] : List Str) := mtab_def (d := t_Facts_eq) rfl
theorem g_ENDLESS_links : (CC k).gc "ENDLESS_links" = some (.str "endless") := gc_def rfl
theorem g_LETTERS : (CC k).gc "LETTERS" = some (.str "abcdefghijklmnopqrstuvwxyz") := gc_def rfl
theorem g_LONGEST : (CC k).gc "LONGEST" = some (.int 8) := gc_def rfl
theorem g_ZERO : (CC k).gc "ZERO" = some (.str "") := gc_def rfl
theorem g_ENDLESS_facts : (CC k).gc "ENDLESS_facts" = some (.str "endless") := gc_def rfl
theorem e_Wrong : (CC k).errs "Wrong" = some (["place"] : List Str) := errs_def rfl
theorem e_NoName : (CC k).errs "NoName" = some (["name"] : List Str) := errs_def rfl
theorem e_NoStart : (CC k).errs "NoStart" = some ([] : List Str) := errs_def rfl
theorem e_Unlike : (CC k).errs "Unlike" = some ([] : List Str) := errs_def rfl
theorem s_Facts : (CC k).slots "Facts" = some (["held_bounds", "held_names"] : List Str) := slots_def rfl
theorem f_Facts_held_bounds {x : D} {r : List (Option D)} : fldS (CC k).slots "held_bounds" "Facts" (some x :: r) = some x := fldS_at (i := 0) s_Facts (by decide +kernel) rfl
theorem p_Facts_held_bounds {a : Addr} {fs : List (Option D)} {x : D} {r : IP.Env} : putI (CC k).slots "held_bounds" x (some (.ini a "Facts" fs) :: r) = some (some (.ini a "Facts" (putF 0 x fs)) :: r) := putI_at s_Facts (by decide +kernel)
theorem f_Facts_held_names {o0 : Option D} {x : D} {r : List (Option D)} : fldS (CC k).slots "held_names" "Facts" (o0 :: some x :: r) = some x := fldS_at (i := 1) s_Facts (by decide +kernel) rfl
theorem p_Facts_held_names {a : Addr} {fs : List (Option D)} {x : D} {r : IP.Env} : putI (CC k).slots "held_names" x (some (.ini a "Facts" fs) :: r) = some (some (.ini a "Facts" (putF 1 x fs)) :: r) := putI_at s_Facts (by decide +kernel)
end
end Kt

namespace Kt
open PySem PySem.Spec PyProof.Rows L2 FA IP
local macro_rules
  | `(tactic| wp_walk using $[$ts:term],*) => `(tactic| simp only [w_nil, w_cons, w_frz, w_set, w_setLc, w_unp, w_par, w_aug, w_mut, w_setMut, w_put, w_expr, w_ret, w_retV, w_retN, w_if, w_for, w_while, w_pass, w_brk, w_cnt, w_fset, w_raise, w_raise0, evE, evEs, evO, evC, evG, evGs, lenG, evI, evIX, ms_of, ms_ret, m_bind, m_pure, m_some, m_none, m_need, m_ite, ms_ite, MS.seq, tst, mAnd, mOr, mNot, ch2, unpM, putM, mutM, drawM, raiseM, raise0M, v_d_sh, v_d_ow, v_d_bw, v_rb_, v_ri_, v_sl_sh, v_sl_ow, v_esc_sh, v_esc_ow, v_noBw_sh, v_noBw_ow, v_escs_nil, v_escs_sh, v_escs_ow, v_rslot_sh, v_rslot_ow, v_rvar_, v_ret_sh, v_ret_ow, v_owS_, v_owS_sh, v_owS_none, v_slD1_, v_tru_bl, v_tru_non, v_tru_int, v_tru_lst, v_tru_tup, v_asI_, v_asB_, v_bs_add, v_bs_sub, v_bs_mul, v_bs_mod, v_bs_div, v_add_int, v_add_str, v_add_lst, v_add_tup, v_sub_int, v_mod_int, v_neg_int, v_cs_eq, v_cs_ne, v_cs_lt, v_cs_le, v_cs_gt, v_cs_ge, v_cs_is, v_cs_isnot, v_cs_in, v_cs_notin, v_lt_int, v_le_int, v_gt_int, v_ge_int, v_isn_non, v_isn_int, v_isn_str, v_in_lst, v_in_tup, v_ix_lst, v_ix_tup, v_seq_lst, v_seq_tup, v_it_lst, v_it_tup, v_sld_lst, v_sld_tup, v_len_lst, v_len_tup, v_len_dct, v_max_int, v_min_int, v_list_lst, v_list_tup, v_tuple_lst, v_tuple_tup, v_tgn_, v_tgt_, v_tgnil_, v_tgcn_, v_par_nil, v_par_sh, v_par_ow, v_mu_app, v_mt_get, v_ty_dct, v_ty_str, v_put_dct, Option.map_some, Option.map_none, Option.isSome_some, Option.isSome_none, List.map_cons, List.map_nil, List.length_cons, List.length_nil, List.getElem?_cons_zero, List.getElem?_cons_succ, List.set_cons_zero, List.set_cons_succ, List.cons_append, List.nil_append, Nat.reduceAdd, Nat.reduceLeDiff, Nat.reduceSub, Nat.zero_le, sizeLine_eq, Bool.or_false, Bool.false_or, Bool.or_true, Bool.true_or, Bool.and_true, Bool.true_and, Bool.and_false, Bool.false_and, Bool.not_true, Bool.not_false, reduceIte, and_true, true_and, and_false, false_and, and_self, Bool.false_eq_true, v_get_int, v_get_str, v_in_dct, v_ix_dct, Option.getD_some, Option.getD_none, frzE, mthR, mthI, v_flatM, m_draw, m_fail, rLc_app, turn_app, wipe_nil, wipe_cons, x_eq_int, x_eq_str, x_eq_si, x_eq_is, x_eq_ns, x_eq_sn, x_ne_str, x_ne_int, v_insC, v_iniC, v_fldD, v_fldI, decide_eq_true_eq, Int.reduceLT, Int.reduceLE, ↓drw_ok, lq_nx, lq_ct, lq_bk, lq_rt, lq_ex, sq_rt, sq_ex, sq_bk, sq_ct, rq_nx, rq_rt, rq_ex, iq_ex, $[$ts:term],*])
section
variable {k : Nat} {Q : R → Prop} {E : Xn → Prop} {ds : List D} {i : Int} {x : Str}
theorem ty_int1 : isTy (.int i) "int" = some true := rfl
theorem ty_int2 : isTy (.int i) "bool" = some false := rfl
theorem ty_str1 : isTy (.str x) "str" = some true := rfl
theorem ty_tup1 {a b c : D} (h : pls [a, b, c] = true) : isTy (.tup [a, b, c]) "tuple" = some true := by
  show (if pls [a, b, c] = true then some true else none) = _
  rw [if_pos h]
theorem ty_lst2 (h : pls ds = true) : isTys (.lst ds) ["list", "tuple"] = some true := by
  have e1 : isTy (.lst ds) "list" = some true := by
    show (if pls ds = true then some true else none) = _
    rw [if_pos h]
  have e2 : isTy (.lst ds) "tuple" = some false := by
    show (if pls ds = true then some false else none) = _
    rw [if_pos h]
  show (match isTy (.lst ds) "list", (match isTy (.lst ds) "tuple", (if pls ds = true then some false else none) with | some b, some c => some (b || c) | _, _ => none) with | some b, some c => some (b || c) | _, _ => none) = _
  rw [e1, e2, if_pos h]
  rfl
theorem ty_tup2 (h : pls ds = true) : isTys (.tup ds) ["list", "tuple"] = some true := by
  have e1 : isTy (.tup ds) "list" = some false := by
    show (if pls ds = true then some false else none) = _
    rw [if_pos h]
  have e2 : isTy (.tup ds) "tuple" = some true := by
    show (if pls ds = true then some true else none) = _
    rw [if_pos h]
  show (match isTy (.tup ds) "list", (match isTy (.tup ds) "tuple", (if pls ds = true then some false else none) with | some b, some c => some (b || c) | _, _ => none) with | some b, some c => some (b || c) | _, _ => none) = _
  rw [e1, e2, if_pos h]
  rfl
def eD : Option Int → D
  | none => .str "endless"
  | some i => .int i
def fD : Option (Option Int) → D
  | none => .non
  | some x => eD x
theorem plus_e (a b : Option Int) (h : Q (.sh (eD (FB.addO a b)))) : callM (CC (k + 1)) "plus" [eD a, eD b] Q E := by
  classical
  rw [c_plus]
  refine ⟨rfl, run_go ?_⟩
  show evSs _ b_plus [some (.sh (eD a)), some (.sh (eD b))] _
  unfold b_plus
  have hin : inSeq (.str "endless") [eD a, eD b] = some (decide (a = none ∨ b = none)) := by
    rw [inSeq_nice rfl (by cases a <;> cases b <;> rfl) (Nat.zero_le _)]
    congr 1
    rw [decide_eq_decide]
    cases a <;> cases b <;> simp [eD]
  cases a with
  | none =>
    wp_walk using g_ENDLESS_links, hin, true_or, decide_true
    exact h
  | some a =>
    cases b with
    | none =>
      wp_walk using g_ENDLESS_links, hin, or_true, decide_true
      exact h
    | some b =>
      have hin2 : inSeq (.str "endless") [.int a, .int b] = some false := hin
      wp_walk using g_ENDLESS_links, hin2, eD
      exact h
theorem sum_e (a b : Option Int) (h : Q (.sh (eD (FB.addO a b)))) : callM (CC (k + 1)) "_law_sum" [eD a, eD b] Q E := by
  classical
  rw [c_law_sum]
  refine ⟨rfl, run_go ?_⟩
  show evSs _ b_law_sum [some (.sh (eD a)), some (.sh (eD b))] _
  unfold b_law_sum
  have hin : inSeq (.str "endless") [eD a, eD b] = some (decide (a = none ∨ b = none)) := by
    rw [inSeq_nice rfl (by cases a <;> cases b <;> rfl) (Nat.zero_le _)]
    congr 1
    rw [decide_eq_decide]
    cases a <;> cases b <;> simp [eD]
  cases a with
  | none =>
    wp_walk using hin, true_or, decide_true
    exact h
  | some a =>
    cases b with
    | none =>
      wp_walk using hin, or_true, decide_true
      exact h
    | some b =>
      have hin2 : inSeq (.str "endless") [.int a, .int b] = some false := hin
      wp_walk using hin2, eD
      exact h
def maxX : Option (Option Int) → Option Int → Option Int
  | none, b => b
  | some none, _ => none
  | some (some _), none => none
  | some (some a), some b => some (max a b)
theorem greater_e (a : Option (Option Int)) (b : Option Int) (h : Q (.sh (eD (maxX a b)))) : callM (CC (k + 1)) "greater" [fD a, eD b] Q E := by
  rw [c_greater]
  refine ⟨rfl, run_go ?_⟩
  show evSs _ b_greater [some (.sh (fD a)), some (.sh (eD b))] _
  unfold b_greater
  cases a with
  | none =>
    wp_walk using fD
    exact h
  | some a =>
    cases a with
    | none =>
      cases b with
      | none =>
        wp_walk using fD, eD, g_ENDLESS_links, decide_true
        exact h
      | some b =>
        wp_walk using fD, eD, g_ENDLESS_links, decide_true
        exact h
    | some a =>
      cases b with
      | none =>
        wp_walk using fD, eD, g_ENDLESS_links, decide_true
        exact h
      | some b =>
        wp_walk using fD, eD, g_ENDLESS_links
        have e : max a b = if b > a then b else a := by
          split <;> omega
        rw [show maxX (some (some a)) (some b) = some (max a b) from rfl, e] at h
        exact h
theorem alike_self (d : D) (hs : shw d = true) (hd : depD d ≤ 60) (hb : blk d ≤ 25000) (h : Q (.sh (.bl true))) : callM (CC (k + 1)) "_law_alike" [d, d] Q E := by
  rw [c_law_alike]
  refine ⟨rfl, run_go ?_⟩
  show evSs _ b_law_alike [some (.sh d), some (.sh d)] _
  unfold b_law_alike
  wp_walk using eqD_self hs hd, repr_self hs hd hb, decide_true
  exact h
theorem is_integer_int (h : Q (.sh (.bl true))) : callM (CC (k + 1)) "is_integer" [.int i] Q E := by
  rw [c_is_integer]
  refine ⟨rfl, run_go ?_⟩
  show evSs _ b_is_integer [some (.sh (.int i))] _
  unfold b_is_integer
  wp_walk using ty_int1, ty_int2
  exact h
end
end Kt

namespace Kt
open PySem PySem.Spec PyProof.Rows L2 FA IP
local macro_rules
  | `(tactic| wp_walk using $[$ts:term],*) => `(tactic| simp only [w_nil, w_cons, w_frz, w_set, w_setLc, w_unp, w_par, w_aug, w_mut, w_setMut, w_put, w_expr, w_ret, w_retV, w_retN, w_if, w_for, w_while, w_pass, w_brk, w_cnt, w_fset, w_raise, w_raise0, evE, evEs, evO, evC, evG, evGs, lenG, evI, evIX, ms_of, ms_ret, m_bind, m_pure, m_some, m_none, m_need, m_ite, ms_ite, MS.seq, tst, mAnd, mOr, mNot, ch2, unpM, putM, mutM, drawM, raiseM, raise0M, v_d_sh, v_d_ow, v_d_bw, v_rb_, v_ri_, v_sl_sh, v_sl_ow, v_esc_sh, v_esc_ow, v_noBw_sh, v_noBw_ow, v_escs_nil, v_escs_sh, v_escs_ow, v_rslot_sh, v_rslot_ow, v_rvar_, v_ret_sh, v_ret_ow, v_owS_, v_owS_sh, v_owS_none, v_slD1_, v_tru_bl, v_tru_non, v_tru_int, v_tru_lst, v_tru_tup, v_asI_, v_asB_, v_bs_add, v_bs_sub, v_bs_mul, v_bs_mod, v_bs_div, v_add_int, v_add_str, v_add_lst, v_add_tup, v_sub_int, v_mod_int, v_neg_int, v_cs_eq, v_cs_ne, v_cs_lt, v_cs_le, v_cs_gt, v_cs_ge, v_cs_is, v_cs_isnot, v_cs_in, v_cs_notin, v_lt_int, v_le_int, v_gt_int, v_ge_int, v_isn_non, v_isn_int, v_isn_str, v_in_lst, v_in_tup, v_ix_lst, v_ix_tup, v_seq_lst, v_seq_tup, v_it_lst, v_it_tup, v_sld_lst, v_sld_tup, v_len_lst, v_len_tup, v_len_dct, v_max_int, v_min_int, v_list_lst, v_list_tup, v_tuple_lst, v_tuple_tup, v_tgn_, v_tgt_, v_tgnil_, v_tgcn_, v_par_nil, v_par_sh, v_par_ow, v_mu_app, v_mt_get, v_ty_dct, v_ty_str, v_put_dct, Option.map_some, Option.map_none, Option.isSome_some, Option.isSome_none, List.map_cons, List.map_nil, List.length_cons, List.length_nil, List.getElem?_cons_zero, List.getElem?_cons_succ, List.set_cons_zero, List.set_cons_succ, List.cons_append, List.nil_append, Nat.reduceAdd, Nat.reduceLeDiff, Nat.reduceSub, Nat.zero_le, sizeLine_eq, Bool.or_false, Bool.false_or, Bool.or_true, Bool.true_or, Bool.and_true, Bool.true_and, Bool.and_false, Bool.false_and, Bool.not_true, Bool.not_false, reduceIte, and_true, true_and, and_false, false_and, and_self, Bool.false_eq_true, v_get_int, v_get_str, v_in_dct, v_ix_dct, Option.getD_some, Option.getD_none, frzE, mthR, mthI, v_flatM, m_draw, m_fail, rLc_app, turn_app, wipe_nil, wipe_cons, x_eq_int, x_eq_str, x_eq_si, x_eq_is, x_eq_ns, x_eq_sn, x_ne_str, x_ne_int, v_insC, v_iniC, v_fldD, v_fldI, decide_eq_true_eq, Int.reduceLT, Int.reduceLE, ↓drw_ok, lq_nx, lq_ct, lq_bk, lq_rt, lq_ex, sq_rt, sq_ex, sq_bk, sq_ct, rq_nx, rq_rt, rq_ex, iq_ex, $[$ts:term],*])
section
variable {k : Nat} {Q : R → Prop} {E : Xn → Prop} {ds : List D} {i : Int} {x : Str} {α : Type}
theorem all_bl : ∀ bs : List Bool, Bi.all.sem [.lst (bs.map D.bl)] = some (.sh (.bl (bs.all id))) := by
  intro bs
  have e : boolsD (bs.map D.bl) = some bs := by
    induction bs with
    | nil => rfl
    | cons b bs ih =>
      show (boolsD (bs.map D.bl)).map (b :: ·) = _
      rw [ih]
      rfl
  show (boolsD (bs.map D.bl)).map (fun ns => R.b (ns.all id)) = _
  rw [e]
  rfl
theorem lcGo_each {f : D → M (Option D)} {E : Xn → Prop} (enc : α → D) (g : α → D) (L : List α) (Q : List D → Prop) (h : ∀ a ∈ L, ∀ K : Option D → Prop, K (some (g a)) → f (enc a) K E) (hq : Q (L.map g)) : lcGo f (L.map enc) Q E := by
  refine lcGo_map enc (fun a => some (g a)) L Q h ?_
  rw [List.filterMap_eq_map']
  exact hq
theorem v_len_str (h : x.length ≤ sizeLine) : Bi.len.sem [.str x] = some (R.i x.length) := by
  show (if x.length ≤ sizeLine then some (R.i x.length) else none) = _
  rw [if_pos h]
theorem v_it_str : itD (.str x) = some (x.cps.toList.map fun c => D.str (txL [c])) := rfl
theorem v_in_chr {c : Nat} : inD (.str (txL [c])) (.str x) = some (decide (c ∈ x.cps.toList)) := rfl
/-- is_name of a text -/
theorem is_name_str (hl : x.length ≤ 1000) (h : Q (.sh (.bl (isNm x)))) : callM (CC (k + 1)) "is_name" [.str x] Q E := by
  have hl' : x.length ≤ sizeLine := le_line (by omega)
  rw [c_is_name]
  refine ⟨rfl, run_go ?_⟩
  show evSs _ b_is_name [some (.sh (.str x)), none] _
  unfold b_is_name
  refine st_cons ?_
  by_cases h1 : 1 ≤ x.length
  · have e1 : decide ((1 : Int) ≤ (x.length : Int)) = true := decide_eq_true (by omega)
    by_cases h2 : x.length ≤ 8
    · have e2 : decide ((x.length : Int) ≤ 8) = true := decide_eq_true (by omega)
      wp_walk using ty_str1, v_len_str hl', e1, e2, g_LONGEST
      refine sq_go (st_cons ?_)
      have hz : (x.cps.toList.map fun c => D.str (txL [c])).length ≤ 16777216 := by
        rw [List.length_map]
        have : x.cps.toList.length = x.length := rfl
        omega
      wp_walk using v_it_str, hz
      refine lcGo_each (fun c => D.str (txL [c])) (fun c => .bl (decide (c ∈ letters.cps.toList))) _ _ (fun c _ K hK => ?_) ?_
      · wp_walk using v_in_chr, g_LETTERS
        exact hK
      · have e : (x.cps.toList.map fun c => D.bl (decide (c ∈ letters.cps.toList))) = (x.cps.toList.map fun c => decide (c ∈ letters.cps.toList)).map D.bl := by rw [List.map_map]; rfl
        wp_walk using e, all_bl
        have e3 : isNm x = (x.cps.toList.map fun c => decide (c ∈ letters.cps.toList)).all id := by
          unfold isNm
          rw [decide_eq_true h1, decide_eq_true h2, List.all_map]
          rfl
        rw [e3] at h
        exact h
    · have e2 : decide ((x.length : Int) ≤ 8) = false := decide_eq_false (by omega)
      wp_walk using ty_str1, v_len_str hl', e1, e2, g_LONGEST
      have e3 : isNm x = false := by
        unfold isNm
        rw [decide_eq_false h2]
        simp
      rw [e3] at h
      exact h
  · have e1 : decide ((1 : Int) ≤ (x.length : Int)) = false := decide_eq_false (by omega)
    wp_walk using ty_str1, v_len_str hl', e1
    have e3 : isNm x = false := by
      unfold isNm
      rw [decide_eq_false h1]
      simp
    rw [e3] at h
    exact h
theorem is_source_str (hl : x.length ≤ 1000) (h : Q (.sh (.bl (decide (x = ("" : Str)) || isNm x)))) : callM (CC (k + 2)) "is_source" [.str x] Q E := by
  rw [c_is_source]
  refine ⟨rfl, run_go ?_⟩
  show evSs _ b_is_source [some (.sh (.str x))] _
  unfold b_is_source
  refine st_cons ?_
  by_cases h1 : x = ("" : Str)
  · wp_walk using ty_str1, g_ZERO, h1, decide_true
    rw [decide_eq_true h1] at h
    exact h
  · wp_walk using ty_str1, g_ZERO, h1, decide_false
    rw [decide_eq_false h1, Bool.false_or] at h
    refine is_name_str hl ?_
    wp_walk using v_d_sh
    exact h
theorem is_fact_fc (f : Str × Str × Int) (h1 : f.1.length ≤ 1000) (h2 : f.2.1.length ≤ 1000) (s1 : (decide (f.1 = ("" : Str)) || isNm f.1) = true) (s2 : (decide (f.2.1 = ("" : Str)) || isNm f.2.1) = true) (h : Q (.sh (.bl true))) : callM (CC (k + 3)) "is_fact" [fcD f] Q E := by
  rw [c_is_fact]
  refine ⟨rfl, run_go ?_⟩
  show evSs _ b_is_fact [some (.sh (.tup [.str f.1, .str f.2.1, .int f.2.2]))] _
  unfold b_is_fact
  refine st_cons ?_
  have e0 : atI [D.str f.1, .str f.2.1, .int f.2.2] 0 = some (.str f.1) := rfl
  have e1 : atI [D.str f.1, .str f.2.1, .int f.2.2] 1 = some (.str f.2.1) := rfl
  have e2 : atI [D.str f.1, .str f.2.1, .int f.2.2] 2 = some (.int f.2.2) := rfl
  wp_walk using ty_tup1 (a := .str f.1) (b := .str f.2.1) (c := .int f.2.2) rfl, e2
  refine is_integer_int (k := k + 1) ?_
  wp_walk using v_d_sh
  refine sq_go (st_cons ?_)
  wp_walk using e0
  refine is_source_str (k := k) h1 ?_
  rw [s1]
  wp_walk using e1
  refine is_source_str (k := k) h2 ?_
  rw [s2]
  wp_walk using v_d_sh
  exact h
theorem pls_map (g : α → D) (L : List α) (h : ∀ a ∈ L, pl (g a) = true) : pls (L.map g) = true := by
  induction L with
  | nil => rfl
  | cons a L ih =>
    rw [List.map_cons, pls, h a List.mem_cons_self, ih fun b hb => h b (List.mem_cons_of_mem _ hb)]
    rfl
theorem all_true (L : List α) : ((L.map fun _ => true).all id) = true := by
  rw [List.all_map]
  exact List.all_eq_true.mpr fun _ _ => rfl
/-- the parts of facts are sources -/
def FcOk (f : Str × Str × Int) : Prop := f.1.length ≤ 1000 ∧ f.2.1.length ≤ 1000 ∧ (decide (f.1 = ("" : Str)) || isNm f.1) = true ∧ (decide (f.2.1 = ("" : Str)) || isNm f.2.1) = true
theorem are_facts_fc (L : List (Str × Str × Int)) (hl : L.length ≤ 1000) (hL : ∀ f ∈ L, FcOk f) (h : Q (.sh (.bl true))) : callM (CC (k + 4)) "are_facts" [.lst (L.map fcD)] Q E := by
  rw [c_are_facts]
  refine ⟨rfl, run_go ?_⟩
  show evSs _ b_are_facts [some (.sh (.lst (L.map fcD))), none] _
  unfold b_are_facts
  refine st_cons ?_
  have hz : (L.map fcD).length ≤ 16777216 := by rw [List.length_map]; omega
  wp_walk using ty_lst2 (pls_map fcD L fun _ _ => rfl), hz
  refine lcGo_each fcD (fun _ => .bl true) _ _ (fun f hf K hK => ?_) ?_
  · obtain ⟨a, b, c, d⟩ := hL f hf
    wp_walk using v_d_sh
    refine is_fact_fc f a b c d ?_
    wp_walk using v_d_sh
    exact hK
  · have e : (L.map fun _ => D.bl true) = (L.map fun _ => true).map D.bl := by rw [List.map_map]; rfl
    wp_walk using e, all_bl, all_true
    exact h
theorem cntR_nodup [DecidableEq α] : ∀ {l : List α}, l.Nodup → cntR l = l.length
  | [], _ => rfl
  | a :: l, h => by
    rw [List.nodup_cons] at h
    show (if a ∈ l then cntR l else cntR l + 1) = _
    rw [if_neg h.1, cntR_nodup h.2]
    rfl
theorem keysD_str : ∀ N : List Str, keysD (N.map D.str) = some (N.map Sum.inr)
  | [] => rfl
  | x :: N => by
    show (match keyOfD (.str x), keysD (N.map D.str) with | some k, some ks => some (k :: ks) | _, _ => none) = _
    rw [keysD_str N]
    rfl
theorem lenSet_nodup {N : List Str} (hl : N.length ≤ 1000) (hd : N.Nodup) : fLenSet (.lst (N.map .str)) = some (.sh (.int N.length)) := by
  show (match keysD (N.map D.str) with | some ks => if ks.length ≤ 4000 then some (R.sh (.int (cntD ks))) else none | none => none) = _
  rw [keysD_str]
  have hz : (N.map (Sum.inr : Str → Key)).length ≤ 4000 := by rw [List.length_map]; omega
  show (if (N.map (Sum.inr : Str → Key)).length ≤ 4000 then some (R.sh (.int (cntD (N.map (Sum.inr : Str → Key))))) else none) = _
  rw [if_pos hz]
  have hn : ((N.map (Sum.inr : Str → Key)).reverse).Nodup := by
    refine (List.reverse_perm _).nodup_iff.mpr ?_
    rw [List.Nodup, List.pairwise_map]
    exact List.Pairwise.imp (fun h z => h (by cases z; rfl)) hd
  unfold cntD
  rw [cntR_nodup hn, List.length_reverse, List.length_map]
theorem are_names_ok (N : List Str) (hl : N.length ≤ 1000) (hn : ∀ x ∈ N, isNm x = true) (hd : N.Nodup) (h : Q (.sh (.bl true))) : callM (CC (k + 2)) "are_names" [.lst (N.map .str)] Q E := by
  rw [c_are_names]
  refine ⟨rfl, run_go ?_⟩
  show evSs _ b_are_names [some (.sh (.lst (N.map .str))), none] _
  unfold b_are_names
  refine st_cons ?_
  have hz : (N.map D.str).length ≤ 16777216 := by rw [List.length_map]; omega
  wp_walk using ty_lst2 (pls_map D.str N fun _ _ => rfl), hz
  refine lcGo_each D.str (fun _ => .bl true) _ _ (fun x hx K hK => ?_) ?_
  · wp_walk using v_d_sh
    have hx := hn x hx
    refine is_name_str ?_ ?_
    · rw [txL_of x] at hx ⊢
      have := (isNm_tx.mp hx).2.1
      rw [txL_len]
      omega
    · rw [hx]
      wp_walk using v_d_sh
      exact hK
  · have e : (N.map fun _ => D.bl true) = (N.map fun _ => true).map D.bl := by rw [List.map_map]; rfl
    wp_walk using e, all_bl, all_true
    refine sq_go (st_cons ?_)
    wp_walk using v_d_sh
    rw [c_are_different]
    refine ⟨rfl, run_go ?_⟩
    show evSs _ b_are_different [some (.sh (.lst (N.map .str)))] _
    unfold b_are_different
    refine st_cons ?_
    wp_walk using lenSet_nodup hl hd, List.length_map, decide_true
    exact h
end
end Kt

namespace Kt
open PySem PySem.Spec PyProof.Rows L2 FA IP
local macro_rules
  | `(tactic| wp_walk using $[$ts:term],*) => `(tactic| simp only [w_nil, w_cons, w_frz, w_set, w_setLc, w_unp, w_par, w_aug, w_mut, w_setMut, w_put, w_expr, w_ret, w_retV, w_retN, w_if, w_for, w_while, w_pass, w_brk, w_cnt, w_fset, w_raise, w_raise0, evE, evEs, evO, evC, evG, evGs, lenG, evI, evIX, ms_of, ms_ret, m_bind, m_pure, m_some, m_none, m_need, m_ite, ms_ite, MS.seq, tst, mAnd, mOr, mNot, ch2, unpM, putM, mutM, drawM, raiseM, raise0M, v_d_sh, v_d_ow, v_d_bw, v_rb_, v_ri_, v_sl_sh, v_sl_ow, v_esc_sh, v_esc_ow, v_noBw_sh, v_noBw_ow, v_escs_nil, v_escs_sh, v_escs_ow, v_rslot_sh, v_rslot_ow, v_rvar_, v_ret_sh, v_ret_ow, v_owS_, v_owS_sh, v_owS_none, v_slD1_, v_tru_bl, v_tru_non, v_tru_int, v_tru_lst, v_tru_tup, v_asI_, v_asB_, v_bs_add, v_bs_sub, v_bs_mul, v_bs_mod, v_bs_div, v_add_int, v_add_str, v_add_lst, v_add_tup, v_sub_int, v_mod_int, v_neg_int, v_cs_eq, v_cs_ne, v_cs_lt, v_cs_le, v_cs_gt, v_cs_ge, v_cs_is, v_cs_isnot, v_cs_in, v_cs_notin, v_lt_int, v_le_int, v_gt_int, v_ge_int, v_isn_non, v_isn_int, v_isn_str, v_in_lst, v_in_tup, v_ix_lst, v_ix_tup, v_seq_lst, v_seq_tup, v_it_lst, v_it_tup, v_sld_lst, v_sld_tup, v_len_lst, v_len_tup, v_len_dct, v_max_int, v_min_int, v_list_lst, v_list_tup, v_tuple_lst, v_tuple_tup, v_tgn_, v_tgt_, v_tgnil_, v_tgcn_, v_par_nil, v_par_sh, v_par_ow, v_mu_app, v_mt_get, v_ty_dct, v_ty_str, v_put_dct, Option.map_some, Option.map_none, Option.isSome_some, Option.isSome_none, List.map_cons, List.map_nil, List.length_cons, List.length_nil, List.getElem?_cons_zero, List.getElem?_cons_succ, List.set_cons_zero, List.set_cons_succ, List.cons_append, List.nil_append, Nat.reduceAdd, Nat.reduceLeDiff, Nat.reduceSub, Nat.zero_le, sizeLine_eq, Bool.or_false, Bool.false_or, Bool.or_true, Bool.true_or, Bool.and_true, Bool.true_and, Bool.and_false, Bool.false_and, Bool.not_true, Bool.not_false, reduceIte, and_true, true_and, and_false, false_and, and_self, Bool.false_eq_true, v_get_int, v_get_str, v_in_dct, v_ix_dct, Option.getD_some, Option.getD_none, frzE, mthR, mthI, v_flatM, m_draw, m_fail, rLc_app, turn_app, wipe_nil, wipe_cons, x_eq_int, x_eq_str, x_eq_si, x_eq_is, x_eq_ns, x_eq_sn, x_ne_str, x_ne_int, v_insC, v_iniC, v_fldD, v_fldI, decide_eq_true_eq, Int.reduceLT, Int.reduceLE, ↓drw_ok, lq_nx, lq_ct, lq_bk, lq_rt, lq_ex, sq_rt, sq_ex, sq_bk, sq_ct, rq_nx, rq_rt, rq_ex, iq_ex, $[$ts:term],*])
section
variable {k : Nat} {Q : R → Prop} {E : Xn → Prop} {ds : List D} {i : Int} {x : Str} {α : Type}
theorem cutL_to {xs : List α} {a : Nat} : cutL xs none (some (a : Int)) = xs.take a := by
  unfold cutL
  rw [HT.sIx_nat, HT.sIx_none]
  show List.take (min a xs.length - 0) (xs.drop 0) = xs.take a
  rw [Nat.sub_zero, List.drop_zero]
  rcases Nat.le_total a xs.length with h | h
  · rw [Nat.min_eq_left h]
  · rw [Nat.min_eq_right h, List.take_of_length_le (Nat.le_refl _), List.take_of_length_le h]
theorem cutL_from {xs : List α} {a : Nat} (h : a ≤ xs.length) : cutL xs (some (a : Int)) none = xs.drop a := by
  unfold cutL
  rw [HT.sIx_nat, HT.sIx_none, Nat.min_eq_left h]
  rw [List.take_of_length_le (by rw [List.length_drop]; omega)]
theorem cutL_mid {xs : List α} {a b : Nat} (h : a ≤ b) (hb : b ≤ xs.length) : cutL xs (some (a : Int)) (some (b : Int)) = (xs.drop a).take (b - a) := by
  unfold cutL
  rw [HT.sIx_nat, HT.sIx_nat, Nat.min_eq_left hb, Nat.min_eq_left (Nat.le_trans h hb)]
theorem ix_letter {r : Int} (h0 : 0 ≤ r) (h1 : r < 26) : ixD (.str "abcdefghijklmnopqrstuvwxyz") (.int r) = some (.sh (.str (txL [97 + r.toNat]))) := by
  show (if letters.length ≤ sizeLine then (atI letters.cps.toList r).map (fun c => R.sh (.str ⟨#[c]⟩)) else none) = _
  rw [if_pos (by decide +kernel), letter_at h0 h1]
  rfl
theorem v_split {a b : Str} : Mt.split.sem (.str a) [.str b] = if (b.length == 0) = false ∧ a.length + 2 ≤ sizeLine then some (.ow (.lst ((Txt.split a b).map D.str))) else none := rfl
theorem split_words : Mt.split.sem (.str ("set most least call skip run part steps first names params results places plain high" ++ " low proc wide endless never a b ab ba z")) [.str " "] = some (.ow (.lst (words.map D.str))) := by
  rw [v_split, if_pos (by decide +kernel)]
  rfl
theorem add_words : bAdd (.str "set most least call skip run part steps first names params results places plain high") (.str " low proc wide endless never a b ab ba z") = some (.sh (.str ("set most least call skip run part steps first names params results places plain high" ++ " low proc wide endless never a b ab ba z"))) := by
  rw [v_add_str, if_pos (by decide +kernel)]
theorem strsD_map : ∀ ys : List Str, strsD (ys.map D.str) = some ys
  | [] => rfl
  | y :: ys => by
    show (strsD (ys.map D.str)).map (y :: ·) = _
    rw [strsD_map ys]
    rfl
theorem join_chrs (cs : List Nat) (h : cs.length ≤ 1000) : Mt.join.sem (.str "") [.lst (cs.map fun c => D.str (txL [c]))] = some (.sh (.str (txL cs))) := by
  have e : (cs.map fun c => D.str (txL [c])) = (cs.map fun c => txL [c]).map D.str := by rw [List.map_map]; rfl
  show joinD "" (cs.map fun c => D.str (txL [c])) = _
  rw [e]
  unfold joinD
  rw [strsD_map]
  show (if ((cs.map fun c => txL [c]).map (·.length)).sum + (cs.map fun c => txL [c]).length * Str.length "" ≤ 16777216 then some (R.sh (.str (Txt.join "" (cs.map fun c => txL [c])))) else none) = _
  have e0 : Str.length ("" : Str) = 0 := rfl
  rw [if_pos (by rw [sum_ones, e0]; omega)]
  rw [show (cs.map fun z => txL [z]) = (cs.map fun z => [z]).map txL by rw [List.map_map]; rfl, FA.join_nil, flat_one]
theorem mul3 {r : Int} (h0 : 0 ≤ r) (h1 : r ≤ 1000) : bMul (.int 3) (.int r) = some (.sh (.int (3 * r))) := by
  show (if (3 : Int).natAbs.log2 + r.natAbs.log2 < 1000000 then some (R.sh (.int (3 * r))) else none) = _
  rw [if_pos]
  have h2 : r.natAbs.log2 ≤ r.natAbs := Nat.log2_le_self _
  have h3 : (3 : Int).natAbs.log2 = 1 := by decide +kernel
  omega
theorem v_mod26 {r : Int} : bMod (.int r) (.int 26) = some (.sh (.int (r % 26))) := rfl
theorem v_int_int : Bi.int.sem [.int i] = some (R.i i) := rfl
theorem v_sld_str {lo hi : Option Int} (h : x.length ≤ sizeLine) : slD (.str x) lo hi = some (.sh (.str (cutS x lo hi))) := by
  show (if x.length ≤ sizeLine then _ else none) = _
  rw [if_pos h]
theorem add_str' {a b : Str} (h : a.length + b.length ≤ 16777216) : bAdd (.str a) (.str b) = some (.sh (.str (a ++ b))) := by
  rw [v_add_str, if_pos (le_line h)]
theorem names_sem (m : Nat) (hm : m ≤ 8) : Tells (callM (CC (k + 1)) "_law_names" [.bag, .int m]) fun r => ∃ ys, Names m ys ∧ r = .ow (.lst (ys.map .str)) := by
  intro Q E h
  rw [c_law_names]
  refine ⟨rfl, run_go ?_⟩
  show evSs _ b_law_names [some (.sh .bag), some (.sh (.int m)), none, none, none, none, none, none, none] _
  unfold b_law_names
  refine st_cons ?_
  wp_walk using v_d_sh
  refine sq_go (st_cons ?_)
  wp_walk using v_d_sh
  refine sq_go (st_cons ?_)
  have ty : tyD (.str ("set most least call skip run part steps first names params results places plain high" ++ " low proc wide endless never a b ab ba z")) = some Mt.split.ty := rfl
  simp only [w_set, evE, evEs, ms_of, m_bind, v_rvar_, List.getElem?_cons_succ, List.getElem?_cons_zero, v_rslot_sh, m_pure, v_d_sh, v_bs_add, add_words, m_some, m_need, ty, true_and, List.map_cons, List.map_nil, split_words, v_sl_ow, ms_ret, List.set_cons_succ, List.set_cons_zero]
  refine sq_go (st_cons ?_)
  wp_walk using v_d_sh
  intro st st0 st1 tu tu0 tu1
  refine sq_go (st_cons ?_)
  have ty2 : tyD (.str ("" : Str)) = some Mt.join.ty := rfl
  wp_walk using ty2
  intro nb nb0 nb1
  have hr : rngD [.int (1 + nb)] = _ := rng_nat (n := (1 + nb).toNat) (by omega) (by omega)
  wp_walk using hr
  refine ⟨by rw [List.length_map, List.length_range]; omega, ?_⟩
  refine lcGo_draw (fun i : Nat => D.int (0 + (i : Int))) (fun c : Nat => D.str (txL [c])) (fun _ c => 97 ≤ c ∧ c ≤ 122) _ _ (fun i _ K hK => ?_) fun ls hl hz => ?_
  · wp_walk using v_d_sh
    intro r r0 r1
    wp_walk using ix_letter r0 r1
    exact hK (97 + r.toNat) (by omega)
  rw [List.length_range] at hl
  have hls : 1 ≤ ls.length ∧ ls.length ≤ 7 := by omega
  have hzz : ∀ c ∈ ls, 97 ≤ c ∧ c ≤ 122 := by
    intro c hc
    obtain ⟨j, hj, rfl⟩ := List.getElem_of_mem hc
    exact hz j (by rw [List.length_range]; omega) hj
  wp_walk using join_chrs ls (by omega)
  refine sq_go (st_cons ?_)
  have hlb : (txL ls).length ≤ sizeLine := le_line (by rw [txL_len]; omega)
  have q0 : (0 : Int) < ((txL ls).length : Int) + 1 := by omega
  have q1 : ((txL ls).length : Int) + 1 < 1000000 := by rw [txL_len]; omega
  wp_walk using v_len_str hlb, drw_ok q0 q1
  intro at_ at0 at1
  rw [txL_len] at at1
  obtain ⟨a, rfl⟩ : ∃ a : Nat, at_ = (a : Int) := ⟨at_.toNat, (Int.toNat_of_nonneg at0).symm⟩
  obtain ⟨t, rfl⟩ : ∃ t : Nat, tu = (t : Int) := ⟨tu.toNat, (Int.toNat_of_nonneg tu0).symm⟩
  refine sq_go (st_cons ?_)
  by_cases hs0 : st = 0
  · have e1 : cutL (words.map D.str) (some (t : Int)) none = (words.drop t).map D.str := by rw [cutL_from (by rw [List.length_map, words_len]; omega), List.map_drop]
    have e2 : cutL (words.map D.str) none (some (t : Int)) = (words.take t).map D.str := by rw [cutL_to, List.map_take]
    have e3 : ((words.drop t).map D.str).length + ((words.take t).map D.str).length ≤ 16777216 := by
      rw [List.length_map, List.length_map, List.length_drop, List.length_take, words_len]
      omega
    have e4 : cutL ((words.drop t).map D.str ++ (words.take t).map D.str) none (some (m : Int)) = ((words.drop t ++ words.take t).take m).map D.str := by rw [cutL_to, ← List.map_append, List.map_take]
    wp_walk using hs0, decide_true, e1, e2, e3, e4
    exact h _ ⟨_, names_words (t := t) (m := m) (by omega) hm, rfl⟩
  · wp_walk using hs0, decide_false
    refine sq_go (st_cons ?_)
    have hrm : rngD [.int (m : Int)] = _ := rng_nat (n := m) rfl (by omega)
    have hzm : ((List.range m).map fun i : Nat => D.int (0 + (i : Int))).length ≤ 16777216 := by rw [List.length_map, List.length_range]; omega
    have hlt : ∀ j : Nat, 97 + ((((t : Int) + 3 * (0 + (j : Int))) % 26)).toNat = FA.lt t j := by
      intro j
      unfold FA.lt
      omega
    by_cases hs1 : st = 1
    · wp_walk using hs1, decide_true, hrm, hzm
      refine lcGo_each (fun i : Nat => D.int (0 + (i : Int))) (fun j => .str (txL [FA.lt t j])) _ _ (fun j hj K hK => ?_) ?_
      · have hj := List.mem_range.mp hj
        have hm3 : bMul (.int 3) (.int (0 + (j : Int))) = _ := mul3 (by omega) (by omega)
        have hix : ixD (.str "abcdefghijklmnopqrstuvwxyz") (.int (((t : Int) + 3 * (0 + (j : Int))) % 26)) = _ := ix_letter (Int.emod_nonneg _ (by decide)) (Int.emod_lt_of_pos _ (by decide))
        wp_walk using hm3, v_int_int, v_mod26, hix, hlt
        exact hK
      · wp_walk using v_d_sh
        exact h _ ⟨(List.range m).map fun j => txL [FA.lt t j], names_one (t := t) (m := m) hm, by rw [List.map_map]; rfl⟩
    · wp_walk using hs1, decide_false
      refine sq_go (st_cons ?_)
      wp_walk using hrm, hzm
      refine lcGo_each (fun i : Nat => D.int (0 + (i : Int))) (fun j => .str (txL (ls.take a ++ [FA.lt t j] ++ ls.drop a))) _ _ (fun j hj K hK => ?_) ?_
      · have hj := List.mem_range.mp hj
        have hm3 : bMul (.int 3) (.int (0 + (j : Int))) = _ := mul3 (by omega) (by omega)
        have hix : ixD (.str "abcdefghijklmnopqrstuvwxyz") (.int (((t : Int) + 3 * (0 + (j : Int))) % 26)) = _ := ix_letter (Int.emod_nonneg _ (by decide)) (Int.emod_lt_of_pos _ (by decide))
        have c1 : cutS (txL ls) none (some (a : Int)) = txL (ls.take a) := cutS_to (by omega)
        have c2 : cutS (txL ls) (some (a : Int)) none = txL (ls.drop a) := cutS_from (by omega)
        have s1 : bAdd (.str (txL (ls.take a))) (.str (txL [FA.lt t j])) = some (.sh (.str (txL (ls.take a ++ [FA.lt t j])))) := by
          rw [add_str', txL_app]
          rw [txL_len, txL_len, List.length_take, List.length_singleton]
          omega
        have s2 : bAdd (.str (txL (ls.take a ++ [FA.lt t j]))) (.str (txL (ls.drop a))) = some (.sh (.str (txL (ls.take a ++ [FA.lt t j] ++ ls.drop a)))) := by
          rw [add_str', txL_app]
          rw [txL_len, txL_len, List.length_append, List.length_take, List.length_drop, List.length_singleton]
          omega
        wp_walk using v_sld_str hlb, c1, c2, hm3, v_int_int, v_mod26, hix, hlt, s1, s2
        exact hK
      · wp_walk using v_d_sh
        exact h _ ⟨(List.range m).map fun j => txL (ls.take a ++ [FA.lt t j] ++ ls.drop a), names_put (t := t) (m := m) (by omega) hzz hm, by rw [List.map_map]; rfl⟩
end
end Kt

namespace Kt
open PySem PySem.Spec PyProof.Rows L2 FA IP
local macro_rules
  | `(tactic| wp_walk using $[$ts:term],*) => `(tactic| simp only [w_nil, w_cons, w_frz, w_set, w_setLc, w_unp, w_par, w_aug, w_mut, w_setMut, w_put, w_expr, w_ret, w_retV, w_retN, w_if, w_for, w_while, w_pass, w_brk, w_cnt, w_fset, w_raise, w_raise0, evE, evEs, evO, evC, evG, evGs, lenG, evI, evIX, ms_of, ms_ret, m_bind, m_pure, m_some, m_none, m_need, m_ite, ms_ite, MS.seq, tst, mAnd, mOr, mNot, ch2, unpM, putM, mutM, drawM, raiseM, raise0M, v_d_sh, v_d_ow, v_d_bw, v_rb_, v_ri_, v_sl_sh, v_sl_ow, v_esc_sh, v_esc_ow, v_noBw_sh, v_noBw_ow, v_escs_nil, v_escs_sh, v_escs_ow, v_rslot_sh, v_rslot_ow, v_rvar_, v_ret_sh, v_ret_ow, v_owS_, v_owS_sh, v_owS_none, v_slD1_, v_tru_bl, v_tru_non, v_tru_int, v_tru_lst, v_tru_tup, v_asI_, v_asB_, v_bs_add, v_bs_sub, v_bs_mul, v_bs_mod, v_bs_div, v_add_int, v_add_str, v_add_lst, v_add_tup, v_sub_int, v_mod_int, v_neg_int, v_cs_eq, v_cs_ne, v_cs_lt, v_cs_le, v_cs_gt, v_cs_ge, v_cs_is, v_cs_isnot, v_cs_in, v_cs_notin, v_lt_int, v_le_int, v_gt_int, v_ge_int, v_isn_non, v_isn_int, v_isn_str, v_in_lst, v_in_tup, v_ix_lst, v_ix_tup, v_seq_lst, v_seq_tup, v_it_lst, v_it_tup, v_sld_lst, v_sld_tup, v_len_lst, v_len_tup, v_len_dct, v_max_int, v_min_int, v_list_lst, v_list_tup, v_tuple_lst, v_tuple_tup, v_tgn_, v_tgt_, v_tgnil_, v_tgcn_, v_par_nil, v_par_sh, v_par_ow, v_mu_app, v_mt_get, v_ty_dct, v_ty_str, v_put_dct, Option.map_some, Option.map_none, Option.isSome_some, Option.isSome_none, List.map_cons, List.map_nil, List.length_cons, List.length_nil, List.getElem?_cons_zero, List.getElem?_cons_succ, List.set_cons_zero, List.set_cons_succ, List.cons_append, List.nil_append, Nat.reduceAdd, Nat.reduceLeDiff, Nat.reduceSub, Nat.zero_le, sizeLine_eq, Bool.or_false, Bool.false_or, Bool.or_true, Bool.true_or, Bool.and_true, Bool.true_and, Bool.and_false, Bool.false_and, Bool.not_true, Bool.not_false, reduceIte, and_true, true_and, and_false, false_and, and_self, Bool.false_eq_true, v_get_int, v_get_str, v_in_dct, v_ix_dct, Option.getD_some, Option.getD_none, frzE, mthR, mthI, v_flatM, m_draw, m_fail, rLc_app, turn_app, wipe_nil, wipe_cons, x_eq_int, x_eq_str, x_eq_si, x_eq_is, x_eq_ns, x_eq_sn, x_ne_str, x_ne_int, v_insC, v_iniC, v_fldD, v_fldI, decide_eq_true_eq, Int.reduceLT, Int.reduceLE, ↓drw_ok, lq_nx, lq_ct, lq_bk, lq_rt, lq_ex, sq_rt, sq_ex, sq_bk, sq_ct, rq_nx, rq_rt, rq_ex, iq_ex, $[$ts:term],*])
section
variable {k : Nat} {Q : R → Prop} {E : Xn → Prop} {ds : List D} {i : Int} {x : Str} {α : Type}
theorem one_str : ("1" : Str) = txL [49] := by decide +kernel
theorem nought_str : ("0" : Str) = txL [48] := by decide +kernel
theorem number_sem : Tells (callM (CC (k + 1)) "_law_number" [.bag]) fun r => ∃ z : Int, z.natAbs ≤ 10 ^ 38 ∧ r = .sh (.int z) := by
  intro Q E h
  rw [c_law_number]
  refine ⟨rfl, run_go ?_⟩
  show evSs _ b_law_number [some (.sh .bag), none] _
  unfold b_law_number
  refine st_if ?_
  wp_walk using v_d_sh
  intro r r0 r1
  by_cases hr : r = 0
  · rw [if_pos hr]
    refine body_go (st_cons ?_)
    have hm : ∀ n : Int, 0 ≤ n → n < 38 → bMul (.str "0") (.int (1 + n)) = some (.sh (.str (txL (List.replicate (1 + n).toNat 48)))) := by
      intro n h0 h1
      have := x_mul_str (c := 48) (n := (1 + n).toNat) (by omega)
      rw [← nought_str] at this
      rw [← this]
      congr 2
      omega
    wp_walk using v_d_sh
    intro n n0 n1
    have hadd : bAdd (.str "1") (.str (txL (List.replicate (1 + n).toNat 48))) = some (.sh (.str (txL (49 :: List.replicate (1 + n).toNat 48)))) := by
      rw [one_str, add_str', txL_app]
      · rfl
      · rw [txL_len, txL_len, List.length_replicate, List.length_singleton]
        omega
    have hint : Bi.int.sem [.str (txL (49 :: List.replicate (1 + n).toNat 48))] = some (R.i ((10 : Int) ^ (1 + n).toNat)) := by
      show (if (txL (49 :: List.replicate (1 + n).toNat 48)).length ≤ 640 then (PySem.intText? (txL (49 :: List.replicate (1 + n).toNat 48))).map R.i else none) = _
      rw [if_pos (by rw [txL_len, List.length_cons, List.length_replicate]; omega), int_ten _ (by omega)]
      rfl
    wp_walk using hm n n0 n1, hadd, hint
    intro q q0 q1
    refine sq_go (st_frz ?_)
    wp_walk using v_d_sh
    intro s s0 s1
    have hb : ((10 : Int) ^ (1 + n).toNat - q).natAbs ≤ 10 ^ 38 := by
      have h1 : (10 : Int) ^ (1 + n).toNat ≤ 10 ^ 38 := by
        have := Nat.pow_le_pow_right (n := 10) (by decide) (show (1 + n).toNat ≤ 38 by omega)
        exact_mod_cast this
      have h2 : (1 : Int) ≤ (10 : Int) ^ (1 + n).toNat := by
        have := Nat.one_le_pow (1 + n).toNat 10 (by decide)
        exact_mod_cast this
      have h3 : (10 : Int) ^ 38 = ((10 ^ 38 : Nat) : Int) := by norm_cast
      omega
    by_cases hs : s = 0
    · wp_walk using hs
      exact h _ ⟨_, hb, rfl⟩
    · wp_walk using hs
      exact h _ ⟨_, by rw [Int.natAbs_neg]; exact hb, rfl⟩
  · rw [if_neg hr]
    refine body_nil (sq_go (st_cons ?_))
    wp_walk using v_d_sh
    intro q q0 q1
    refine h _ ⟨_, ?_, rfl⟩
    exact Nat.le_trans (show (q - 4).natAbs ≤ 10 by omega) (by decide)
theorem mixed_sem (enc : α → D) (L : List α) (hl : L.length ≤ 1000) : Tells (callM (CC (k + 1)) "_law_mixed" [.bag, .lst (L.map enc)]) fun r => ∃ L' : List α, L'.Perm L ∧ r = .ow (.lst (L'.map enc)) := by
  intro Q E h
  rw [c_law_mixed]
  refine ⟨rfl, run_go ?_⟩
  show evSs _ b_law_mixed [some (.sh .bag), some (.sh (.lst (L.map enc))), none, none] _
  unfold b_law_mixed
  refine st_cons ?_
  wp_walk using v_d_sh
  refine sq_go (st_for ?_)
  wp_walk using v_d_sh
  refine forGo_ind enc (fun done env => ∃ L' o, L'.Perm done ∧ env = [some (.sh .bag), some (.sh (.lst (L.map enc))), some (.ow (.lst (L'.map enc))), o]) L _ (fun a done rest env K hL hI hK => ?_) ⟨[], none, .nil, rfl⟩ fun e he => ?_
  · obtain ⟨L', o, hp, rfl⟩ := hI
    have hd : done.length < L.length := by rw [hL, List.length_append, List.length_cons]; omega
    refine ⟨_, rfl, body_go (st_cons ?_)⟩
    have hl' := hp.length_eq
    have hz : (L'.map enc).length < sizeLine := by
      rw [List.length_map, sizeLine_eq]
      omega
    have q0 : (0 : Int) < ((L'.map enc).length : Int) + 1 := by omega
    have q1 : ((L'.map enc).length : Int) + 1 < 1000000 := by rw [List.length_map]; omega
    have hx : (∃ xs, D.lst (L'.map enc) = D.lst xs) = True := propext ⟨fun _ => trivial, fun _ => ⟨_, rfl⟩⟩
    wp_walk using drw_ok q0 q1, hx
    intro r r0 r1
    have hi : ∀ y, Mu.insert.sem (.lst (L'.map enc)) [.int r, y] = _ := fun y => v_ins hz r0 (by rw [List.length_map] at r1; omega)
    wp_walk using hi
    refine sq_go (st_nil (hK _ ⟨L'.take r.toNat ++ [a] ++ L'.drop r.toNat, some (.sh (enc a)), ?_, ?_⟩))
    · refine List.Perm.trans ?_ (List.Perm.append_right [a] hp)
      rw [List.append_assoc]
      refine List.Perm.trans (List.Perm.append_left _ List.perm_append_comm) ?_
      rw [← List.append_assoc, List.take_append_drop]
    · rw [List.map_append, List.map_append, List.map_take, List.map_drop]
      rfl
  · obtain ⟨L', o, hp, rfl⟩ := he
    refine sq_go (st_cons ?_)
    wp_walk using v_d_sh
    exact h _ ⟨L', hp, rfl⟩
end
end Kt

namespace Kt
open PySem PySem.Spec PyProof.Rows L2 FA IP
local macro_rules
  | `(tactic| wp_walk using $[$ts:term],*) => `(tactic| simp only [w_nil, w_cons, w_frz, w_set, w_setLc, w_unp, w_par, w_aug, w_mut, w_setMut, w_put, w_expr, w_ret, w_retV, w_retN, w_if, w_for, w_while, w_pass, w_brk, w_cnt, w_fset, w_raise, w_raise0, evE, evEs, evO, evC, evG, evGs, lenG, evI, evIX, ms_of, ms_ret, m_bind, m_pure, m_some, m_none, m_need, m_ite, ms_ite, MS.seq, tst, mAnd, mOr, mNot, ch2, unpM, putM, mutM, drawM, raiseM, raise0M, v_d_sh, v_d_ow, v_d_bw, v_rb_, v_ri_, v_sl_sh, v_sl_ow, v_esc_sh, v_esc_ow, v_noBw_sh, v_noBw_ow, v_escs_nil, v_escs_sh, v_escs_ow, v_rslot_sh, v_rslot_ow, v_rvar_, v_ret_sh, v_ret_ow, v_owS_, v_owS_sh, v_owS_none, v_slD1_, v_tru_bl, v_tru_non, v_tru_int, v_tru_lst, v_tru_tup, v_asI_, v_asB_, v_bs_add, v_bs_sub, v_bs_mul, v_bs_mod, v_bs_div, v_add_int, v_add_str, v_add_lst, v_add_tup, v_sub_int, v_mod_int, v_neg_int, v_cs_eq, v_cs_ne, v_cs_lt, v_cs_le, v_cs_gt, v_cs_ge, v_cs_is, v_cs_isnot, v_cs_in, v_cs_notin, v_lt_int, v_le_int, v_gt_int, v_ge_int, v_isn_non, v_isn_int, v_isn_str, v_in_lst, v_in_tup, v_ix_lst, v_ix_tup, v_seq_lst, v_seq_tup, v_it_lst, v_it_tup, v_sld_lst, v_sld_tup, v_len_lst, v_len_tup, v_len_dct, v_max_int, v_min_int, v_list_lst, v_list_tup, v_tuple_lst, v_tuple_tup, v_tgn_, v_tgt_, v_tgnil_, v_tgcn_, v_par_nil, v_par_sh, v_par_ow, v_mu_app, v_mt_get, v_ty_dct, v_ty_str, v_put_dct, Option.map_some, Option.map_none, Option.isSome_some, Option.isSome_none, List.map_cons, List.map_nil, List.length_cons, List.length_nil, List.getElem?_cons_zero, List.getElem?_cons_succ, List.set_cons_zero, List.set_cons_succ, List.cons_append, List.nil_append, Nat.reduceAdd, Nat.reduceLeDiff, Nat.reduceSub, Nat.zero_le, sizeLine_eq, Bool.or_false, Bool.false_or, Bool.or_true, Bool.true_or, Bool.and_true, Bool.true_and, Bool.and_false, Bool.false_and, Bool.not_true, Bool.not_false, reduceIte, and_true, true_and, and_false, false_and, and_self, Bool.false_eq_true, v_get_int, v_get_str, v_in_dct, v_ix_dct, Option.getD_some, Option.getD_none, frzE, mthR, mthI, v_flatM, m_draw, m_fail, rLc_app, turn_app, wipe_nil, wipe_cons, x_eq_int, x_eq_str, x_eq_si, x_eq_is, x_eq_ns, x_eq_sn, x_ne_str, x_ne_int, v_insC, v_iniC, v_fldD, v_fldI, decide_eq_true_eq, Int.reduceLT, Int.reduceLE, ↓drw_ok, lq_nx, lq_ct, lq_bk, lq_rt, lq_ex, sq_rt, sq_ex, sq_bk, sq_ct, rq_nx, rq_rt, rq_ex, iq_ex, $[$ts:term],*])
section
variable {k : Nat} {Q : R → Prop} {E : Xn → Prop} {ds : List D} {i : Int} {x : Str} {α : Type}
theorem atI_get {L : List α} {r : Int} (h0 : 0 ≤ r) (h1 : r < L.length) : ∃ (n : Nat) (h : n < L.length), r = n ∧ atI L r = some L[n] := by
  refine ⟨r.toNat, by omega, by omega, ?_⟩
  have e : L[r.toNat]? = some L[r.toNat] := List.getElem?_eq_getElem (by omega)
  have := atI_nat e
  rwa [Int.toNat_of_nonneg h0] at this
/-- the facts of a law: a start keeps them -/
structure FactsOk (S : List Str) (L : List (Str × Str × Int)) : Prop where
  pot : ∃ s : Str → Int, FB.Pot s L
  sub : ∀ f ∈ L, f.1 ∈ S ∧ f.2.1 ∈ S
  lim : ∀ f ∈ L, f.2.2.natAbs ≤ 10 ^ 39
  len : L.length ≤ 3
/-- what a fact was made of -/
def Made (S : List Str) (Z : List Int) (f : Str × Str × Int) : Prop := ∃ (a b : Nat) (ha : a < S.length) (hb : b < S.length) (ha' : a < Z.length) (hb' : b < Z.length) (r : Int), 0 ≤ r ∧ r < 4 ∧ f = (S[a], S[b], Z[a] - Z[b] + r)
theorem made_ok {S : List Str} {Z : List Int} {L : List (Str × Str × Int)} (hd : S.Nodup) (hl : Z.length = S.length) (hz : ∀ z ∈ Z, z.natAbs ≤ 10 ^ 38) (hL : ∀ f ∈ L, Made S Z f) (h3 : L.length ≤ 3) : FactsOk S L := by
  refine ⟨⟨fun x => Z.getD (S.idxOf x) 0, fun x y c h => ?_⟩, fun f hf => ?_, fun f hf => ?_, h3⟩
  · obtain ⟨a, b, ha, hb, ha', hb', r, r0, r1, e⟩ := hL _ h
    cases e
    have e1 : S.idxOf S[a] = a := List.Nodup.idxOf_getElem hd a ha
    have e2 : S.idxOf S[b] = b := List.Nodup.idxOf_getElem hd b hb
    show Z.getD (S.idxOf S[a]) 0 - Z.getD (S.idxOf S[b]) 0 ≤ _
    rw [e1, e2, List.getD_eq_getElem?_getD, List.getD_eq_getElem?_getD, List.getElem?_eq_getElem ha', List.getElem?_eq_getElem hb']
    show Z[a] - Z[b] ≤ _
    omega
  · obtain ⟨a, b, ha, hb, ha', hb', r, r0, r1, rfl⟩ := hL _ hf
    exact ⟨List.getElem_mem ha, List.getElem_mem hb⟩
  · obtain ⟨a, b, ha, hb, ha', hb', r, r0, r1, rfl⟩ := hL _ hf
    have h1 := hz _ (List.getElem_mem ha')
    have h2 := hz _ (List.getElem_mem hb')
    show (Z[a] - Z[b] + r).natAbs ≤ 10 ^ 39
    omega
theorem facts_sem (N : List Str) (hN : N.length ≤ 8) (hd : (("" : Str) :: N).Nodup) : Tells (callM (CC (k + 2)) "_law_facts" [.bag, .lst (N.map .str)]) fun r => ∃ L, FactsOk (("" : Str) :: N) L ∧ r = .ow (.lst (L.map fcD)) := by
  intro Q E h
  rw [c_law_facts]
  refine ⟨rfl, run_go ?_⟩
  show evSs _ b_law_facts [some (.sh .bag), some (.sh (.lst (N.map .str))), none, none, none, none, none, none, none] _
  unfold b_law_facts
  refine st_cons ?_
  have hz : 1 + (N.map D.str).length ≤ 16777216 := by rw [List.length_map]; omega
  wp_walk using hz
  refine sq_go (st_cons ?_)
  have hz2 : (N.map D.str).length ≤ 16777216 := by omega
  wp_walk using hz2
  refine lcGo_draw D.str D.int (fun _ z => z.natAbs ≤ 10 ^ 38) N _ (fun x _ K hK => ?_) fun zs hl hs => ?_
  · wp_walk using v_d_sh
    refine (number_sem (k := k)).go ?_
    rintro _ ⟨z, hz, rfl⟩
    wp_walk using v_d_sh
    exact hK z hz
  have hz3 : 1 + (zs.map D.int).length ≤ 16777216 := by rw [List.length_map]; omega
  wp_walk using hz3
  refine sq_go (st_for ?_)
  wp_walk using v_d_sh
  intro n n0 n1
  have hr : rngD [.int n] = _ := rng_nat (n := n.toNat) (by omega) (by omega)
  wp_walk using hr
  have hZ : ∀ z ∈ (0 : Int) :: zs, z.natAbs ≤ 10 ^ 38 := by
    intro z hz
    rcases List.mem_cons.mp hz with rfl | hz
    · exact Nat.zero_le _
    · obtain ⟨j, hj, rfl⟩ := List.getElem_of_mem hz
      exact hs j (by omega) hj
  have e0 : D.str ("" : Str) :: N.map D.str = (("" : Str) :: N).map D.str := rfl
  have e1 : D.int 0 :: zs.map D.int = ((0 : Int) :: zs).map D.int := rfl
  rw [e0, e1]
  have hlZ : ((0 : Int) :: zs).length = (("" : Str) :: N).length := by rw [List.length_cons, List.length_cons, hl]
  have hlS : (("" : Str) :: N).length = N.length + 1 := rfl
  generalize ("" : Str) :: N = S at *
  generalize (0 : Int) :: zs = Z at *
  refine forGo_rng (fun i env => ∃ L o3 o6 o7, L.length = i ∧ (∀ f ∈ L, Made S Z f) ∧ env = [some (.sh .bag), some (.sh (.lst (N.map .str))), some (.ow (.lst (Z.map .int))), o3, some (.ow (.lst (S.map .str))), some (.ow (.lst (L.map fcD))), o6, o7, none]) n.toNat _ (fun i env K hi hI hK => ?_) ⟨[], none, none, none, rfl, (fun _ z => by cases z), rfl⟩ fun e he => ?_
  · obtain ⟨L, o3, o6, o7, hLl, hLm, rfl⟩ := hI
    refine ⟨_, rfl, body_go (st_cons ?_)⟩
    have q0 : (0 : Int) < ((S.map D.str).length : Int) := by rw [List.length_map]; omega
    have q1 : ((S.map D.str).length : Int) < 1000000 := by rw [List.length_map]; omega
    wp_walk using drw_ok q0 q1
    intro x x0 x1 y y0 y1
    refine sq_go (st_cons ?_)
    rw [List.length_map] at x1 y1
    obtain ⟨a, ha, rfl, _⟩ := atI_get (L := S) x0 x1
    obtain ⟨b, hb, rfl, _⟩ := atI_get (L := S) y0 y1
    have ga : ∀ {β : Type} {M : List β} {c : Nat} (h : c < M.length), atI M (c : Int) = some M[c] := fun {β M c} h => atI_nat (List.getElem?_eq_getElem h)
    have i1 : atI (S.map D.str) (a : Int) = some (.str S[a]) := by rw [ga (by rw [List.length_map]; exact ha), List.getElem_map]
    have i2 : atI (S.map D.str) (b : Int) = some (.str S[b]) := by rw [ga (by rw [List.length_map]; exact hb), List.getElem_map]
    have ha' : a < Z.length := by omega
    have hb' : b < Z.length := by omega
    have i3 : atI (Z.map D.int) (a : Int) = some (.int Z[a]) := by rw [ga (by rw [List.length_map]; exact ha'), List.getElem_map]
    have i4 : atI (Z.map D.int) (b : Int) = some (.int Z[b]) := by rw [ga (by rw [List.length_map]; exact hb'), List.getElem_map]
    have hx : (∃ xs, D.lst (L.map fcD) = D.lst xs) = True := propext ⟨fun _ => trivial, fun _ => ⟨_, rfl⟩⟩
    have hz : (L.map fcD).length < 16777216 := by rw [List.length_map]; omega
    wp_walk using i1, i2, i3, i4, hx, hz
    intro r r0 r1
    have em : L.map fcD ++ [D.tup [D.str S[a], D.str S[b], D.int (Z[a] - Z[b] + r)]] = (L ++ [(S[a], S[b], Z[a] - Z[b] + r)]).map fcD := by
      rw [List.map_append]
      rfl
    rw [em]
    have h1 : (L ++ [(S[a], S[b], Z[a] - Z[b] + r)]).length = i + 1 := by rw [List.length_append, hLl]; rfl
    have h2 : ∀ f ∈ L ++ [(S[a], S[b], Z[a] - Z[b] + r)], Made S Z f := by
      intro f hf
      rcases List.mem_append.mp hf with hf | hf
      · exact hLm f hf
      · rw [List.mem_singleton] at hf
        exact ⟨a, b, ha, hb, ha', hb', r, r0, r1, hf⟩
    exact sq_go (st_nil (hK _ ⟨_, _, _, _, h1, h2, rfl⟩))
  · obtain ⟨L, o3, o6, o7, hLl, hLm, rfl⟩ := he
    refine sq_go (st_cons ?_)
    wp_walk using v_d_sh
    exact h _ ⟨L, made_ok hd hlZ hZ hLm (by omega), rfl⟩
end
end Kt

namespace Kt
open PySem PySem.Spec PyProof.Rows L2 FA IP
local macro_rules
  | `(tactic| wp_walk using $[$ts:term],*) => `(tactic| simp only [w_nil, w_cons, w_frz, w_set, w_setLc, w_unp, w_par, w_aug, w_mut, w_setMut, w_put, w_expr, w_ret, w_retV, w_retN, w_if, w_for, w_while, w_pass, w_brk, w_cnt, w_fset, w_raise, w_raise0, evE, evEs, evO, evC, evG, evGs, lenG, evI, evIX, ms_of, ms_ret, m_bind, m_pure, m_some, m_none, m_need, m_ite, ms_ite, MS.seq, tst, mAnd, mOr, mNot, ch2, unpM, putM, mutM, drawM, raiseM, raise0M, v_d_sh, v_d_ow, v_d_bw, v_rb_, v_ri_, v_sl_sh, v_sl_ow, v_esc_sh, v_esc_ow, v_noBw_sh, v_noBw_ow, v_escs_nil, v_escs_sh, v_escs_ow, v_rslot_sh, v_rslot_ow, v_rvar_, v_ret_sh, v_ret_ow, v_owS_, v_owS_sh, v_owS_none, v_slD1_, v_tru_bl, v_tru_non, v_tru_int, v_tru_lst, v_tru_tup, v_asI_, v_asB_, v_bs_add, v_bs_sub, v_bs_mul, v_bs_mod, v_bs_div, v_add_int, v_add_str, v_add_lst, v_add_tup, v_sub_int, v_mod_int, v_neg_int, v_cs_eq, v_cs_ne, v_cs_lt, v_cs_le, v_cs_gt, v_cs_ge, v_cs_is, v_cs_isnot, v_cs_in, v_cs_notin, v_lt_int, v_le_int, v_gt_int, v_ge_int, v_isn_non, v_isn_int, v_isn_str, v_in_lst, v_in_tup, v_ix_lst, v_ix_tup, v_seq_lst, v_seq_tup, v_it_lst, v_it_tup, v_sld_lst, v_sld_tup, v_len_lst, v_len_tup, v_len_dct, v_max_int, v_min_int, v_list_lst, v_list_tup, v_tuple_lst, v_tuple_tup, v_tgn_, v_tgt_, v_tgnil_, v_tgcn_, v_par_nil, v_par_sh, v_par_ow, v_mu_app, v_mt_get, v_ty_dct, v_ty_str, v_put_dct, Option.map_some, Option.map_none, Option.isSome_some, Option.isSome_none, List.map_cons, List.map_nil, List.length_cons, List.length_nil, List.getElem?_cons_zero, List.getElem?_cons_succ, List.set_cons_zero, List.set_cons_succ, List.cons_append, List.nil_append, Nat.reduceAdd, Nat.reduceLeDiff, Nat.reduceSub, Nat.zero_le, sizeLine_eq, Bool.or_false, Bool.false_or, Bool.or_true, Bool.true_or, Bool.and_true, Bool.true_and, Bool.and_false, Bool.false_and, Bool.not_true, Bool.not_false, reduceIte, and_true, true_and, and_false, false_and, and_self, Bool.false_eq_true, v_get_int, v_get_str, v_in_dct, v_ix_dct, Option.getD_some, Option.getD_none, frzE, mthR, mthI, v_flatM, m_draw, m_fail, rLc_app, turn_app, wipe_nil, wipe_cons, x_eq_int, x_eq_str, x_eq_si, x_eq_is, x_eq_ns, x_eq_sn, x_ne_str, x_ne_int, v_insC, v_iniC, v_fldD, v_fldI, decide_eq_true_eq, Int.reduceLT, Int.reduceLE, ↓drw_ok, lq_nx, lq_ct, lq_bk, lq_rt, lq_ex, sq_rt, sq_ex, sq_bk, sq_ct, rq_nx, rq_rt, rq_ex, iq_ex, $[$ts:term],*])
section
variable {k : Nat} {Q : R → Prop} {E : Xn → Prop} {ds : List D} {i : Int} {x y : Str} {α : Type}
def leS (a b : Str) : Bool := PySem.W.dataLe false toP (.str a) (.str b)
def srtS (N : List Str) : List Str := N.mergeSort leS
theorem srtS_perm (N : List Str) : (srtS N).Perm N := List.mergeSort_perm N leS
theorem sorted_str (N : List Str) (hl : N.length ≤ 1000) : Bi.sorted.sem [.lst (N.map .str)] = some (.ow (.lst ((srtS N).map .str))) := by
  show (srtD (N.map D.str)).map (fun es => R.ow (.lst es)) = _
  have e : srtD (N.map D.str) = some ((srtS N).map D.str) := by
    unfold srtD
    have mem : ∀ d ∈ (N.map D.str).map toP, ∃ x, d = .str x := by
      intro d hd
      rw [List.map_map] at hd
      obtain ⟨x, _, rfl⟩ := List.mem_map.mp hd
      exact ⟨x, rfl⟩
    rw [if_pos]
    · congr 1
      unfold srtS
      rw [List.map_mergeSort]
      intro a _ b _
      rfl
    · refine ⟨pls_map D.str N fun _ _ => rfl, ?_, .inr ?_, le_line (by rw [List.length_map]; omega), ?_⟩
      · intro d hd d' hd'
        obtain ⟨x, rfl⟩ := mem d hd
        obtain ⟨y, rfl⟩ := mem d' hd'
        rfl
      · intro d hd
        obtain ⟨x, rfl⟩ := mem d hd
        exact ⟨fun z => (by cases z), fun _ z => (by cases z)⟩
      · intro d hd
        obtain ⟨x, _, rfl⟩ := List.mem_map.mp hd
        exact Nat.zero_le _
  rw [e]
  rfl
theorem inSeq_str (x : Str) (N : List Str) : inSeq (.str x) (N.map .str) = some (decide (x ∈ N)) := by
  classical
  have hn : nices (N.map D.str) = true := by
    induction N with
    | nil => rfl
    | cons a N ih => rw [List.map_cons, nices, ih]; rfl
  rw [inSeq_nice rfl hn (Nat.zero_le _)]
  congr 1
  rw [decide_eq_decide, List.mem_map]
  constructor
  · rintro ⟨a, h, e⟩
    cases e
    exact h
  · intro h
    exact ⟨x, h, rfl⟩
/-- need, of sources -/
theorem need_sem (N : List Str) (o0 : Option D) (r : List (Option D)) (hx : x ∈ ("" : Str) :: N) (hy : y ∈ ("" : Str) :: N) (h : Q (.sh .non)) : mthM (CC (k + 1)).mtab (CC (k + 1)).msem "Facts" "need" [.ins "Facts" (o0 :: some (.tup (N.map .str)) :: r), .str x, .str y] Q E := by
  rw [c_Facts_need]
  refine ⟨rfl, run_go ?_⟩
  show evSs _ b_Facts_need [some (.sh (.ins "Facts" (o0 :: some (.tup (N.map .str)) :: r))), some (.sh (.str x)), some (.sh (.str y)), none] _
  unfold b_Facts_need
  refine st_for ?_
  wp_walk using v_d_sh
  refine forGo_fold D.str (fun (_ : Unit) env => ∃ o, env = [some (.sh (.ins "Facts" (o0 :: some (.tup (N.map .str)) :: r))), some (.sh (.str x)), some (.sh (.str y)), o]) (fun _ _ => ()) [x, y] () _ (fun z hz _ env K hs hK => ?_) ⟨none, rfl⟩ fun e he => ?_
  · obtain ⟨o, rfl⟩ := hs
    refine ⟨_, rfl, body_go (st_if ?_)⟩
    have hm : z ∈ ("" : Str) :: N := by
      rcases List.mem_cons.mp hz with rfl | hz
      · exact hx
      · rw [List.mem_singleton] at hz
        rw [hz]
        exact hy
    by_cases h0 : z = ("" : Str)
    · wp_walk using g_ZERO, h0, decide_true
      refine body_nil (sq_go (st_nil ?_))
      exact hK _ ⟨_, rfl⟩
    · have hN : z ∈ N := (List.mem_cons.mp hm).resolve_left h0
      wp_walk using g_ZERO, h0, decide_false, f_Facts_held_names, inSeq_str, hN, decide_true
      refine body_nil (sq_go (st_nil ?_))
      exact hK _ ⟨_, rfl⟩
  · obtain ⟨o, rfl⟩ := he
    refine sq_go (st_nil ?_)
    exact h
theorem sources_sem (N : List Str) (o0 : Option D) (r : List (Option D)) (hl : N.length ≤ 1000) (h : Q (.ow (.lst ((("" : Str) :: N).map .str)))) : mthM (CC (k + 1)).mtab (CC (k + 1)).msem "Facts" "sources" [.ins "Facts" (o0 :: some (.tup (N.map .str)) :: r)] Q E := by
  rw [c_Facts_sources]
  refine ⟨rfl, run_go ?_⟩
  show evSs _ b_Facts_sources [some (.sh (.ins "Facts" (o0 :: some (.tup (N.map .str)) :: r)))] _
  unfold b_Facts_sources
  refine st_cons ?_
  have es : escs (((N.map D.str).map R.sh) ++ []) = some (N.map D.str) := by
    rw [List.append_nil]
    generalize N.map D.str = ds
    induction ds with
    | nil => rfl
    | cons d ds ih => rw [List.map_cons, v_escs_sh, ih]; rfl
  have hz : (N.map D.str).length + 1 ≤ 16777216 := by rw [List.length_map]; omega
  wp_walk using g_ZERO, f_Facts_held_names, es, hz
  exact h
theorem greatest_sem {S N : List Str} {es : Te} {T : FB.Tb Str} (hT : TS S es T) (hx : x ∈ ("" : Str) :: N) (hy : y ∈ ("" : Str) :: N) (h : Q (.sh (eD (T x y)))) : mthM (CC (k + 2)).mtab (CC (k + 2)).msem "Facts" "greatest" [.ins "Facts" [some (.dct (encT es)), some (.tup (N.map .str))], .str x, .str y] Q E := by
  rw [c_Facts_greatest]
  refine ⟨rfl, run_go ?_⟩
  show evSs _ b_Facts_greatest [some (.sh (.ins "Facts" [some (.dct (encT es)), some (.tup (N.map .str))])), some (.sh (.str x)), some (.sh (.str y))] _
  unfold b_Facts_greatest
  refine st_cons ?_
  wp_walk using mt_Facts_need
  refine need_sem N _ _ hx hy ?_
  refine sq_go (st_cons ?_)
  have hg := get_enc hT x y
  cases q : T x y with
  | none =>
    rw [q] at h
    wp_walk using f_Facts_held_bounds, g_ENDLESS_facts, hg, q
    exact h
  | some u =>
    rw [q] at h
    wp_walk using f_Facts_held_bounds, g_ENDLESS_facts, hg, q
    exact h
end
end Kt

namespace Kt
open PySem PySem.Spec PyProof.Rows L2 FA IP
local macro_rules
  | `(tactic| wp_walk using $[$ts:term],*) => `(tactic| simp only [w_nil, w_cons, w_frz, w_set, w_setLc, w_unp, w_par, w_aug, w_mut, w_setMut, w_put, w_expr, w_ret, w_retV, w_retN, w_if, w_for, w_while, w_pass, w_brk, w_cnt, w_fset, w_raise, w_raise0, evE, evEs, evO, evC, evG, evGs, lenG, evI, evIX, ms_of, ms_ret, m_bind, m_pure, m_some, m_none, m_need, m_ite, ms_ite, MS.seq, tst, mAnd, mOr, mNot, ch2, unpM, putM, mutM, drawM, raiseM, raise0M, v_d_sh, v_d_ow, v_d_bw, v_rb_, v_ri_, v_sl_sh, v_sl_ow, v_esc_sh, v_esc_ow, v_noBw_sh, v_noBw_ow, v_escs_nil, v_escs_sh, v_escs_ow, v_rslot_sh, v_rslot_ow, v_rvar_, v_ret_sh, v_ret_ow, v_owS_, v_owS_sh, v_owS_none, v_slD1_, v_tru_bl, v_tru_non, v_tru_int, v_tru_lst, v_tru_tup, v_asI_, v_asB_, v_bs_add, v_bs_sub, v_bs_mul, v_bs_mod, v_bs_div, v_add_int, v_add_str, v_add_lst, v_add_tup, v_sub_int, v_mod_int, v_neg_int, v_cs_eq, v_cs_ne, v_cs_lt, v_cs_le, v_cs_gt, v_cs_ge, v_cs_is, v_cs_isnot, v_cs_in, v_cs_notin, v_lt_int, v_le_int, v_gt_int, v_ge_int, v_isn_non, v_isn_int, v_isn_str, v_in_lst, v_in_tup, v_ix_lst, v_ix_tup, v_seq_lst, v_seq_tup, v_it_lst, v_it_tup, v_sld_lst, v_sld_tup, v_len_lst, v_len_tup, v_len_dct, v_max_int, v_min_int, v_list_lst, v_list_tup, v_tuple_lst, v_tuple_tup, v_tgn_, v_tgt_, v_tgnil_, v_tgcn_, v_par_nil, v_par_sh, v_par_ow, v_mu_app, v_mt_get, v_ty_dct, v_ty_str, v_put_dct, Option.map_some, Option.map_none, Option.isSome_some, Option.isSome_none, List.map_cons, List.map_nil, List.length_cons, List.length_nil, List.getElem?_cons_zero, List.getElem?_cons_succ, List.set_cons_zero, List.set_cons_succ, List.cons_append, List.nil_append, Nat.reduceAdd, Nat.reduceLeDiff, Nat.reduceSub, Nat.zero_le, sizeLine_eq, Bool.or_false, Bool.false_or, Bool.or_true, Bool.true_or, Bool.and_true, Bool.true_and, Bool.and_false, Bool.false_and, Bool.not_true, Bool.not_false, reduceIte, and_true, true_and, and_false, false_and, and_self, Bool.false_eq_true, v_get_int, v_get_str, v_in_dct, v_ix_dct, Option.getD_some, Option.getD_none, frzE, mthR, mthI, v_flatM, m_draw, m_fail, rLc_app, turn_app, wipe_nil, wipe_cons, x_eq_int, x_eq_str, x_eq_si, x_eq_is, x_eq_ns, x_eq_sn, x_ne_str, x_ne_int, v_insC, v_iniC, v_fldD, v_fldI, decide_eq_true_eq, Int.reduceLT, Int.reduceLE, ↓drw_ok, lq_nx, lq_ct, lq_bk, lq_rt, lq_ex, sq_rt, sq_ex, sq_bk, sq_ct, rq_nx, rq_rt, rq_ex, iq_ex, $[$ts:term],*])
section
variable {k : Nat} {Q : R → Prop} {E : Xn → Prop} {ds : List D} {i : Int} {x y : Str} {α : Type}
theorem wk_lim {F : FB.Fc Str} {P : Str → Prop} {B : Nat} (hB : ∀ f ∈ F, f.2.2.natAbs ≤ B) {x z : Str} {n : Nat} {w : Int} (h : FB.Wk F P x z n w) : w.natAbs ≤ n * B := by
  induction h with
  | nil _ => simp
  | @cons x y z c w n _ m _ ih =>
    have := hB _ m
    have h2 : c.natAbs ≤ B := this
    have h3 : (c + w).natAbs ≤ c.natAbs + w.natAbs := Int.natAbs_add_le c w
    rw [Nat.succ_mul]
    omega
/-- the table of the facts, however the names are put -/
structure Tight (S : List Str) (L : List (Str × Str × Int)) (T : FB.Tb Str) : Prop where
  diag : ∀ x ∈ S, T x x = some 0
  lim : ∀ x y v, T x y = some v → v.natAbs ≤ 10 ^ 41
  eq : ∀ S' : List Str, (∀ a, a ∈ S' ↔ a ∈ S) → T = FB.tight S' S' (FB.layT S' L)
theorem tight_eq {S S' : List Str} {L : List (Str × Str × Int)} (h : FactsOk S L) (hS : ∀ a, a ∈ S' ↔ a ∈ S) {t : Nat} (ht : S.length ≤ t + 1) : FB.tight S' S' (FB.layT S' L) = FB.rounds (opsC S L) t (FB.diagT S) := by
  obtain ⟨s, hs⟩ := h.pot
  have hP : (fun a => a ∈ S') = fun a => a ∈ S := funext fun a => propext (hS a)
  have hF' : ∀ f ∈ L, f.1 ∈ S' ∧ f.2.1 ∈ S' := fun f hf => ⟨(hS _).mpr (h.sub f hf).1, (hS _).mpr (h.sub f hf).2⟩
  obtain ⟨T, hT⟩ := FB.tight_ok hs S' (D := []) (fun _ h => h) (FB.lay_tab hs hF') (fun k hk => nomatch hk)
  have hW := FB.tri_whole T hT fun a ha => by simpa using ha
  have hSo := T.sound
  rw [hP] at hW hSo
  have mem : ∀ f z, (f, z) ∈ opsC S L ↔ f ∈ L ∧ z ∈ S := by
    intro f z
    unfold opsC
    rw [List.mem_flatMap]
    constructor
    · rintro ⟨g, hg, hm⟩
      obtain ⟨u, hu, e⟩ := List.mem_map.mp hm
      cases e
      exact ⟨hg, hu⟩
    · rintro ⟨hf, hz⟩
      exact ⟨f, hf, List.mem_map.mpr ⟨z, hz, rfl⟩⟩
  refine FB.table_unique hSo hW (FB.rounds_sound (fun o ho => ?_) t (FB.diag_sound S)) ?_
  · have := (mem o.1 o.2).mp ho
    exact ⟨this.1, (h.sub _ this.1).1⟩
  · exact FB.rounds_whole hs (fun f hf z hz => (mem f z).mpr ⟨hf, hz⟩) (fun x hx => ⟨0, by unfold FB.diagT; rw [if_pos ⟨rfl, hx⟩], Int.le_refl _⟩) S (fun a ha => ha) ht
theorem tight_of {S : List Str} {L : List (Str × Str × Int)} (h : FactsOk S L) (hl : S.length ≤ 9) : Tight S L (FB.rounds (opsC S L) (S.length + 1) (FB.diagT S)) := by
  have e := tight_eq h (S' := S) (fun _ => Iff.rfl) (t := S.length + 1) (by omega)
  obtain ⟨s, hs⟩ := h.pot
  obtain ⟨T, hT⟩ := FB.tight_ok hs S (D := []) (fun _ h => h) (FB.lay_tab hs h.sub) (fun k hk => nomatch hk)
  have hW := FB.tri_whole T hT fun a ha => by simpa using ha
  refine ⟨fun x hx => ?_, fun x y v hv => ?_, fun S' hS' => (tight_eq h hS' (by omega)).symm⟩
  · rw [← e]
    exact T.diag x hx
  · rw [← e] at hv
    obtain ⟨n, w⟩ := T.sound x y v hv
    obtain ⟨n', w', h1, h2, h3⟩ := FB.Wk.short hs S.length S _ rfl (fun a ha => ha) w
    obtain ⟨v', e1, h4⟩ := hW x y n' w' h1
    rw [hv] at e1
    cases e1
    have e2 : v = w' := by omega
    subst e2
    have := wk_lim h.lim h1
    have : n' * 10 ^ 39 ≤ 8 * 10 ^ 39 := Nat.mul_le_mul_right _ (by omega)
    omega
theorem putF0 {d : D} : putF 1 d [] = [none, some d] := rfl
theorem putF1 {c d : D} : putF 0 d [none, some c] = [some d, some c] := rfl
/-- Facts(names, facts) -/
theorem facts_new (N : List Str) (L : List (Str × Str × Int)) {T : FB.Tb Str} (hl : N.length ≤ 8) (hn : ∀ x ∈ N, isNm x = true) (hd : N.Nodup) (hL : FactsOk (("" : Str) :: N) L) (hT : Tight (("" : Str) :: N) L T)
    (h : ∀ es, TS (("" : Str) :: srtS N) es T → Q (.sh (.ins "Facts" [some (.dct (encT es)), some (.tup ((srtS N).map .str))]))) : newM (CC (k + 5)) "Facts" [.lst (N.map .str), .lst (L.map fcD)] Q E := by
  have hp := srtS_perm N
  have hmem : ∀ a, a ∈ ("" : Str) :: srtS N ↔ a ∈ ("" : Str) :: N := fun a => by
    rw [List.mem_cons, List.mem_cons, hp.mem_iff]
  have hlen : (srtS N).length = N.length := hp.length_eq
  have hTS := hT.eq _ hmem
  have hnm : ∀ x : Str, x ∈ ("" : Str) :: N → x.length ≤ 1000 ∧ (decide (x = ("" : Str)) || isNm x) = true := by
    intro x hx
    rcases List.mem_cons.mp hx with rfl | hx
    · exact ⟨Nat.zero_le _, by rw [decide_eq_true rfl]; rfl⟩
    · have h1 := hn x hx
      refine ⟨?_, by rw [h1, Bool.or_true]⟩
      rw [txL_of x] at h1 ⊢
      have := (isNm_tx.mp h1).2.1
      rw [txL_len]
      omega
  rw [c_Facts_init]
  refine ⟨rfl, runI_go fun a => ?_⟩
  show evSs _ b_Facts_init [some (.ini a "Facts" []), some (.sh (.lst (N.map .str))), some (.sh (.lst (L.map fcD))), none, none, none, none] _
  unfold b_Facts_init
  refine st_if ?_
  wp_walk using v_d_sh
  refine are_names_ok (k := k + 2) N (by omega) hn hd ?_
  wp_walk using v_d_sh
  refine body_nil (sq_go (st_if ?_))
  wp_walk using v_d_sh
  refine are_facts_fc (k := k) L (by have := hL.len; omega) (fun f hf => ?_) ?_
  · obtain ⟨m1, m2⟩ := hL.sub f hf
    exact ⟨(hnm _ m1).1, (hnm _ m2).1, (hnm _ m1).2, (hnm _ m2).2⟩
  wp_walk using v_d_sh
  refine body_nil (sq_go (st_cons ?_))
  wp_walk using sorted_str N (by omega), p_Facts_held_names, putF0
  refine sq_go (st_for ?_)
  wp_walk using v_d_sh
  refine forGo_fold fcD (fun (_ : Unit) env => ∃ o3 o4 o5, env = [some (.ini a "Facts" [none, some (.tup ((srtS N).map .str))]), some (.sh (.lst (N.map .str))), some (.sh (.lst (L.map fcD))), o3, o4, o5, none]) (fun _ _ => ()) L () _ (fun f hf _ env K hs hK => ?_) ⟨none, none, none, rfl⟩ fun e he => ?_
  · obtain ⟨o3, o4, o5, rfl⟩ := hs
    obtain ⟨m1, m2⟩ := hL.sub f hf
    refine ⟨_, rfl, body_go (st_cons ?_)⟩
    wp_walk using mt_Facts_need, ne_eq, reduceCtorEq, not_false_eq_true
    refine need_sem (k := k + 3) (srtS N) none [] ((hmem _).mpr m1) ((hmem _).mpr m2) ⟨rfl, ?_⟩
    refine sq_go (st_nil ?_)
    exact hK _ ⟨_, _, _, rfl⟩
  · obtain ⟨o3, o4, o5, rfl⟩ := he
    have flat : flatR (.ow (.lst ((("" : Str) :: srtS N).map .str))) = true := by
      show ((("" : Str) :: srtS N).map D.str).all flatD = true
      rw [List.all_map]
      exact List.all_eq_true.mpr fun _ _ => rfl
    refine sq_go (st_cons ?_)
    wp_walk using mt_Facts_sources, ne_eq, reduceCtorEq, not_false_eq_true
    refine sources_sem (k := k + 3) (srtS N) none [] (by omega) ⟨flat, ?_⟩
    wp_walk using v_d_sh
    rw [c_tightest]
    refine ⟨rfl, tight_sem _ (("" : Str) :: srtS N) L _ (.inl rfl) (by rw [List.length_cons]; omega) (fun f hf => ⟨(hmem _).mpr (hL.sub f hf).1, (hmem _).mpr (hL.sub f hf).2⟩) _ _ fun es hes => ?_⟩
    rw [← hTS] at hes
    wp_walk using p_Facts_held_bounds, putF1
    refine sq_go (st_if ?_)
    wp_walk using mt_Facts_sources, ne_eq, reduceCtorEq, not_false_eq_true
    refine sources_sem (k := k + 3) (srtS N) _ _ (by omega) ⟨flat, ?_⟩
    have hz : ((("" : Str) :: srtS N).map D.str).length ≤ 16777216 := by rw [List.length_map, List.length_cons]; omega
    simp only [v_d_ow, v_it_lst, m_some]
    refine ⟨le_line hz, ?_⟩
    refine lcGo_each D.str (fun _ => .bl true) _ _ (fun x hx K hK => ?_) ?_
    · have hg := get_enc hes x x
      rw [hT.diag x ((hmem x).mp hx)] at hg
      wp_walk using f_Facts_held_bounds, hg, decide_true
      exact hK
    · have e : ((("" : Str) :: srtS N).map fun _ => D.bl true) = ((("" : Str) :: srtS N).map fun _ => true).map D.bl := by rw [List.map_map]; rfl
      rw [e]
      have hall : Bi.all.sem [.lst (D.bl true :: List.map D.bl (List.map (fun _ => true) (srtS N)))] = some (.sh (.bl true)) := by
        have := all_bl ((("" : Str) :: srtS N).map fun _ => true)
        rw [all_true] at this
        exact this
      wp_walk using hall
      refine body_nil (sq_go (st_nil ?_))
      exact ⟨_, rfl, by simp, h es hes⟩
end
end Kt

namespace Kt
open PySem PySem.Spec PyProof.Rows L2 FA IP
local macro_rules
  | `(tactic| wp_walk using $[$ts:term],*) => `(tactic| simp only [w_nil, w_cons, w_frz, w_set, w_setLc, w_unp, w_par, w_aug, w_mut, w_setMut, w_put, w_expr, w_ret, w_retV, w_retN, w_if, w_for, w_while, w_pass, w_brk, w_cnt, w_fset, w_raise, w_raise0, evE, evEs, evO, evC, evG, evGs, lenG, evI, evIX, ms_of, ms_ret, m_bind, m_pure, m_some, m_none, m_need, m_ite, ms_ite, MS.seq, tst, mAnd, mOr, mNot, ch2, unpM, putM, mutM, drawM, raiseM, raise0M, v_d_sh, v_d_ow, v_d_bw, v_rb_, v_ri_, v_sl_sh, v_sl_ow, v_esc_sh, v_esc_ow, v_noBw_sh, v_noBw_ow, v_escs_nil, v_escs_sh, v_escs_ow, v_rslot_sh, v_rslot_ow, v_rvar_, v_ret_sh, v_ret_ow, v_owS_, v_owS_sh, v_owS_none, v_slD1_, v_tru_bl, v_tru_non, v_tru_int, v_tru_lst, v_tru_tup, v_asI_, v_asB_, v_bs_add, v_bs_sub, v_bs_mul, v_bs_mod, v_bs_div, v_add_int, v_add_str, v_add_lst, v_add_tup, v_sub_int, v_mod_int, v_neg_int, v_cs_eq, v_cs_ne, v_cs_lt, v_cs_le, v_cs_gt, v_cs_ge, v_cs_is, v_cs_isnot, v_cs_in, v_cs_notin, v_lt_int, v_le_int, v_gt_int, v_ge_int, v_isn_non, v_isn_int, v_isn_str, v_in_lst, v_in_tup, v_ix_lst, v_ix_tup, v_seq_lst, v_seq_tup, v_it_lst, v_it_tup, v_sld_lst, v_sld_tup, v_len_lst, v_len_tup, v_len_dct, v_max_int, v_min_int, v_list_lst, v_list_tup, v_tuple_lst, v_tuple_tup, v_tgn_, v_tgt_, v_tgnil_, v_tgcn_, v_par_nil, v_par_sh, v_par_ow, v_mu_app, v_mt_get, v_ty_dct, v_ty_str, v_put_dct, Option.map_some, Option.map_none, Option.isSome_some, Option.isSome_none, List.map_cons, List.map_nil, List.length_cons, List.length_nil, List.getElem?_cons_zero, List.getElem?_cons_succ, List.set_cons_zero, List.set_cons_succ, List.cons_append, List.nil_append, Nat.reduceAdd, Nat.reduceLeDiff, Nat.reduceSub, Nat.zero_le, sizeLine_eq, Bool.or_false, Bool.false_or, Bool.or_true, Bool.true_or, Bool.and_true, Bool.true_and, Bool.and_false, Bool.false_and, Bool.not_true, Bool.not_false, reduceIte, and_true, true_and, and_false, false_and, and_self, Bool.false_eq_true, v_get_int, v_get_str, v_in_dct, v_ix_dct, Option.getD_some, Option.getD_none, frzE, mthR, mthI, v_flatM, m_draw, m_fail, rLc_app, turn_app, wipe_nil, wipe_cons, x_eq_int, x_eq_str, x_eq_si, x_eq_is, x_eq_ns, x_eq_sn, x_ne_str, x_ne_int, v_insC, v_iniC, v_fldD, v_fldI, decide_eq_true_eq, Int.reduceLT, Int.reduceLE, ↓drw_ok, lq_nx, lq_ct, lq_bk, lq_rt, lq_ex, sq_rt, sq_ex, sq_bk, sq_ct, rq_nx, rq_rt, rq_ex, iq_ex, $[$ts:term],*])
section
variable {k : Nat} {Q : R → Prop} {E : Xn → Prop} {ds : List D} {i : Int} {x y : Str} {α : Type}
abbrev Sp4 := Str × Int × Str × Str
structure Rw where
  sp : Sp4
  s : Str
  t : Str
  w : Option Int
def spD (p : Sp4) : D := .tup [.str p.1, .int p.2.1, .str p.2.2.1, .str p.2.2.2]
def rwD (r : Rw) : D := .tup [.str r.sp.1, .int r.sp.2.1, .str r.sp.2.2.1, .str r.sp.2.2.2, .str r.s, .str r.t, eD r.w]
def spB (p : Sp4) (r : Rw) : Bool := decide (r.sp = p)
def aggr (ss : List (Option Int)) : Option (Option Int) := ss.foldl (fun a b => some (maxX a b)) none
def sumsOf (T : FB.Tb Str) (p : Sp4) (rows : List Rw) : List (Option Int) := (rows.filter (spB p)).map fun r => FB.addO r.w (T r.s r.t)
theorem maxX_comm (a : Option (Option Int)) (b c : Option Int) : maxX (some (maxX a b)) c = maxX (some (maxX a c)) b := by
  cases a with
  | none =>
    cases b <;> cases c <;> simp [maxX]
    omega
  | some a =>
    cases a with
    | none => cases b <;> cases c <;> rfl
    | some a =>
      cases b <;> cases c <;> simp [maxX]
      omega
theorem aggr_perm {ss tt : List (Option Int)} (h : ss.Perm tt) : aggr ss = aggr tt :=
  h.foldl_eq' (fun x _ y _ z => by rw [maxX_comm]) none
theorem sums_perm {T : FB.Tb Str} {p : Sp4} {L M : List Rw} (h : L.Perm M) : aggr (sumsOf T p L) = aggr (sumsOf T p M) := aggr_perm ((h.filter _).map _)
theorem aggr_snoc (ss : List (Option Int)) (b : Option Int) : aggr (ss ++ [b]) = some (maxX (aggr ss) b) := by
  unfold aggr
  rw [List.foldl_append]
  rfl
theorem spD_inj {p q : Sp4} : (spD p = spD q) = (p = q) := propext ⟨fun h => by
  obtain ⟨a, b, c, d⟩ := p
  obtain ⟨a', b', c', d'⟩ := q
  cases h
  rfl, fun h => by rw [h]⟩
theorem eq_spot (p q : Sp4) : eqD (.tup [.str p.1, .int p.2.1, .str p.2.2.1, .str p.2.2.2]) (spD q) = some (decide (p = q)) := by
  classical
  show eqD (spD p) (spD q) = _
  rw [eqD_nice rfl rfl (by show 1 ≤ 60; decide)]
  congr 1
  rw [decide_eq_decide, spD_inj]
/-- known, told -/
theorem known_sem {S N : List Str} {es : Te} {T : FB.Tb Str} (hT : TS S es T) (rows : List Rw) (hr : ∀ r ∈ rows, r.s ∈ ("" : Str) :: N ∧ r.t ∈ ("" : Str) :: N) (p : Sp4) (h : Q (.sh (fD (aggr (sumsOf T p rows))))) :
    callM (CC (k + 4)) "known" [.ins "Facts" [some (.dct (encT es)), some (.tup (N.map .str))], .lst (rows.map rwD), spD p] Q E := by
  rw [c_known]
  refine ⟨rfl, run_go ?_⟩
  show evSs _ b_known [some (.sh (.ins "Facts" [some (.dct (encT es)), some (.tup (N.map .str))])), some (.sh (.lst (rows.map rwD))), some (.sh (spD p)), none, none, none, none, none, none, none, none] _
  generalize hF : D.ins "Facts" [some (.dct (encT es)), some (.tup (N.map .str))] = F
  unfold b_known
  refine st_cons ?_
  wp_walk using v_d_sh
  refine sq_go (st_for ?_)
  wp_walk using v_d_sh
  refine forGo_ind rwD (fun done env => ∃ o4 o5 o6 o7 o8 o9 o10, env = [some (.sh F), some (.sh (.lst (rows.map rwD))), some (.sh (spD p)), some (.sh (fD (aggr (sumsOf T p done)))), o4, o5, o6, o7, o8, o9, o10]) rows _ (fun r done rest env K hL hI hK => ?_) ⟨_, _, _, _, _, _, _, rfl⟩ fun e he => ?_
  · obtain ⟨o4, o5, o6, o7, o8, o9, o10, rfl⟩ := hI
    have hm : r ∈ rows := by rw [hL]; exact List.mem_append_right _ List.mem_cons_self
    obtain ⟨m1, m2⟩ := hr r hm
    refine ⟨_, rfl, body_go (st_if ?_)⟩
    have htup : Bi.tuple.sem [spD p] = some (.sh (spD p)) := rfl
    have heq := eq_spot r.sp p
    by_cases hs : r.sp = p
    · have hd : sumsOf T p (done ++ [r]) = sumsOf T p done ++ [FB.addO r.w (T r.s r.t)] := by
        unfold sumsOf
        rw [List.filter_append, List.map_append]
        have : [r].filter (spB p) = [r] := by
          rw [List.filter_cons_of_pos (by exact decide_eq_true hs)]
          rfl
        rw [this]
        rfl
      rw [hd, aggr_snoc] at hK
      rw [decide_eq_true hs] at heq
      wp_walk using htup, heq
      refine body_frz (body_go (st_cons ?_))
      have hc : insC F = some ("Facts" : Str) := by rw [← hF]; rfl
      wp_walk using hc, mt_Facts_greatest
      rw [← hF]
      refine greatest_sem (k := k + 1) hT m1 m2 ?_
      wp_walk using v_d_sh
      refine plus_e (k := k + 2) r.w (T r.s r.t) ?_
      wp_walk using v_d_sh
      refine greater_e (k := k + 2) _ _ ?_
      wp_walk using v_d_sh
      rw [hF]
      refine sq_go (st_nil (sq_go (st_nil ?_)))
      exact hK _ ⟨_, _, _, _, _, _, _, rfl⟩
    · have hd : sumsOf T p (done ++ [r]) = sumsOf T p done := by
        unfold sumsOf
        rw [List.filter_append, List.map_append]
        have : [r].filter (spB p) = [] := by
          rw [List.filter_cons_of_neg (by unfold spB; simpa using hs)]
          rfl
        rw [this, List.map_nil, List.append_nil]
      rw [hd] at hK
      rw [decide_eq_false hs] at heq
      wp_walk using htup, heq
      refine body_nil (sq_go (st_nil ?_))
      exact hK _ ⟨_, _, _, _, _, _, _, rfl⟩
  · obtain ⟨o4, o5, o6, o7, o8, o9, o10, rfl⟩ := he
    refine sq_go (st_cons ?_)
    wp_walk using v_d_sh
    exact h
theorem dict_end (o : Option Int) : (Option.map D.int o).getD (.str "endless") = eD o := by cases o <;> rfl
theorem nices_map (g : α → D) (L : List α) (h : ∀ a ∈ L, nice (g a) = true) : nices (L.map g) = true := by
  induction L with
  | nil => rfl
  | cons a L ih =>
    rw [List.map_cons, nices, h a List.mem_cons_self, ih fun b hb => h b (List.mem_cons_of_mem _ hb)]
    rfl
theorem nice_eD (o : Option Int) : nice (eD o) = true := by cases o <;> rfl
theorem nice_rwD (r : Rw) : nice (rwD r) = true := by
  show (true && (true && (true && (true && (true && (true && (nice (eD r.w) && true))))))) = true
  rw [nice_eD]
  rfl
theorem depDs_map (g : α → D) (n : Nat) (L : List α) (h : ∀ a ∈ L, depD (g a) ≤ n) : depDs (L.map g) ≤ n := by
  induction L with
  | nil => exact Nat.zero_le _
  | cons a L ih =>
    rw [List.map_cons, depDs]
    exact Nat.max_le.mpr ⟨h a List.mem_cons_self, ih fun b hb => h b (List.mem_cons_of_mem _ hb)⟩
theorem eq_nil (g : α → D) (L : List α) (n : Nat) (hn : n ≤ 50) (h : ∀ a ∈ L, nice (g a) = true) (hd : ∀ a ∈ L, depD (g a) ≤ n) : eqD (.lst (L.map g)) (.lst []) = some (L.isEmpty) := by
  classical
  rw [eqD_nice (show nice (.lst (L.map g)) = true from nices_map g L h) rfl (by show depDs (L.map g) + 1 ≤ 60; have := depDs_map g n L hd; omega)]
  congr 1
  cases L with
  | nil => exact decide_eq_true rfl
  | cons a L => exact decide_eq_false (fun z => by cases z)
theorem in_sums (ss : List (Option Int)) : inSeq (.str "endless") (ss.map eD) = some (decide (none ∈ ss)) := by
  classical
  rw [inSeq_nice rfl (nices_map eD ss fun a _ => nice_eD a) (Nat.zero_le _)]
  congr 1
  rw [decide_eq_decide, List.mem_map]
  constructor
  · rintro ⟨a, h, e⟩
    cases a with
    | none => exact h
    | some a => cases e
  · intro h
    exact ⟨none, h, rfl⟩
theorem aggr_none : ∀ (ss : List (Option Int)) (a : Option (Option Int)), none ∈ ss → ss.foldl (fun a b => some (maxX a b)) a = some none
  | b :: ss, a, h => by
    rw [List.foldl_cons]
    rcases List.mem_cons.mp h with e | h
    · subst e
      have : maxX a none = none := by
        cases a with
        | none => rfl
        | some a => cases a <;> rfl
      rw [this]
      have key : ∀ tt : List (Option Int), tt.foldl (fun a b => some (maxX a b)) (some none) = some none := by
        intro tt
        induction tt with
        | nil => rfl
        | cons c tt ih => rw [List.foldl_cons]; exact ih
      exact key ss
    · exact aggr_none ss _ h
theorem aggr_ints : ∀ (ns : List Int) (a : Int), (ns.map some).foldl (fun a b => some (maxX a b)) (some (some a)) = some (some (ns.foldl max a))
  | [], a => rfl
  | n :: ns, a => by
    rw [List.map_cons, List.foldl_cons, List.foldl_cons]
    exact aggr_ints ns (max a n)
theorem foldl_maxL : ∀ (ns : List Int) (a : Int), ns.foldl max a = maxL (a :: ns)
  | [], a => rfl
  | n :: ns, a => by
    rw [List.foldl_cons, foldl_maxL ns (max a n)]
    cases ns with
    | nil => rfl
    | cons m ns =>
      show max (max a n) (maxL (m :: ns)) = max a (max n (maxL (m :: ns)))
      omega
theorem ints_of : ∀ {ss : List (Option Int)}, none ∉ ss → ∃ ns : List Int, ss = ns.map some
  | [], _ => ⟨[], rfl⟩
  | none :: ss, h => absurd List.mem_cons_self h
  | some a :: ss, h => by
    obtain ⟨ns, e⟩ := ints_of (ss := ss) fun z => h (List.mem_cons_of_mem _ z)
    exact ⟨a :: ns, by rw [e]; rfl⟩
theorem intsD_map : ∀ ns : List Int, intsD ((ns.map some).map eD) = some ns
  | [] => rfl
  | n :: ns => by
    show (intsD ((ns.map some).map eD)).map (n :: ·) = _
    rw [intsD_map ns]
    rfl
/-- max of the sums -/
theorem max_sums {ss : List (Option Int)} (h1 : ss ≠ []) (h2 : none ∉ ss) : Bi.max.sem [.lst (ss.map eD)] = some (.sh (fD (aggr ss))) := by
  obtain ⟨ns, rfl⟩ := ints_of h2
  cases ns with
  | nil => exact absurd rfl h1
  | cons n ns =>
    have e : aggr ((n :: ns).map some) = some (some (maxL (n :: ns))) := by
      unfold aggr
      rw [List.map_cons, List.foldl_cons]
      show (ns.map some).foldl (fun a b => some (maxX a b)) (some (some n)) = _
      rw [aggr_ints, foldl_maxL]
    rw [e]
    have h3 := intsD_map (n :: ns)
    show fMax [.lst (((n :: ns).map some).map eD)] = _
    generalize ((n :: ns).map some).map eD = dd at h3
    show (match intsD dd with | some (n :: ns) => some (R.i (maxL (n :: ns))) | _ => none) = _
    rw [h3]
    rfl
theorem lim_aggr {ss : List (Option Int)} {B : Nat} (h : ∀ v, some v ∈ ss → v.natAbs ≤ B) : ∀ v, aggr ss = some (some v) → v.natAbs ≤ B := by
  intro v hv
  by_cases h2 : none ∈ ss
  · unfold aggr at hv
    rw [aggr_none ss none h2] at hv
    cases hv
  · obtain ⟨ns, rfl⟩ := ints_of h2
    cases ns with
    | nil => cases hv
    | cons n ns =>
      have e : aggr ((n :: ns).map some) = some (some (maxL (n :: ns))) := by
        unfold aggr
        rw [List.map_cons, List.foldl_cons]
        show (ns.map some).foldl (fun a b => some (maxX a b)) (some (some n)) = _
        rw [aggr_ints, foldl_maxL]
      rw [e] at hv
      cases hv
      have := maxL_mem (l := n :: ns) (by simp)
      exact h _ (List.mem_map.mpr ⟨_, this, rfl⟩)
end
end Kt

namespace Kt
open PySem PySem.Spec PyProof.Rows L2 FA IP
local macro_rules
  | `(tactic| wp_walk using $[$ts:term],*) => `(tactic| simp only [w_nil, w_cons, w_frz, w_set, w_setLc, w_unp, w_par, w_aug, w_mut, w_setMut, w_put, w_expr, w_ret, w_retV, w_retN, w_if, w_for, w_while, w_pass, w_brk, w_cnt, w_fset, w_raise, w_raise0, evE, evEs, evO, evC, evG, evGs, lenG, evI, evIX, ms_of, ms_ret, m_bind, m_pure, m_some, m_none, m_need, m_ite, ms_ite, MS.seq, tst, mAnd, mOr, mNot, ch2, unpM, putM, mutM, drawM, raiseM, raise0M, v_d_sh, v_d_ow, v_d_bw, v_rb_, v_ri_, v_sl_sh, v_sl_ow, v_esc_sh, v_esc_ow, v_noBw_sh, v_noBw_ow, v_escs_nil, v_escs_sh, v_escs_ow, v_rslot_sh, v_rslot_ow, v_rvar_, v_ret_sh, v_ret_ow, v_owS_, v_owS_sh, v_owS_none, v_slD1_, v_tru_bl, v_tru_non, v_tru_int, v_tru_lst, v_tru_tup, v_asI_, v_asB_, v_bs_add, v_bs_sub, v_bs_mul, v_bs_mod, v_bs_div, v_add_int, v_add_str, v_add_lst, v_add_tup, v_sub_int, v_mod_int, v_neg_int, v_cs_eq, v_cs_ne, v_cs_lt, v_cs_le, v_cs_gt, v_cs_ge, v_cs_is, v_cs_isnot, v_cs_in, v_cs_notin, v_lt_int, v_le_int, v_gt_int, v_ge_int, v_isn_non, v_isn_int, v_isn_str, v_in_lst, v_in_tup, v_ix_lst, v_ix_tup, v_seq_lst, v_seq_tup, v_it_lst, v_it_tup, v_sld_lst, v_sld_tup, v_len_lst, v_len_tup, v_len_dct, v_max_int, v_min_int, v_list_lst, v_list_tup, v_tuple_lst, v_tuple_tup, v_tgn_, v_tgt_, v_tgnil_, v_tgcn_, v_par_nil, v_par_sh, v_par_ow, v_mu_app, v_mt_get, v_ty_dct, v_ty_str, v_put_dct, Option.map_some, Option.map_none, Option.isSome_some, Option.isSome_none, List.map_cons, List.map_nil, List.length_cons, List.length_nil, List.getElem?_cons_zero, List.getElem?_cons_succ, List.set_cons_zero, List.set_cons_succ, List.cons_append, List.nil_append, Nat.reduceAdd, Nat.reduceLeDiff, Nat.reduceSub, Nat.zero_le, sizeLine_eq, Bool.or_false, Bool.false_or, Bool.or_true, Bool.true_or, Bool.and_true, Bool.true_and, Bool.and_false, Bool.false_and, Bool.not_true, Bool.not_false, reduceIte, and_true, true_and, and_false, false_and, and_self, Bool.false_eq_true, v_get_int, v_get_str, v_in_dct, v_ix_dct, Option.getD_some, Option.getD_none, frzE, mthR, mthI, v_flatM, m_draw, m_fail, rLc_app, turn_app, wipe_nil, wipe_cons, x_eq_int, x_eq_str, x_eq_si, x_eq_is, x_eq_ns, x_eq_sn, x_ne_str, x_ne_int, v_insC, v_iniC, v_fldD, v_fldI, decide_eq_true_eq, Int.reduceLT, Int.reduceLE, ↓drw_ok, lq_nx, lq_ct, lq_bk, lq_rt, lq_ex, sq_rt, sq_ex, sq_bk, sq_ct, rq_nx, rq_rt, rq_ex, iq_ex, $[$ts:term],*])
section
variable {k : Nat} {E : Xn → Prop} {ds : List D} {i : Int} {x y : Str} {α : Type}
/-- rows of the law -/
structure RowsOk (S : List Str) (rows : List Rw) : Prop where
  sub : ∀ r ∈ rows, r.s ∈ S ∧ r.t ∈ S
  lim : ∀ r ∈ rows, ∀ v, r.w = some v → v.natAbs ≤ 10 ^ 38
  len : rows.length ≤ 9
theorem lcGo_filter {f : D → M (Option D)} {E : Xn → Prop} (enc den : α → D) (c : α → Bool) (L : List α) (Q : List D → Prop) (h : ∀ a ∈ L, ∀ K : Option D → Prop, K (if c a = true then some (den a) else none) → f (enc a) K E) (hq : Q ((L.filter c).map den)) : lcGo f (L.map enc) Q E := by
  refine lcGo_map enc (fun a => if c a = true then some (den a) else none) L Q h ?_
  have e : L.filterMap (fun a => if c a = true then some (den a) else none) = (L.filter c).map den := by
    clear h hq
    induction L with
    | nil => rfl
    | cons a L ih =>
      by_cases hc : c a = true
      · rw [List.filter_cons_of_pos hc, List.filterMap_cons_some (by rw [if_pos hc]), ih]
        rfl
      · rw [List.filter_cons_of_neg hc, List.filterMap_cons_none (by rw [if_neg hc]), ih]
  rw [e]
  exact hq
theorem worth_sem {env : IP.Env} (hb : env[1]? = some (some (.sh .bag))) : Tells (evE (CC (k + 1)) (.ite (.cmp .Eq (.draw "_law_take" (.var 1) (.int 6)) (.int 0)) (.str "endless") (.call "_law_number" (.cons (.var 1) .nil))) env) fun r => ∃ w : Option Int, (∀ v, w = some v → v.natAbs ≤ 10 ^ 38) ∧ r = .sh (eD w) := by
  intro Q E h
  wp_walk using hb
  intro r r0 r1
  by_cases hr : r = 0
  · rw [if_pos hr]
    exact h _ ⟨none, fun _ z => (by cases z), rfl⟩
  · rw [if_neg hr]
    refine (number_sem (k := k)).go ?_
    rintro _ ⟨z, hz, rfl⟩
    exact h _ ⟨some z, fun v hv => (by cases hv; exact hz), rfl⟩
theorem dep_rwD (r : Rw) : depD (rwD r) ≤ 1 := by
  obtain ⟨sp, s, t, w⟩ := r
  cases w <;> exact Nat.le_refl 1
theorem pick2 {a b : D} {r : Int} (h0 : 0 ≤ r) (h1 : r < 2) : ∃ c, (c = a ∨ c = b) ∧ atI [a, b] r = some c := by
  have : r = 0 ∨ r = 1 := by omega
  rcases this with rfl | rfl
  · exact ⟨a, .inl rfl, rfl⟩
  · exact ⟨b, .inr rfl, rfl⟩
theorem shw_fD {a : Option (Option Int)} (h : ∀ v, a = some (some v) → v.natAbs ≤ 10 ^ 42) : shw (fD a) = true ∧ depD (fD a) ≤ 60 ∧ blk (fD a) ≤ 25000 := by
  cases a with
  | none => exact ⟨rfl, Nat.zero_le _, Nat.zero_le _⟩
  | some a =>
    cases a with
    | none => exact ⟨by decide +kernel, Nat.zero_le _, by show Str.length "endless" ≤ 25000; decide +kernel⟩
    | some v =>
      refine ⟨decide_eq_true ?_, Nat.zero_le _, Nat.zero_le _⟩
      have h1 := h v rfl
      by_cases h0 : v.natAbs = 0
      · rw [h0]; decide
      · refine (Nat.log2_lt h0).mpr (Nat.lt_of_le_of_lt h1 ?_)
        decide +kernel
theorem law_sem : evSs (CC (k + 6)) b_law (lawEnv 20 1) (fun o => o = .rt (.sh (.bl true))) := by
  show evSs (CC (k + 6)) b_law [none, some (.sh .bag), none, none, none, none, none, none, none, none, none, none, none, none, none, none, none, none, none, none] _
  unfold b_law
  refine st_for ?_
  have h6 : rngD [.int 6] = _ := rng_nat (n := 6) rfl (by omega)
  wp_walk using h6
  refine forGo_rng (fun _ env => ∃ o2 o3 o4 o5 o6 o7 o8 o9 o10 o11 o12 o13 o14 o15 o16 o17 o18 o19, env = [none, some (.sh .bag), o2, o3, o4, o5, o6, o7, o8, o9, o10, o11, o12, o13, o14, o15, o16, o17, o18, o19]) 6 _ (fun i env K hi hI hK => ?_) ⟨_, _, _, _, _, _, _, _, _, _, _, _, _, _, _, _, _, _, rfl⟩ fun e he => ?_
  · obtain ⟨o2, o3, o4, o5, o6, o7, o8, o9, o10, o11, o12, o13, o14, o15, o16, o17, o18, o19, rfl⟩ := hI
    refine ⟨_, rfl, body_go (st_frz (st_cons ?_))⟩
    wp_walk using v_d_sh
    refine (names_sem (k := k + 5) 2 (by omega)).go ?_
    rintro _ ⟨ys, hys, rfl⟩
    wp_walk using v_d_sh
    intro n n0 n1
    obtain ⟨m, rfl⟩ : ∃ m : Nat, n = (m : Int) := ⟨n.toNat, (Int.toNat_of_nonneg n0).symm⟩
    have hcut : cutL (ys.map D.str) none (some (m : Int)) = (ys.take m).map D.str := by rw [cutL_to, List.map_take]
    wp_walk using hcut
    have hNl : (ys.take m).length ≤ 2 := by rw [List.length_take, hys.len]; omega
    have hNn : ∀ x ∈ ys.take m, isNm x = true := fun x hx => hys.nm x (List.mem_of_mem_take hx)
    have hNd : (ys.take m).Nodup := hys.nd.sublist (List.take_sublist _ _)
    generalize ys.take m = N at *
    have hSd : (("" : Str) :: N).Nodup := by
      rw [List.nodup_cons]
      refine ⟨fun h => ?_, hNd⟩
      have := hNn _ h
      exact absurd this (by decide +kernel)
    refine sq_go (st_frz (st_frz (st_cons ?_)))
    wp_walk using v_d_sh
    refine (facts_sem (k := k + 4) N (by omega) hSd).go ?_
    rintro _ ⟨L, hL, rfl⟩
    wp_walk using v_d_sh
    have hT := tight_of hL (by rw [List.length_cons]; omega)
    have hTe : FB.rounds (opsC (("" : Str) :: N) L) ((("" : Str) :: N).length + 1) (FB.diagT (("" : Str) :: N)) = FB.rounds (opsC (("" : Str) :: N) L) (N.length + 2) (FB.diagT (("" : Str) :: N)) := rfl
    rw [hTe] at hT
    refine sq_go (st_frz (st_frz (st_cons ?_)))
    wp_walk using v_d_sh
    refine facts_new (k := k + 1) N L (by omega) hNn hNd hL hT fun es hes => ?_
    wp_walk using v_d_sh
    rw [c_law_closed]
    refine ⟨rfl, closed_sem _ N L (by omega) (fun f hf => (hL.sub f hf).1) _ _ fun es' hes' => ?_⟩
    generalize FB.rounds (opsC (("" : Str) :: N) L) (N.length + 2) (FB.diagT (("" : Str) :: N)) = T at *
    have hz : 1 + (N.map D.str).length ≤ 16777216 := by rw [List.length_map]; omega
    wp_walk using hz
    have e0 : D.str ("" : Str) :: N.map D.str = (("" : Str) :: N).map D.str := rfl
    rw [e0]
    have hlS : (("" : Str) :: N).length ≤ 3 := by rw [List.length_cons]; omega
    have hlS0 : 0 < (("" : Str) :: N).length := by rw [List.length_cons]; omega
    have hmem : ∀ a, a ∈ ("" : Str) :: srtS N ↔ a ∈ ("" : Str) :: N := fun a => by
      rw [List.mem_cons, List.mem_cons, (srtS_perm N).mem_iff]
    generalize hS : ("" : Str) :: N = S at *
    generalize hF : D.ins "Facts" [some (.dct (encT es)), some (.tup ((srtS N).map .str))] = F at *
    refine sq_go (st_frz (st_for ?_))
    wp_walk using v_d_sh
    intro q q0 q1
    have hrq : rngD [.int q] = _ := rng_nat (n := q.toNat) (by omega) (by omega)
    wp_walk using hrq
    refine forGo_rng (fun i env => ∃ rows o2 o4 o5 o6 o12 o13 o14 o15 o16 o17 o18 o19, RowsOk S rows ∧ rows.length ≤ i ∧ env = [none, some (.sh .bag), o2, some (.sh (.lst (N.map .str))), o4, o5, o6, some (.sh (.lst (L.map fcD))), some (.ow (.lst (rows.map rwD))), some (.sh F), some (.ow (.dct (encT es'))), some (.ow (.lst (S.map .str))), o12, o13, o14, o15, o16, o17, o18, o19]) q.toNat _ (fun j env K' hj hI hK' => ?_) ?_ fun e he => ?_
    · obtain ⟨rows, o2, o4, o5, o6, o12, o13, o14, o15, o16, o17, o18, o19, hR, hRl, rfl⟩ := hI
      refine ⟨_, rfl, body_go (st_frz (st_cons ?_))⟩
      simp only [w_set, ms_of, m_bind]
      refine (worth_sem (k := k + 5) rfl).go ?_
      rintro _ ⟨w, hw, rfl⟩
      wp_walk using v_d_sh
      refine sq_go (st_frz (st_cons ?_))
      wp_walk using v_d_sh
      intro a a0 a1
      obtain ⟨ca, hca, ea⟩ := pick2 (a := D.str "p") (b := D.str "q") a0 a1
      obtain ⟨pa, rfl⟩ : ∃ pa : Str, ca = .str pa := by
        rcases hca with rfl | rfl
        · exact ⟨_, rfl⟩
        · exact ⟨_, rfl⟩
      wp_walk using ea
      intro b b0 b1 c c0 c1
      obtain ⟨cc, hcc, ec⟩ := pick2 (a := D.str "") (b := D.str "x") c0 c1
      obtain ⟨pc, rfl⟩ : ∃ pc : Str, cc = .str pc := by
        rcases hcc with rfl | rfl
        · exact ⟨_, rfl⟩
        · exact ⟨_, rfl⟩
      wp_walk using ec
      refine sq_go (st_frz (st_cons ?_))
      have h2 : rngD [.int 2] = _ := rng_nat (n := 2) rfl (by omega)
      have hz2 : ((List.range 2).map fun i : Nat => D.int (0 + (i : Int))).length ≤ 16777216 := by rw [List.length_map, List.length_range]; omega
      wp_walk using h2, hz2
      refine lcGo_draw (fun i : Nat => D.int (0 + (i : Int))) D.str (fun _ z => z ∈ S) _ _ (fun u _ K hK => ?_) fun bs hbl hbs => ?_
      · have q0 : (0 : Int) < ((S.map D.str).length : Int) := by rw [List.length_map]; omega
        have q1 : ((S.map D.str).length : Int) < 1000000 := by rw [List.length_map]; omega
        wp_walk using drw_ok q0 q1
        intro z z0 z1
        rw [List.length_map] at z1
        obtain ⟨n, hn, rfl, _⟩ := atI_get (L := S) z0 z1
        have i1 : atI (S.map D.str) (n : Int) = some (.str S[n]) := by
          have hn' : n < (S.map D.str).length := by rw [List.length_map]; exact hn
          rw [atI_nat (List.getElem?_eq_getElem hn'), List.getElem_map]
        wp_walk using i1
        exact hK _ (List.getElem_mem hn)
      · rw [List.length_range] at hbl
        match bs, hbl, hbs with
        | [s1, t1], _, hbs =>
          have hs1 : s1 ∈ S := hbs 0 (by rw [List.length_range]; omega) (by simp)
          have ht1 : t1 ∈ S := hbs 1 (by rw [List.length_range]; omega) (by simp)
          wp_walk using v_d_sh
          refine sq_go (st_if ?_)
          have hzr : (rows.map rwD).length ≤ 16777216 := by rw [List.length_map]; omega
          wp_walk using hzr
          have hfil : ∃ cf : Rw → Bool, ∀ r : Rw, eqD (.tup (cutL [D.str r.sp.1, .int r.sp.2.1, .str r.sp.2.2.1, .str r.sp.2.2.2, .str r.s, .str r.t, eD r.w] none (some 6))) (.tup [D.str pa, .int b, .str pc, .str "y", .str s1, .str t1]) = some (cf r) := by
            classical
            refine ⟨fun r => decide (D.tup [D.str r.sp.1, .int r.sp.2.1, .str r.sp.2.2.1, .str r.sp.2.2.2, .str r.s, .str r.t] = .tup [D.str pa, .int b, .str pc, .str "y", .str s1, .str t1]), fun r => ?_⟩
            exact eqD_nice (x := D.tup [D.str r.sp.1, .int r.sp.2.1, .str r.sp.2.2.1, .str r.sp.2.2.2, .str r.s, .str r.t]) rfl rfl (by show 1 ≤ 60; decide)
          obtain ⟨cf, hcf⟩ := hfil
          refine lcGo_filter rwD rwD cf rows _ (fun r hr K hK => ?_) ?_
          · cases hc : cf r with
            | true =>
              rw [hc] at hK
              have hcf' := hcf r
              rw [hc] at hcf'
              wp_walk using rwD, hcf'
              exact hK
            | false =>
              rw [hc] at hK
              have hcf' := hcf r
              rw [hc] at hcf'
              wp_walk using rwD, hcf'
              exact hK
          · have hen := eq_nil rwD (rows.filter cf) 1 (by omega) (fun r _ => nice_rwD r) (fun r _ => dep_rwD r)
            cases hc : (rows.filter cf).isEmpty with
            | false =>
              rw [hc] at hen
              wp_walk using hen
              refine body_nil (sq_go (st_nil ?_))
              exact hK' _ ⟨rows, _, _, _, _, _, _, _, _, _, _, _, _, hR, by omega, rfl⟩
            | true =>
              rw [hc] at hen
              wp_walk using hen
              refine body_frz (body_go (st_cons ?_))
              have hx : (∃ xs, D.lst (rows.map rwD) = D.lst xs) = True := propext ⟨fun _ => trivial, fun _ => ⟨_, rfl⟩⟩
              have hz : (rows.map rwD).length < 16777216 := by rw [List.length_map]; omega
              wp_walk using hx, hz
              refine sq_go (st_nil (sq_go (st_nil ?_)))
              have em : rows.map rwD ++ [D.tup [D.str pa, D.int b, D.str pc, D.str "y", D.str s1, D.str t1, eD w]] = (rows ++ [(⟨(pa, b, pc, "y"), s1, t1, w⟩ : Rw)]).map rwD := by
                rw [List.map_append]
                rfl
              rw [em]
              refine hK' _ ⟨_, _, _, _, _, _, _, _, _, _, _, _, _, ⟨fun r hr => ?_, fun r hr => ?_, ?_⟩, ?_, rfl⟩
              · rcases List.mem_append.mp hr with hr | hr
                · exact hR.sub r hr
                · rw [List.mem_singleton] at hr
                  subst hr
                  exact ⟨hs1, ht1⟩
              · rcases List.mem_append.mp hr with hr | hr
                · exact hR.lim r hr
                · rw [List.mem_singleton] at hr
                  subst hr
                  exact hw
              · rw [List.length_append, List.length_singleton]
                omega
              · rw [List.length_append, List.length_singleton]
                omega
    · exact ⟨[], _, _, _, _, _, _, _, _, _, _, _, _, ⟨fun _ z => (by cases z), fun _ z => (by cases z), by simp⟩, by simp, rfl⟩
    · obtain ⟨rows, o2, o4, o5, o6, o12, o13, o14, o15, o16, o17, o18, o19, hR, hRl, rfl⟩ := he
      refine sq_go (st_cons ?_)
      wp_walk using v_d_sh
      refine sq_go (st_for ?_)
      wp_walk using v_d_sh
      refine forGo_ind spD (fun _ env => ∃ rows o2 o4 o6 o12 o13 o14 o15 o16 o17 o18 o19, RowsOk S rows ∧ env = [none, some (.sh .bag), o2, some (.sh (.lst (N.map .str))), o4, some (.ow (.lst (rows.map rwD))), o6, some (.sh (.lst (L.map fcD))), some (.ow (.lst (rows.map rwD))), some (.sh F), some (.ow (.dct (encT es'))), some (.ow (.lst (S.map .str))), o12, o13, o14, o15, o16, o17, o18, o19]) [("p", 0, "", "y"), ("q", 1, "x", "y"), ("p", 1, "x", "y"), ("q", 0, "", "y"), ("p", 0, "y", "")] _ (fun p done rest env K2 hL2 hI hK2 => ?_) ⟨rows, _, _, _, _, _, _, _, _, _, _, _, hR, rfl⟩ fun e he => ?_
      · obtain ⟨rows, o2, o4, o6, o12, o13, o14, o15, o16, o17, o18, o19, hR, rfl⟩ := hI
        refine ⟨_, rfl, body_go (st_cons ?_)⟩
        have hzr : (rows.map rwD).length ≤ 16777216 := by rw [List.length_map]; have := hR.len; omega
        wp_walk using hzr
        refine lcGo_filter rwD rwD (spB p) rows _ (fun r hr K hK => ?_) ?_
        · have hc4 : cutL [D.str r.sp.1, .int r.sp.2.1, .str r.sp.2.2.1, .str r.sp.2.2.2, .str r.s, .str r.t, eD r.w] none (some 4) = [D.str r.sp.1, .int r.sp.2.1, .str r.sp.2.2.1, .str r.sp.2.2.2] := rfl
          have heq := eq_spot r.sp p
          by_cases hs : r.sp = p
          · rw [decide_eq_true hs] at heq
            rw [if_pos (show spB p r = true from decide_eq_true hs)] at hK
            wp_walk using rwD, hc4, heq
            exact hK
          · rw [decide_eq_false hs] at heq
            rw [if_neg (show ¬ spB p r = true from fun z => hs (of_decide_eq_true z))] at hK
            wp_walk using rwD, hc4, heq
            exact hK
        wp_walk using v_d_sh
        have hfl : (rows.filter (spB p)).length ≤ 9 := Nat.le_trans (List.length_filter_le _ _) hR.len
        have hfm : ∀ r ∈ rows.filter (spB p), r ∈ rows := fun r hr => (List.mem_filter.mp hr).1
        refine sq_go (st_cons ?_)
        have hzf : ((rows.filter (spB p)).map rwD).length ≤ 16777216 := by rw [List.length_map]; omega
        wp_walk using hzf
        refine lcGo_each rwD (fun r => eD (FB.addO r.w (T r.s r.t))) _ _ (fun r hr K hK => ?_) ?_
        · have hc6 : cutL [D.str r.sp.1, .int r.sp.2.1, .str r.sp.2.2.1, .str r.sp.2.2.2, .str r.s, .str r.t, eD r.w] (some 4) (some 6) = [D.str r.s, D.str r.t] := rfl
          have ha6 : atI [D.str r.sp.1, .int r.sp.2.1, .str r.sp.2.2.1, .str r.sp.2.2.2, .str r.s, .str r.t, eD r.w] 6 = some (eD r.w) := rfl
          have hg := get_enc hes' r.s r.t
          wp_walk using rwD, hc6, ha6, hg, dict_end
          refine sum_e (k := k + 5) r.w (T r.s r.t) ?_
          wp_walk using v_d_sh
          exact hK
        have hss : ((rows.filter (spB p)).map fun r => eD (FB.addO r.w (T r.s r.t))) = (sumsOf T p rows).map eD := by
          unfold sumsOf
          rw [List.map_map]
          rfl
        wp_walk using hss
        have hag : evSs (CC (k + 6)) .nil [] (fun _ => True) := trivial
        have hlim : ∀ v, aggr (sumsOf T p rows) = some (some v) → v.natAbs ≤ 10 ^ 42 := by
          refine lim_aggr fun v hv => ?_
          unfold sumsOf at hv
          obtain ⟨r, hr, e⟩ := List.mem_map.mp hv
          obtain ⟨v1, v2, e1, e2, e3⟩ := FB.addO_some e
          have l1 := hR.lim r (hfm r hr) v1 e1
          have l2 := hT.lim _ _ _ e2
          rw [e3]
          omega
        have hnil := eq_nil eD (sumsOf T p rows) 0 (by omega) (fun a _ => nice_eD a) (fun a _ => by cases a <;> exact Nat.le_refl 0)
        have hin := in_sums (sumsOf T p rows)
        refine sq_go (st_cons ?_)
        simp only [w_set, ms_of, m_bind]
        have due : Tells (evE (CC (k + 6)) (.ite (.cmp .Eq (.var 15) (.lst .nil)) .non (.ite (.cmp .In (.str "endless") (.var 15)) (.str "endless") (.bi .max (.cons (.var 15) .nil)))) [none, some (.sh .bag), o2, some (.sh (.lst (N.map .str))), o4, some (.ow (.lst (rows.map rwD))), some (.sh (spD p)), some (.sh (.lst (L.map fcD))), some (.ow (.lst (rows.map rwD))), some (.sh F), some (.ow (.dct (encT es'))), some (.ow (.lst (S.map .str))), o12, o13, some (.ow (.lst ((rows.filter (spB p)).map rwD))), some (.ow (.lst ((sumsOf T p rows).map eD))), o16, o17, o18, o19]) fun r => r = .sh (fD (aggr (sumsOf T p rows))) := by
          intro Q E h
          by_cases h1 : sumsOf T p rows = []
          · rw [show (sumsOf T p rows).isEmpty = true by rw [h1]; rfl] at hnil
            wp_walk using hnil
            exact h _ (by rw [h1]; rfl)
          · rw [show (sumsOf T p rows).isEmpty = false by rw [List.isEmpty_eq_false_iff]; exact h1] at hnil
            by_cases h2 : none ∈ sumsOf T p rows
            · rw [decide_eq_true h2] at hin
              wp_walk using hnil, hin
              refine h _ ?_
              unfold aggr
              rw [aggr_none _ _ h2]
              rfl
            · rw [decide_eq_false h2] at hin
              wp_walk using hnil, hin, max_sums h1 h2
              exact h _ rfl
        refine due.go ?_
        rintro _ rfl
        wp_walk using v_d_sh
        refine sq_go (st_for ?_)
        have h2 : rngD [.int 2] = _ := rng_nat (n := 2) rfl (by omega)
        wp_walk using h2
        refine forGo_rng (fun _ env => ∃ rows' o17, rows'.Perm rows ∧ env = [none, some (.sh .bag), o2, some (.sh (.lst (N.map .str))), o4, some (.ow (.lst (rows'.map rwD))), some (.sh (spD p)), some (.sh (.lst (L.map fcD))), some (.ow (.lst (rows'.map rwD))), some (.sh F), some (.ow (.dct (encT es'))), some (.ow (.lst (S.map .str))), o12, o13, some (.ow (.lst ((rows.filter (spB p)).map rwD))), some (.ow (.lst ((sumsOf T p rows).map eD))), some (.sh (fD (aggr (sumsOf T p rows)))), o17, o18, o19]) 2 _ (fun j env K3 hj hI hK3 => ?_) ⟨rows, _, .refl _, rfl⟩ fun e he => ?_
        · obtain ⟨rows', o17, hp, rfl⟩ := hI
          refine ⟨_, rfl, body_go (st_frz (st_frz (st_frz (st_frz (st_if ?_)))))⟩
          wp_walk using v_d_sh
          rw [← hF]
          refine known_sem (k := k + 2) hes rows' (fun r hr => ?_) p ?_
          · have := hR.sub r (hp.mem_iff.mp hr)
            exact ⟨(hmem _).mpr this.1, (hmem _).mpr this.2⟩
          rw [sums_perm hp, hF]
          obtain ⟨s1, s2, s3⟩ := shw_fD hlim
          wp_walk using v_d_sh
          refine alike_self (k := k + 5) _ s1 s2 s3 ?_
          have hne : cNe (.lst (rows'.map rwD)) (.lst (rows'.map rwD)) = some (R.b false) := by
            classical
            have hn : nice (.lst (rows'.map rwD)) = true := nices_map rwD rows' fun r _ => nice_rwD r
            rw [cNe_nice hn hn (by show depDs (rows'.map rwD) + 1 ≤ 60; have := depDs_map rwD 1 rows' fun r _ => dep_rwD r; omega), decide_eq_true rfl]
            rfl
          wp_walk using hne
          refine body_nil (sq_go (st_frz (st_frz (st_cons ?_))))
          wp_walk using v_d_sh
          have hrl : rows'.length ≤ 1000 := by rw [hp.length_eq]; have := hR.len; omega
          refine (mixed_sem (k := k + 5) rwD rows' hrl).go ?_
          rintro _ ⟨rows2, hp2, rfl⟩
          wp_walk using v_d_sh
          refine sq_go (st_cons ?_)
          wp_walk using v_d_sh
          refine sq_go (st_nil ?_)
          exact hK3 _ ⟨rows2, _, hp2.trans hp, rfl⟩
        · obtain ⟨rows', o17, hp, rfl⟩ := he
          refine sq_go (st_nil ?_)
          exact hK2 _ ⟨rows', _, _, _, _, _, _, _, _, _, _, _, ⟨fun r hr => hR.sub r (hp.mem_iff.mp hr), fun r hr => hR.lim r (hp.mem_iff.mp hr), by rw [hp.length_eq]; exact hR.len⟩, rfl⟩
      · obtain ⟨rows, o2, o4, o6, o12, o13, o14, o15, o16, o17, o18, o19, hR, rfl⟩ := he
        refine sq_go (st_nil ?_)
        exact hK _ ⟨_, _, _, _, _, _, _, _, _, _, _, _, _, _, _, _, _, _, rfl⟩
  · obtain ⟨o2, o3, o4, o5, o6, o7, o8, o9, o10, o11, o12, o13, o14, o15, o16, o17, o18, o19, rfl⟩ := he
    refine sq_go (st_cons ?_)
    wp_walk using v_d_sh
end
end Kt

namespace Kt
open PySem PySem.Spec PyProof.Rows L2 FA IP
theorem sc_law : FnScope nn_law ["_law_script"] (defScope (top 38)) := ⟨rfl, rfl, rfl, by decide +kernel, rfl, by decide +kernel, by decide +kernel⟩
theorem all_mk {P : Program} {w : World} {K : PySem.W.Frag} {h : Heap} {mg : Str → Option Value} {fa : Addr} (X : K.In h) (G : h.Ns mainGlobals mg) (hfa : mg "law" = some (.ref fa))
    (ptop : (P.main.scope.names.lookup ("super" : Str)).isSome = false)
    -- 0
    {fd0 : Addr} {odd0 and0 : Option Addr} {sld0 : Array (Option Value)} {ocd0 kVd0 dcd0 pmd0 cdd0 ctd0 : Value}
    (ad0 : PySem.W.nsIn K mainGlobals "plus" = some (some (.ref fd0))) (kd0 : PySem.W.keepIn K (.ref fd0) = true)
    (ld0 : K.lookup fd0 = some ⟨ocd0, odd0, .func (PySem.W.fnOf "plus" "plus" (defArgs (top 9)) (defBody (top 9)) (defScope (top 9)) .none kVd0 dcd0 pmd0 and0 cdd0 ctd0), sld0⟩) (cd0 : PySem.W.codeIn K cdd0 "plus" = true)
    -- 1
    {fd1 : Addr} {odd1 and1 : Option Addr} {sld1 : Array (Option Value)} {ocd1 kVd1 dcd1 pmd1 cdd1 ctd1 : Value}
    (ad1 : PySem.W.nsIn K mainGlobals "greater" = some (some (.ref fd1))) (kd1 : PySem.W.keepIn K (.ref fd1) = true)
    (ld1 : K.lookup fd1 = some ⟨ocd1, odd1, .func (PySem.W.fnOf "greater" "greater" (defArgs (top 11)) (defBody (top 11)) (defScope (top 11)) .none kVd1 dcd1 pmd1 and1 cdd1 ctd1), sld1⟩) (cd1 : PySem.W.codeIn K cdd1 "greater" = true)
    -- 2
    {fd2 : Addr} {odd2 and2 : Option Addr} {sld2 : Array (Option Value)} {ocd2 kVd2 dcd2 pmd2 cdd2 ctd2 : Value}
    (ad2 : PySem.W.nsIn K mainGlobals "known" = some (some (.ref fd2))) (kd2 : PySem.W.keepIn K (.ref fd2) = true)
    (ld2 : K.lookup fd2 = some ⟨ocd2, odd2, .func (PySem.W.fnOf "known" "known" (defArgs (top 12)) (defBody (top 12)) (defScope (top 12)) .none kVd2 dcd2 pmd2 and2 cdd2 ctd2), sld2⟩) (cd2 : PySem.W.codeIn K cdd2 "known" = true)
    -- 3
    {fd3 : Addr} {odd3 and3 : Option Addr} {sld3 : Array (Option Value)} {ocd3 kVd3 dcd3 pmd3 cdd3 ctd3 : Value}
    (ad3 : PySem.W.nsIn K mainGlobals "is_integer" = some (some (.ref fd3))) (kd3 : PySem.W.keepIn K (.ref fd3) = true)
    (ld3 : K.lookup fd3 = some ⟨ocd3, odd3, .func (PySem.W.fnOf "is_integer" "is_integer" (defArgs (top 17)) (defBody (top 17)) (defScope (top 17)) .none kVd3 dcd3 pmd3 and3 cdd3 ctd3), sld3⟩) (cd3 : PySem.W.codeIn K cdd3 "is_integer" = true)
    -- 4
    {fd4 : Addr} {odd4 and4 : Option Addr} {sld4 : Array (Option Value)} {ocd4 kVd4 dcd4 pmd4 cdd4 ctd4 : Value}
    (ad4 : PySem.W.nsIn K mainGlobals "is_name" = some (some (.ref fd4))) (kd4 : PySem.W.keepIn K (.ref fd4) = true)
    (ld4 : K.lookup fd4 = some ⟨ocd4, odd4, .func (PySem.W.fnOf "is_name" "is_name" (defArgs (top 18)) (defBody (top 18)) (defScope (top 18)) .none kVd4 dcd4 pmd4 and4 cdd4 ctd4), sld4⟩) (cd4 : PySem.W.codeIn K cdd4 "is_name" = true)
    -- 5
    {fd5 : Addr} {odd5 and5 : Option Addr} {sld5 : Array (Option Value)} {ocd5 kVd5 dcd5 pmd5 cdd5 ctd5 : Value}
    (ad5 : PySem.W.nsIn K mainGlobals "is_source" = some (some (.ref fd5))) (kd5 : PySem.W.keepIn K (.ref fd5) = true)
    (ld5 : K.lookup fd5 = some ⟨ocd5, odd5, .func (PySem.W.fnOf "is_source" "is_source" (defArgs (top 19)) (defBody (top 19)) (defScope (top 19)) .none kVd5 dcd5 pmd5 and5 cdd5 ctd5), sld5⟩) (cd5 : PySem.W.codeIn K cdd5 "is_source" = true)
    -- 6
    {fd6 : Addr} {odd6 and6 : Option Addr} {sld6 : Array (Option Value)} {ocd6 kVd6 dcd6 pmd6 cdd6 ctd6 : Value}
    (ad6 : PySem.W.nsIn K mainGlobals "are_different" = some (some (.ref fd6))) (kd6 : PySem.W.keepIn K (.ref fd6) = true)
    (ld6 : K.lookup fd6 = some ⟨ocd6, odd6, .func (PySem.W.fnOf "are_different" "are_different" (defArgs (top 20)) (defBody (top 20)) (defScope (top 20)) .none kVd6 dcd6 pmd6 and6 cdd6 ctd6), sld6⟩) (cd6 : PySem.W.codeIn K cdd6 "are_different" = true)
    -- 7
    {fd7 : Addr} {odd7 and7 : Option Addr} {sld7 : Array (Option Value)} {ocd7 kVd7 dcd7 pmd7 cdd7 ctd7 : Value}
    (ad7 : PySem.W.nsIn K mainGlobals "are_names" = some (some (.ref fd7))) (kd7 : PySem.W.keepIn K (.ref fd7) = true)
    (ld7 : K.lookup fd7 = some ⟨ocd7, odd7, .func (PySem.W.fnOf "are_names" "are_names" (defArgs (top 21)) (defBody (top 21)) (defScope (top 21)) .none kVd7 dcd7 pmd7 and7 cdd7 ctd7), sld7⟩) (cd7 : PySem.W.codeIn K cdd7 "are_names" = true)
    -- 8
    {fd8 : Addr} {odd8 and8 : Option Addr} {sld8 : Array (Option Value)} {ocd8 kVd8 dcd8 pmd8 cdd8 ctd8 : Value}
    (ad8 : PySem.W.nsIn K mainGlobals "is_fact" = some (some (.ref fd8))) (kd8 : PySem.W.keepIn K (.ref fd8) = true)
    (ld8 : K.lookup fd8 = some ⟨ocd8, odd8, .func (PySem.W.fnOf "is_fact" "is_fact" (defArgs (top 24)) (defBody (top 24)) (defScope (top 24)) .none kVd8 dcd8 pmd8 and8 cdd8 ctd8), sld8⟩) (cd8 : PySem.W.codeIn K cdd8 "is_fact" = true)
    -- 9
    {fd9 : Addr} {odd9 and9 : Option Addr} {sld9 : Array (Option Value)} {ocd9 kVd9 dcd9 pmd9 cdd9 ctd9 : Value}
    (ad9 : PySem.W.nsIn K mainGlobals "are_facts" = some (some (.ref fd9))) (kd9 : PySem.W.keepIn K (.ref fd9) = true)
    (ld9 : K.lookup fd9 = some ⟨ocd9, odd9, .func (PySem.W.fnOf "are_facts" "are_facts" (defArgs (top 25)) (defBody (top 25)) (defScope (top 25)) .none kVd9 dcd9 pmd9 and9 cdd9 ctd9), sld9⟩) (cd9 : PySem.W.codeIn K cdd9 "are_facts" = true)
    -- 10
    {fd10 : Addr} {odd10 and10 : Option Addr} {sld10 : Array (Option Value)} {ocd10 kVd10 dcd10 pmd10 cdd10 ctd10 : Value}
    (ad10 : PySem.W.nsIn K mainGlobals "tightest" = some (some (.ref fd10))) (kd10 : PySem.W.keepIn K (.ref fd10) = true)
    (ld10 : K.lookup fd10 = some ⟨ocd10, odd10, .func (PySem.W.fnOf "tightest" "tightest" (defArgs (top 26)) (defBody (top 26)) (defScope (top 26)) .none kVd10 dcd10 pmd10 and10 cdd10 ctd10), sld10⟩) (cd10 : PySem.W.codeIn K cdd10 "tightest" = true)
    -- 11
    {fd11 : Addr} {odd11 and11 : Option Addr} {sld11 : Array (Option Value)} {ocd11 kVd11 dcd11 pmd11 cdd11 ctd11 : Value}
    (ad11 : PySem.W.nsIn K mainGlobals "_law_bag" = some (some (.ref fd11))) (kd11 : PySem.W.keepIn K (.ref fd11) = true)
    (ld11 : K.lookup fd11 = some ⟨ocd11, odd11, .func (PySem.W.fnOf "_law_bag" "_law_bag" (defArgs Kk.s_law_bag) (defBody Kk.s_law_bag) (defScope Kk.s_law_bag) .none kVd11 dcd11 pmd11 and11 cdd11 ctd11), sld11⟩) (cd11 : PySem.W.codeIn K cdd11 "_law_bag" = true)
    -- 12
    {fd12 : Addr} {odd12 and12 : Option Addr} {sld12 : Array (Option Value)} {ocd12 kVd12 dcd12 pmd12 cdd12 ctd12 : Value}
    (ad12 : PySem.W.nsIn K mainGlobals "_law_take" = some (some (.ref fd12))) (kd12 : PySem.W.keepIn K (.ref fd12) = true)
    (ld12 : K.lookup fd12 = some ⟨ocd12, odd12, .func (PySem.W.fnOf "_law_take" "_law_take" (defArgs Kk.s_law_take) (defBody Kk.s_law_take) (defScope Kk.s_law_take) .none kVd12 dcd12 pmd12 and12 cdd12 ctd12), sld12⟩) (cd12 : PySem.W.codeIn K cdd12 "_law_take" = true)
    -- 13
    {fd13 : Addr} {odd13 and13 : Option Addr} {sld13 : Array (Option Value)} {ocd13 kVd13 dcd13 pmd13 cdd13 ctd13 : Value}
    (ad13 : PySem.W.nsIn K mainGlobals "_law_alike" = some (some (.ref fd13))) (kd13 : PySem.W.keepIn K (.ref fd13) = true)
    (ld13 : K.lookup fd13 = some ⟨ocd13, odd13, .func (PySem.W.fnOf "_law_alike" "_law_alike" (defArgs (top 31)) (defBody (top 31)) (defScope (top 31)) .none kVd13 dcd13 pmd13 and13 cdd13 ctd13), sld13⟩) (cd13 : PySem.W.codeIn K cdd13 "_law_alike" = true)
    -- 14
    {fd14 : Addr} {odd14 and14 : Option Addr} {sld14 : Array (Option Value)} {ocd14 kVd14 dcd14 pmd14 cdd14 ctd14 : Value}
    (ad14 : PySem.W.nsIn K mainGlobals "_law_mixed" = some (some (.ref fd14))) (kd14 : PySem.W.keepIn K (.ref fd14) = true)
    (ld14 : K.lookup fd14 = some ⟨ocd14, odd14, .func (PySem.W.fnOf "_law_mixed" "_law_mixed" (defArgs (top 32)) (defBody (top 32)) (defScope (top 32)) .none kVd14 dcd14 pmd14 and14 cdd14 ctd14), sld14⟩) (cd14 : PySem.W.codeIn K cdd14 "_law_mixed" = true)
    -- 15
    {fd15 : Addr} {odd15 and15 : Option Addr} {sld15 : Array (Option Value)} {ocd15 kVd15 dcd15 pmd15 cdd15 ctd15 : Value}
    (ad15 : PySem.W.nsIn K mainGlobals "_law_names" = some (some (.ref fd15))) (kd15 : PySem.W.keepIn K (.ref fd15) = true)
    (ld15 : K.lookup fd15 = some ⟨ocd15, odd15, .func (PySem.W.fnOf "_law_names" "_law_names" (defArgs (top 33)) (defBody (top 33)) (defScope (top 33)) .none kVd15 dcd15 pmd15 and15 cdd15 ctd15), sld15⟩) (cd15 : PySem.W.codeIn K cdd15 "_law_names" = true)
    -- 16
    {fd16 : Addr} {odd16 and16 : Option Addr} {sld16 : Array (Option Value)} {ocd16 kVd16 dcd16 pmd16 cdd16 ctd16 : Value}
    (ad16 : PySem.W.nsIn K mainGlobals "_law_number" = some (some (.ref fd16))) (kd16 : PySem.W.keepIn K (.ref fd16) = true)
    (ld16 : K.lookup fd16 = some ⟨ocd16, odd16, .func (PySem.W.fnOf "_law_number" "_law_number" (defArgs (top 34)) (defBody (top 34)) (defScope (top 34)) .none kVd16 dcd16 pmd16 and16 cdd16 ctd16), sld16⟩) (cd16 : PySem.W.codeIn K cdd16 "_law_number" = true)
    -- 17
    {fd17 : Addr} {odd17 and17 : Option Addr} {sld17 : Array (Option Value)} {ocd17 kVd17 dcd17 pmd17 cdd17 ctd17 : Value}
    (ad17 : PySem.W.nsIn K mainGlobals "_law_facts" = some (some (.ref fd17))) (kd17 : PySem.W.keepIn K (.ref fd17) = true)
    (ld17 : K.lookup fd17 = some ⟨ocd17, odd17, .func (PySem.W.fnOf "_law_facts" "_law_facts" (defArgs (top 35)) (defBody (top 35)) (defScope (top 35)) .none kVd17 dcd17 pmd17 and17 cdd17 ctd17), sld17⟩) (cd17 : PySem.W.codeIn K cdd17 "_law_facts" = true)
    -- 18
    {fd18 : Addr} {odd18 and18 : Option Addr} {sld18 : Array (Option Value)} {ocd18 kVd18 dcd18 pmd18 cdd18 ctd18 : Value}
    (ad18 : PySem.W.nsIn K mainGlobals "_law_closed" = some (some (.ref fd18))) (kd18 : PySem.W.keepIn K (.ref fd18) = true)
    (ld18 : K.lookup fd18 = some ⟨ocd18, odd18, .func (PySem.W.fnOf "_law_closed" "_law_closed" (defArgs (top 36)) (defBody (top 36)) (defScope (top 36)) .none kVd18 dcd18 pmd18 and18 cdd18 ctd18), sld18⟩) (cd18 : PySem.W.codeIn K cdd18 "_law_closed" = true)
    -- 19
    {fd19 : Addr} {odd19 and19 : Option Addr} {sld19 : Array (Option Value)} {ocd19 kVd19 dcd19 pmd19 cdd19 ctd19 : Value}
    (ad19 : PySem.W.nsIn K mainGlobals "_law_sum" = some (some (.ref fd19))) (kd19 : PySem.W.keepIn K (.ref fd19) = true)
    (ld19 : K.lookup fd19 = some ⟨ocd19, odd19, .func (PySem.W.fnOf "_law_sum" "_law_sum" (defArgs (top 37)) (defBody (top 37)) (defScope (top 37)) .none kVd19 dcd19 pmd19 and19 cdd19 ctd19), sld19⟩) (cd19 : PySem.W.codeIn K cdd19 "_law_sum" = true)
    -- 20
    {fd20 : Addr} {odd20 and20 : Option Addr} {sld20 : Array (Option Value)} {ocd20 kVd20 dcd20 pmd20 cdd20 ctd20 : Value}
    (ad20 : PySem.W.nsIn K mainGlobals "law" = some (some (.ref fd20))) (kd20 : PySem.W.keepIn K (.ref fd20) = true)
    (ld20 : K.lookup fd20 = some ⟨ocd20, odd20, .func (PySem.W.fnOf "law" "law" (defArgs (top 38)) (defBody (top 38)) (defScope (top 38)) .none kVd20 dcd20 pmd20 and20 cdd20 ctd20), sld20⟩) (cd20 : PySem.W.codeIn K cdd20 "law" = true)
    {Cg0 : Addr} (ag0 : PySem.W.nsIn K mainGlobals "Facts" = some (some (.ref Cg0))) (pgg0 : PySem.W.plainGet K Cg0 Str.empty = true) (icg0 : PySem.W.isClsIn K Cg0 = true) (pog0 : PySem.W.plainOver K Cg0 = true) (sag0 : PySem.W.findIn K (.ref Cg0) "__setattr__" = some (some (.builtin "object.__setattr__"))) (mkg0 : PySem.W.makesIn K Cg0 = true) (kpg0 : PySem.W.keepIn K (.ref Cg0) = true)
    {pg0s0 : Addr} (atg0s0 : PySem.W.findIn K (.ref Cg0) "held_bounds" = some (some (.ref pg0s0))) (geg0s0 : PySem.W.specialIn K (.ref pg0s0) "__get__" = some (some (.builtin "member_descriptor.__get__"))) (tkg0s0 : PySem.W.takesIn K (.ref pg0s0) = some true) (tyg0s0 : PySem.W.typeIn K (.ref pg0s0) = some (.type "member_descriptor")) (ixg0s0 : PySem.W.slotIn K pg0s0 Cg0 = some 0)
    {pg0s1 : Addr} (atg0s1 : PySem.W.findIn K (.ref Cg0) "held_names" = some (some (.ref pg0s1))) (geg0s1 : PySem.W.specialIn K (.ref pg0s1) "__get__" = some (some (.builtin "member_descriptor.__get__"))) (tkg0s1 : PySem.W.takesIn K (.ref pg0s1) = some true) (tyg0s1 : PySem.W.typeIn K (.ref pg0s1) = some (.type "member_descriptor")) (ixg0s1 : PySem.W.slotIn K pg0s1 Cg0 = some 1)
    {fg0m1 : Addr} {odg0m1 ang0m1 : Option Addr} {slg0m1 : Array (Option Value)} {ocg0m1 kVg0m1 dcg0m1 pmg0m1 cdg0m1 ctg0m1 : Value} {Tg0m1 : Addr} {ocTg0m1 : Value} {odTg0m1 : Option Addr} {dvg0m1_0 : Value} {nTg0m1 : Nat} {slTg0m1 : Array (Option Value)}
    (mg0m1 : PySem.W.findIn K (.ref Cg0) "__init__" = some (some (.ref fg0m1))) (fng0m1 : PySem.W.isFn K (.ref fg0m1) = true) (kg0m1 : PySem.W.keepIn K (.ref fg0m1) = true)
    (lg0m1 : K.lookup fg0m1 = some ⟨ocg0m1, odg0m1, .func (PySem.W.fnOf "__init__" "Facts.__init__" (defArgs (mth 27 1)) (defBody (mth 27 1)) (defScope (mth 27 1)) (.ref Tg0m1) kVg0m1 dcg0m1 pmg0m1 ang0m1 cdg0m1 ctg0m1), slg0m1⟩) (cg0m1 : PySem.W.codeIn K cdg0m1 "Facts.__init__" = true)
    (tg0m1 : K.lookup Tg0m1 = some ⟨ocTg0m1, odTg0m1, .seq #[dvg0m1_0] nTg0m1, slTg0m1⟩)
    {fg0m2 : Addr} {odg0m2 ang0m2 : Option Addr} {slg0m2 : Array (Option Value)} {ocg0m2 kVg0m2 dcg0m2 pmg0m2 cdg0m2 ctg0m2 : Value}
    (mg0m2 : PySem.W.findIn K (.ref Cg0) "names" = some (some (.ref fg0m2))) (fng0m2 : PySem.W.isFn K (.ref fg0m2) = true) (kg0m2 : PySem.W.keepIn K (.ref fg0m2) = true)
    (lg0m2 : K.lookup fg0m2 = some ⟨ocg0m2, odg0m2, .func (PySem.W.fnOf "names" "Facts.names" (defArgs (mth 27 2)) (defBody (mth 27 2)) (defScope (mth 27 2)) .none kVg0m2 dcg0m2 pmg0m2 ang0m2 cdg0m2 ctg0m2), slg0m2⟩) (cg0m2 : PySem.W.codeIn K cdg0m2 "Facts.names" = true)
    {fg0m3 : Addr} {odg0m3 ang0m3 : Option Addr} {slg0m3 : Array (Option Value)} {ocg0m3 kVg0m3 dcg0m3 pmg0m3 cdg0m3 ctg0m3 : Value}
    (mg0m3 : PySem.W.findIn K (.ref Cg0) "sources" = some (some (.ref fg0m3))) (fng0m3 : PySem.W.isFn K (.ref fg0m3) = true) (kg0m3 : PySem.W.keepIn K (.ref fg0m3) = true)
    (lg0m3 : K.lookup fg0m3 = some ⟨ocg0m3, odg0m3, .func (PySem.W.fnOf "sources" "Facts.sources" (defArgs (mth 27 3)) (defBody (mth 27 3)) (defScope (mth 27 3)) .none kVg0m3 dcg0m3 pmg0m3 ang0m3 cdg0m3 ctg0m3), slg0m3⟩) (cg0m3 : PySem.W.codeIn K cdg0m3 "Facts.sources" = true)
    {fg0m4 : Addr} {odg0m4 ang0m4 : Option Addr} {slg0m4 : Array (Option Value)} {ocg0m4 kVg0m4 dcg0m4 pmg0m4 cdg0m4 ctg0m4 : Value}
    (mg0m4 : PySem.W.findIn K (.ref Cg0) "need" = some (some (.ref fg0m4))) (fng0m4 : PySem.W.isFn K (.ref fg0m4) = true) (kg0m4 : PySem.W.keepIn K (.ref fg0m4) = true)
    (lg0m4 : K.lookup fg0m4 = some ⟨ocg0m4, odg0m4, .func (PySem.W.fnOf "need" "Facts.need" (defArgs (mth 27 4)) (defBody (mth 27 4)) (defScope (mth 27 4)) .none kVg0m4 dcg0m4 pmg0m4 ang0m4 cdg0m4 ctg0m4), slg0m4⟩) (cg0m4 : PySem.W.codeIn K cdg0m4 "Facts.need" = true)
    {fg0m5 : Addr} {odg0m5 ang0m5 : Option Addr} {slg0m5 : Array (Option Value)} {ocg0m5 kVg0m5 dcg0m5 pmg0m5 cdg0m5 ctg0m5 : Value}
    (mg0m5 : PySem.W.findIn K (.ref Cg0) "alike" = some (some (.ref fg0m5))) (fng0m5 : PySem.W.isFn K (.ref fg0m5) = true) (kg0m5 : PySem.W.keepIn K (.ref fg0m5) = true)
    (lg0m5 : K.lookup fg0m5 = some ⟨ocg0m5, odg0m5, .func (PySem.W.fnOf "alike" "Facts.alike" (defArgs (mth 27 5)) (defBody (mth 27 5)) (defScope (mth 27 5)) .none kVg0m5 dcg0m5 pmg0m5 ang0m5 cdg0m5 ctg0m5), slg0m5⟩) (cg0m5 : PySem.W.codeIn K cdg0m5 "Facts.alike" = true)
    {fg0m6 : Addr} {odg0m6 ang0m6 : Option Addr} {slg0m6 : Array (Option Value)} {ocg0m6 kVg0m6 dcg0m6 pmg0m6 cdg0m6 ctg0m6 : Value}
    (mg0m6 : PySem.W.findIn K (.ref Cg0) "greatest" = some (some (.ref fg0m6))) (fng0m6 : PySem.W.isFn K (.ref fg0m6) = true) (kg0m6 : PySem.W.keepIn K (.ref fg0m6) = true)
    (lg0m6 : K.lookup fg0m6 = some ⟨ocg0m6, odg0m6, .func (PySem.W.fnOf "greatest" "Facts.greatest" (defArgs (mth 27 6)) (defBody (mth 27 6)) (defScope (mth 27 6)) .none kVg0m6 dcg0m6 pmg0m6 ang0m6 cdg0m6 ctg0m6), slg0m6⟩) (cg0m6 : PySem.W.codeIn K cdg0m6 "Facts.greatest" = true)
    {fg0m7 : Addr} {odg0m7 ang0m7 : Option Addr} {slg0m7 : Array (Option Value)} {ocg0m7 kVg0m7 dcg0m7 pmg0m7 cdg0m7 ctg0m7 : Value}
    (mg0m7 : PySem.W.findIn K (.ref Cg0) "bounds" = some (some (.ref fg0m7))) (fng0m7 : PySem.W.isFn K (.ref fg0m7) = true) (kg0m7 : PySem.W.keepIn K (.ref fg0m7) = true)
    (lg0m7 : K.lookup fg0m7 = some ⟨ocg0m7, odg0m7, .func (PySem.W.fnOf "bounds" "Facts.bounds" (defArgs (mth 27 7)) (defBody (mth 27 7)) (defScope (mth 27 7)) .none kVg0m7 dcg0m7 pmg0m7 ang0m7 cdg0m7 ctg0m7), slg0m7⟩) (cg0m7 : PySem.W.codeIn K cdg0m7 "Facts.bounds" = true)
    {fg0m8 : Addr} {odg0m8 ang0m8 : Option Addr} {slg0m8 : Array (Option Value)} {ocg0m8 kVg0m8 dcg0m8 pmg0m8 cdg0m8 ctg0m8 : Value}
    (mg0m8 : PySem.W.findIn K (.ref Cg0) "keeps" = some (some (.ref fg0m8))) (fng0m8 : PySem.W.isFn K (.ref fg0m8) = true) (kg0m8 : PySem.W.keepIn K (.ref fg0m8) = true)
    (lg0m8 : K.lookup fg0m8 = some ⟨ocg0m8, odg0m8, .func (PySem.W.fnOf "keeps" "Facts.keeps" (defArgs (mth 27 8)) (defBody (mth 27 8)) (defScope (mth 27 8)) .none kVg0m8 dcg0m8 pmg0m8 ang0m8 cdg0m8 ctg0m8), slg0m8⟩) (cg0m8 : PySem.W.codeIn K cdg0m8 "Facts.keeps" = true)
    {fg0m11 : Addr} {odg0m11 ang0m11 : Option Addr} {slg0m11 : Array (Option Value)} {ocg0m11 kVg0m11 dcg0m11 pmg0m11 cdg0m11 ctg0m11 : Value}
    (mg0m11 : PySem.W.findIn K (.ref Cg0) "__and__" = some (some (.ref fg0m11))) (fng0m11 : PySem.W.isFn K (.ref fg0m11) = true) (kg0m11 : PySem.W.keepIn K (.ref fg0m11) = true)
    (lg0m11 : K.lookup fg0m11 = some ⟨ocg0m11, odg0m11, .func (PySem.W.fnOf "__and__" "Facts.__and__" (defArgs (mth 27 11)) (defBody (mth 27 11)) (defScope (mth 27 11)) .none kVg0m11 dcg0m11 pmg0m11 ang0m11 cdg0m11 ctg0m11), slg0m11⟩) (cg0m11 : PySem.W.codeIn K cdg0m11 "Facts.__and__" = true)
    {fg0m13 : Addr} {odg0m13 ang0m13 : Option Addr} {slg0m13 : Array (Option Value)} {ocg0m13 kVg0m13 dcg0m13 pmg0m13 cdg0m13 ctg0m13 : Value}
    (mg0m13 : PySem.W.findIn K (.ref Cg0) "__eq__" = some (some (.ref fg0m13))) (fng0m13 : PySem.W.isFn K (.ref fg0m13) = true) (kg0m13 : PySem.W.keepIn K (.ref fg0m13) = true)
    (lg0m13 : K.lookup fg0m13 = some ⟨ocg0m13, odg0m13, .func (PySem.W.fnOf "__eq__" "Facts.__eq__" (defArgs (mth 27 13)) (defBody (mth 27 13)) (defScope (mth 27 13)) .none kVg0m13 dcg0m13 pmg0m13 ang0m13 cdg0m13 ctg0m13), slg0m13⟩) (cg0m13 : PySem.W.codeIn K cdg0m13 "Facts.__eq__" = true)
    (z_len : PySem.W.nsIn K mainGlobals "len" = some none)
    (z_abs : PySem.W.nsIn K mainGlobals "abs" = some none)
    (z_max : PySem.W.nsIn K mainGlobals "max" = some none)
    (z_min : PySem.W.nsIn K mainGlobals "min" = some none)
    (z_sum : PySem.W.nsIn K mainGlobals "sum" = some none)
    (z_all : PySem.W.nsIn K mainGlobals "all" = some none)
    (z_any : PySem.W.nsIn K mainGlobals "any" = some none)
    (z_int : PySem.W.nsIn K mainGlobals "int" = some none)
    (z_str : PySem.W.nsIn K mainGlobals "str" = some none)
    (z_repr : PySem.W.nsIn K mainGlobals "repr" = some none)
    (z_list : PySem.W.nsIn K mainGlobals "list" = some none)
    (z_tuple : PySem.W.nsIn K mainGlobals "tuple" = some none)
    (z_bool : PySem.W.nsIn K mainGlobals "bool" = some none)
    (z_dict : PySem.W.nsIn K mainGlobals "dict" = some none)
    (z_isinstance : PySem.W.nsIn K mainGlobals "isinstance" = some none)
    (z_range : PySem.W.nsIn K mainGlobals "range" = some none)
    (z_sorted : PySem.W.nsIn K mainGlobals "sorted" = some none)
    (z_set : PySem.W.nsIn K mainGlobals "set" = some none)
    (z_zip : PySem.W.nsIn K mainGlobals "zip" = some none)
    (z_enumerate : PySem.W.nsIn K mainGlobals "enumerate" = some none)
    (z_reversed : PySem.W.nsIn K mainGlobals "reversed" = some none)
    (z_super : PySem.W.nsIn K mainGlobals "super" = some none)
    {tc0 : Tok} (gc0 : PySem.W.nsIn K mainGlobals "ENDLESS_links" = some (some (.str "endless" tc0)))
    {tc1 : Tok} (gc1 : PySem.W.nsIn K mainGlobals "LETTERS" = some (some (.str "abcdefghijklmnopqrstuvwxyz" tc1)))
    {tc2 : Tok} (gc2 : PySem.W.nsIn K mainGlobals "LONGEST" = some (some (.int 8 tc2)))
    {tc3 : Tok} (gc3 : PySem.W.nsIn K mainGlobals "ZERO" = some (some (.str "" tc3)))
    {tc4 : Tok} (gc4 : PySem.W.nsIn K mainGlobals "ENDLESS_facts" = some (some (.str "endless" tc4)))
    (eop : PySem.W.nsIn K cStatics "thirdparty.any" = some none)
    {Ap : Addr}
    {Cx0 fIx0 Nx0 cdax0 ccx0 : Addr} {nmx0 qx0 : Str} {bsx0 subx0 : List Value} {snx0 : List Str} {abx0 : Bool} {colx0 : Option Bool} {ddx0 odx0 anx0 cddx0 cldx0 : Option Addr} {m0x0 m1x0 m2x0 m3x0 m5x0 : Option Value} {ocx0 docx0 pmx0 ctx0 cclx0 clx0 : Value} {oslx0 ccsx0 cslx0 : Array (Option Value)} {vsx0 : Array Value} {filex0 : Str} {tfx0 : Tok}
    (x0a : PySem.W.nsIn K mainGlobals "Wrong" = some (some (.ref Cx0))) (x0b : K.lookup Cx0 = some (excClassObj nmx0 qx0 Cx0 Nx0 bsx0 [.ref Ap, .type "ValueError", .type "Exception", .type "BaseException", .type "object"] true snx0 subx0 abx0 colx0 ddx0 m0x0 m1x0 m2x0 m3x0 m5x0 "ValueError.__new__")) (x0c : PySem.W.ks_superIn K Cx0 Cx0 "__init__" = some (some (.builtin "ValueError.__init__"))) (x0d : PySem.W.findIn K (.ref Cx0) "__setattr__" = some (some (.builtin "object.__setattr__"))) (x0e : PySem.W.findIn K (.ref Cx0) "__getattribute__" = some (some (.builtin "BaseException.__getattribute__"))) (x0f : PySem.W.findIn K (.ref Cx0) "__getattr__" = some none) (x0h0 : PySem.W.findIn K (.ref Cx0) "place" = some none) (x0i : PySem.W.findIn K (.ref Cx0) "__init__" = some (some (.ref fIx0))) (x0j : PySem.W.typeIn K (.ref fIx0) = some (.type "function")) (x0k : K.lookup fIx0 = some ⟨ocx0, odx0, .func (PySem.W.ksFn "__init__" "Wrong.__init__" (eA ⟨9, 17, 9, 21⟩ ((["place"] : List Str).zip ([⟨9, 23, 9, 28⟩] : List Pos))) (eB ⟨10, 8, 10, 13⟩ ⟨10, 8, 10, 15⟩ ⟨10, 8, 10, 24⟩ ⟨10, 8, 10, 31⟩ ⟨10, 8, 10, 31⟩ ((["place"] : List Str).zip ([(⟨10, 25, 10, 30⟩, ⟨11, 8, 11, 12⟩, ⟨11, 8, 11, 18⟩, ⟨11, 21, 11, 26⟩, ⟨11, 8, 11, 26⟩)] : List (Pos × PP)))) (eS ["place"]) .none .none docx0 pmx0 anx0 (.ref cdax0) ctx0 ccx0), oslx0⟩) (x0l : PySem.W.codeIn K (.ref cdax0) "Wrong.__init__" = true) (x0m : PySem.W.keepIn K (.ref Cx0) = true) (x0n : PySem.W.typeIn K (.ref Cx0) = some (.type "type")) (x0o : PySem.W.hasDictIn K Cx0 = true) (x0p : K.lookup cdax0 = some ⟨cclx0, cddx0, .fields vsx0, ccsx0⟩) (x0q : vsx0[2]? = some (.str filex0 tfx0)) (x0r : ((P.main.file : Str) == filex0) = true) (x0s : K.lookup ccx0 = some ⟨clx0, cldx0, .cell (some (.ref Cx0)), cslx0⟩)
    {Cx1 fIx1 Nx1 cdax1 ccx1 : Addr} {nmx1 qx1 : Str} {bsx1 subx1 : List Value} {snx1 : List Str} {abx1 : Bool} {colx1 : Option Bool} {ddx1 odx1 anx1 cddx1 cldx1 : Option Addr} {m0x1 m1x1 m2x1 m3x1 m5x1 : Option Value} {ocx1 docx1 pmx1 ctx1 cclx1 clx1 : Value} {oslx1 ccsx1 cslx1 : Array (Option Value)} {vsx1 : Array Value} {filex1 : Str} {tfx1 : Tok}
    (x1a : PySem.W.nsIn K mainGlobals "NoName" = some (some (.ref Cx1))) (x1b : K.lookup Cx1 = some (excClassObj nmx1 qx1 Cx1 Nx1 bsx1 [.ref Ap, .type "ValueError", .type "Exception", .type "BaseException", .type "object"] true snx1 subx1 abx1 colx1 ddx1 m0x1 m1x1 m2x1 m3x1 m5x1 "ValueError.__new__")) (x1c : PySem.W.ks_superIn K Cx1 Cx1 "__init__" = some (some (.builtin "ValueError.__init__"))) (x1d : PySem.W.findIn K (.ref Cx1) "__setattr__" = some (some (.builtin "object.__setattr__"))) (x1e : PySem.W.findIn K (.ref Cx1) "__getattribute__" = some (some (.builtin "BaseException.__getattribute__"))) (x1f : PySem.W.findIn K (.ref Cx1) "__getattr__" = some none) (x1h0 : PySem.W.findIn K (.ref Cx1) "name" = some none) (x1i : PySem.W.findIn K (.ref Cx1) "__init__" = some (some (.ref fIx1))) (x1j : PySem.W.typeIn K (.ref fIx1) = some (.type "function")) (x1k : K.lookup fIx1 = some ⟨ocx1, odx1, .func (PySem.W.ksFn "__init__" "NoName.__init__" (eA ⟨14, 17, 14, 21⟩ ((["name"] : List Str).zip ([⟨14, 23, 14, 27⟩] : List Pos))) (eB ⟨15, 8, 15, 13⟩ ⟨15, 8, 15, 15⟩ ⟨15, 8, 15, 24⟩ ⟨15, 8, 15, 30⟩ ⟨15, 8, 15, 30⟩ ((["name"] : List Str).zip ([(⟨15, 25, 15, 29⟩, ⟨16, 8, 16, 12⟩, ⟨16, 8, 16, 17⟩, ⟨16, 20, 16, 24⟩, ⟨16, 8, 16, 24⟩)] : List (Pos × PP)))) (eS ["name"]) .none .none docx1 pmx1 anx1 (.ref cdax1) ctx1 ccx1), oslx1⟩) (x1l : PySem.W.codeIn K (.ref cdax1) "NoName.__init__" = true) (x1m : PySem.W.keepIn K (.ref Cx1) = true) (x1n : PySem.W.typeIn K (.ref Cx1) = some (.type "type")) (x1o : PySem.W.hasDictIn K Cx1 = true) (x1p : K.lookup cdax1 = some ⟨cclx1, cddx1, .fields vsx1, ccsx1⟩) (x1q : vsx1[2]? = some (.str filex1 tfx1)) (x1r : ((P.main.file : Str) == filex1) = true) (x1s : K.lookup ccx1 = some ⟨clx1, cldx1, .cell (some (.ref Cx1)), cslx1⟩)
    {Cx2 fIx2 Nx2 cdax2 ccx2 : Addr} {nmx2 qx2 : Str} {bsx2 subx2 : List Value} {snx2 : List Str} {abx2 : Bool} {colx2 : Option Bool} {ddx2 odx2 anx2 cddx2 cldx2 : Option Addr} {m0x2 m1x2 m2x2 m3x2 m5x2 : Option Value} {ocx2 docx2 pmx2 ctx2 cclx2 clx2 : Value} {oslx2 ccsx2 cslx2 : Array (Option Value)} {vsx2 : Array Value} {filex2 : Str} {tfx2 : Tok}
    (x2a : PySem.W.nsIn K mainGlobals "NoStart" = some (some (.ref Cx2))) (x2b : K.lookup Cx2 = some (excClassObj nmx2 qx2 Cx2 Nx2 bsx2 [.ref Ap, .type "ValueError", .type "Exception", .type "BaseException", .type "object"] true snx2 subx2 abx2 colx2 ddx2 m0x2 m1x2 m2x2 m3x2 m5x2 "ValueError.__new__")) (x2c : PySem.W.ks_superIn K Cx2 Cx2 "__init__" = some (some (.builtin "ValueError.__init__"))) (x2d : PySem.W.findIn K (.ref Cx2) "__setattr__" = some (some (.builtin "object.__setattr__"))) (x2e : PySem.W.findIn K (.ref Cx2) "__getattribute__" = some (some (.builtin "BaseException.__getattribute__"))) (x2f : PySem.W.findIn K (.ref Cx2) "__getattr__" = some none) (x2i : PySem.W.findIn K (.ref Cx2) "__init__" = some (some (.ref fIx2))) (x2j : PySem.W.typeIn K (.ref fIx2) = some (.type "function")) (x2k : K.lookup fIx2 = some ⟨ocx2, odx2, .func (PySem.W.ksFn "__init__" "NoStart.__init__" (eA ⟨19, 17, 19, 21⟩ (([] : List Str).zip ([] : List Pos))) (eB ⟨20, 8, 20, 13⟩ ⟨20, 8, 20, 15⟩ ⟨20, 8, 20, 24⟩ ⟨20, 8, 20, 26⟩ ⟨20, 8, 20, 26⟩ (([] : List Str).zip ([] : List (Pos × PP)))) (eS []) .none .none docx2 pmx2 anx2 (.ref cdax2) ctx2 ccx2), oslx2⟩) (x2l : PySem.W.codeIn K (.ref cdax2) "NoStart.__init__" = true) (x2m : PySem.W.keepIn K (.ref Cx2) = true) (x2n : PySem.W.typeIn K (.ref Cx2) = some (.type "type")) (x2o : PySem.W.hasDictIn K Cx2 = true) (x2p : K.lookup cdax2 = some ⟨cclx2, cddx2, .fields vsx2, ccsx2⟩) (x2q : vsx2[2]? = some (.str filex2 tfx2)) (x2r : ((P.main.file : Str) == filex2) = true) (x2s : K.lookup ccx2 = some ⟨clx2, cldx2, .cell (some (.ref Cx2)), cslx2⟩)
    {Cx3 fIx3 Nx3 cdax3 ccx3 : Addr} {nmx3 qx3 : Str} {bsx3 subx3 : List Value} {snx3 : List Str} {abx3 : Bool} {colx3 : Option Bool} {ddx3 odx3 anx3 cddx3 cldx3 : Option Addr} {m0x3 m1x3 m2x3 m3x3 m5x3 : Option Value} {ocx3 docx3 pmx3 ctx3 cclx3 clx3 : Value} {oslx3 ccsx3 cslx3 : Array (Option Value)} {vsx3 : Array Value} {filex3 : Str} {tfx3 : Tok}
    (x3a : PySem.W.nsIn K mainGlobals "Unlike" = some (some (.ref Cx3))) (x3b : K.lookup Cx3 = some (excClassObj nmx3 qx3 Cx3 Nx3 bsx3 [.ref Ap, .type "ValueError", .type "Exception", .type "BaseException", .type "object"] true snx3 subx3 abx3 colx3 ddx3 m0x3 m1x3 m2x3 m3x3 m5x3 "ValueError.__new__")) (x3c : PySem.W.ks_superIn K Cx3 Cx3 "__init__" = some (some (.builtin "ValueError.__init__"))) (x3d : PySem.W.findIn K (.ref Cx3) "__setattr__" = some (some (.builtin "object.__setattr__"))) (x3e : PySem.W.findIn K (.ref Cx3) "__getattribute__" = some (some (.builtin "BaseException.__getattribute__"))) (x3f : PySem.W.findIn K (.ref Cx3) "__getattr__" = some none) (x3i : PySem.W.findIn K (.ref Cx3) "__init__" = some (some (.ref fIx3))) (x3j : PySem.W.typeIn K (.ref fIx3) = some (.type "function")) (x3k : K.lookup fIx3 = some ⟨ocx3, odx3, .func (PySem.W.ksFn "__init__" "Unlike.__init__" (eA ⟨23, 17, 23, 21⟩ (([] : List Str).zip ([] : List Pos))) (eB ⟨24, 8, 24, 13⟩ ⟨24, 8, 24, 15⟩ ⟨24, 8, 24, 24⟩ ⟨24, 8, 24, 26⟩ ⟨24, 8, 24, 26⟩ (([] : List Str).zip ([] : List (Pos × PP)))) (eS []) .none .none docx3 pmx3 anx3 (.ref cdax3) ctx3 ccx3), oslx3⟩) (x3l : PySem.W.codeIn K (.ref cdax3) "Unlike.__init__" = true) (x3m : PySem.W.keepIn K (.ref Cx3) = true) (x3n : PySem.W.typeIn K (.ref Cx3) = some (.type "type")) (x3o : PySem.W.hasDictIn K Cx3 = true) (x3p : K.lookup cdax3 = some ⟨cclx3, cddx3, .fields vsx3, ccsx3⟩) (x3q : vsx3[2]? = some (.str filex3 tfx3)) (x3r : ((P.main.file : Str) == filex3) = true) (x3s : K.lookup ccx3 = some ⟨clx3, cldx3, .cell (some (.ref Cx3)), cslx3⟩)
    : ∃ fd : FuncData, (∀ (s : Shared) (v : Value), BindsTo s fd ⟨[v], []⟩ [("_law_script", v)]) ∧ ∀ base : Heap, K.In base → base.Ns mainGlobals mg → FnG P w K mg base CX0 15 fa fd ["_law_script"] (IP.spLaw K) := by
  have E0 : ErrTxt P K mg "Wrong" ["place"] Cx0 fIx0 := mk_errT X G eop z_super ptop (by decide +kernel) (by decide +kernel) (by decide) rfl rfl (fun _ _ us hl => match us, hl with | [_], _ => .of_eq rfl) x0a x0b x0c x0d x0e x0f (fun f hf => by cases List.mem_singleton.mp hf; exact x0h0) x0i x0j x0k x0l x0m x0n x0o x0p x0q x0r x0s
  have E1 : ErrTxt P K mg "NoName" ["name"] Cx1 fIx1 := mk_errT X G eop z_super ptop (by decide +kernel) (by decide +kernel) (by decide) rfl rfl (fun _ _ us hl => match us, hl with | [_], _ => .of_eq rfl) x1a x1b x1c x1d x1e x1f (fun f hf => by cases List.mem_singleton.mp hf; exact x1h0) x1i x1j x1k x1l x1m x1n x1o x1p x1q x1r x1s
  have E2 : ErrTxt P K mg "NoStart" [] Cx2 fIx2 := mk_errT X G eop z_super ptop (by decide +kernel) (by decide +kernel) (by decide) rfl rfl (fun _ _ us hl => match us, hl with | [], _ => .of_eq rfl) x2a x2b x2c x2d x2e x2f (fun f hf => by cases hf) x2i x2j x2k x2l x2m x2n x2o x2p x2q x2r x2s
  have E3 : ErrTxt P K mg "Unlike" [] Cx3 fIx3 := mk_errT X G eop z_super ptop (by decide +kernel) (by decide +kernel) (by decide) rfl rfl (fun _ _ us hl => match us, hl with | [], _ => .of_eq rfl) x3a x3b x3c x3d x3e x3f (fun f hf => by cases hf) x3i x3j x3k x3l x3m x3n x3o x3p x3q x3r x3s
  have g_law := PySem.W.mg_of X G ad20
  have e := hfa.symm.trans g_law
  cases e
  have B : Blt mg := ⟨PySem.W.mg_none_of X G z_len, PySem.W.mg_none_of X G z_int, PySem.W.mg_none_of X G z_abs, PySem.W.mg_none_of X G z_range, PySem.W.mg_none_of X G z_repr, PySem.W.mg_none_of X G z_isinstance, PySem.W.mg_none_of X G z_str, PySem.W.mg_none_of X G z_bool, PySem.W.mg_none_of X G z_all⟩
  refine ⟨PySem.W.fnOf "law" "law" (defArgs (top 38)) (defBody (top 38)) (defScope (top 38)) .none kVd20 dcd20 pmd20 and20 cdd20 ctd20, fun s v => .of_eq rfl, fun base _ _ => ?_⟩
  have C_bag : Cl P w K mg base 1 "_law_bag" ["_law_script"] (spBagG K) := ⟨_, _, Kk.ok_law_bag (fun_mk (st := Kk.s_law_bag) ld11 cd11 kd11) B, PySem.W.mg_of X G ad11, kd11, .all fun us hl => match us, hl with | [_], _ => rfl⟩
  have C_take : Cl P w K mg base 1 "_law_take" ["_law_bag_here", "_law_many"] spTake := ⟨_, _, FnG.of (Kk.ok_take (fun_mk (st := Kk.s_law_take) ld12 cd12 kd12) B), PySem.W.mg_of X G ad12, kd12, .all fun us hl => match us, hl with | [_, _], _ => rfl⟩
  have hmx : (md []).mx = mx := mx_md rfl
  let U : Ux := ⟨K, fun c => ([("Facts", Cg0), ("Wrong", Cx0), ("NoName", Cx1), ("NoStart", Cx2), ("Unlike", Cx3)] : List (Str × Addr)).lookup c, fun c => (([("Wrong", ["place"]), ("NoName", ["name"]), ("NoStart", []), ("Unlike", [])] : List (Str × List Str)).lookup c).getD []⟩
  have S0 : SlX.SCls K Cg0 := ⟨pgg0, icg0, pog0, sag0⟩
  have hdefs : ∀ x d, (md []).fs.lookup x = some d → DefOk K mg mx x d := (look_cons (def_mk X G ad0 kd0 (txt_mk (st := top 9) (d := t_plus) ld0 cd0 sc_plus ch_plus (.all fun us hl => match us, hl with | [_, _], _ => rfl))) (look_cons (def_mk X G ad1 kd1 (txt_mk (st := top 11) (d := t_greater) ld1 cd1 sc_greater ch_greater (.all fun us hl => match us, hl with | [_, _], _ => rfl))) (look_cons (def_mk X G ad2 kd2 (txt_mk (st := top 12) (d := t_known) ld2 cd2 sc_known ch_known (.all fun us hl => match us, hl with | [_, _, _], _ => rfl))) (look_cons (def_mk X G ad3 kd3 (txt_mk (st := top 17) (d := t_is_integer) ld3 cd3 sc_is_integer ch_is_integer (.all fun us hl => match us, hl with | [_], _ => rfl))) (look_cons (def_mk X G ad4 kd4 (txt_mk (st := top 18) (d := t_is_name) ld4 cd4 sc_is_name ch_is_name (.all fun us hl => match us, hl with | [_], _ => rfl))) (look_cons (def_mk X G ad5 kd5 (txt_mk (st := top 19) (d := t_is_source) ld5 cd5 sc_is_source ch_is_source (.all fun us hl => match us, hl with | [_], _ => rfl))) (look_cons (def_mk X G ad6 kd6 (txt_mk (st := top 20) (d := t_are_different) ld6 cd6 sc_are_different ch_are_different (.all fun us hl => match us, hl with | [_], _ => rfl))) (look_cons (def_mk X G ad7 kd7 (txt_mk (st := top 21) (d := t_are_names) ld7 cd7 sc_are_names ch_are_names (.all fun us hl => match us, hl with | [_], _ => rfl))) (look_cons (def_mk X G ad8 kd8 (txt_mk (st := top 24) (d := t_is_fact) ld8 cd8 sc_is_fact ch_is_fact (.all fun us hl => match us, hl with | [_], _ => rfl))) (look_cons (def_mk X G ad9 kd9 (txt_mk (st := top 25) (d := t_are_facts) ld9 cd9 sc_are_facts ch_are_facts (.all fun us hl => match us, hl with | [_], _ => rfl))) (look_cons (def_mk X G ad10 kd10 (txt_mk (st := top 26) (d := t_tightest) ld10 cd10 sc_tightest ch_tightest (.all fun us hl => match us, hl with | [_, _], _ => rfl))) (look_cons (def_mk X G ad13 kd13 (txt_mk (st := top 31) (d := t_law_alike) ld13 cd13 sc_law_alike ch_law_alike (.all fun us hl => match us, hl with | [_, _], _ => rfl))) (look_cons (def_mk X G ad14 kd14 (txt_mk (st := top 32) (d := t_law_mixed) ld14 cd14 sc_law_mixed ch_law_mixed (.all fun us hl => match us, hl with | [_, _], _ => rfl))) (look_cons (def_mk X G ad15 kd15 (txt_mk (st := top 33) (d := t_law_names) ld15 cd15 sc_law_names ch_law_names (.all fun us hl => match us, hl with | [_, _], _ => rfl))) (look_cons (def_mk X G ad16 kd16 (txt_mk (st := top 34) (d := t_law_number) ld16 cd16 sc_law_number ch_law_number (.all fun us hl => match us, hl with | [_], _ => rfl))) (look_cons (def_mk X G ad17 kd17 (txt_mk (st := top 35) (d := t_law_facts) ld17 cd17 sc_law_facts ch_law_facts (.all fun us hl => match us, hl with | [_, _], _ => rfl))) (look_cons (def_mk X G ad18 kd18 (txt_mk (st := top 36) (d := t_law_closed) ld18 cd18 sc_law_closed ch_law_closed (.all fun us hl => match us, hl with | [_, _], _ => rfl))) (look_cons (def_mk X G ad19 kd19 (txt_mk (st := top 37) (d := t_law_sum) ld19 cd19 sc_law_sum ch_law_sum (.all fun us hl => match us, hl with | [_, _], _ => rfl))) look_nil))))))))))))))))))
  have hmths : ∀ c m d, (md []).ms.lookup (c, m) = some d → MthOk K U.cl mx c m d := (look_cons2 (mth_mk (cl := U.cl) (C := Cg0) rfl S0 mg0m2 fng0m2 kg0m2 (txt_mk (st := mth 27 2) (d := t_Facts_names) lg0m2 cg0m2 sc_Facts_names ch_Facts_names (.all fun us hl => match us, hl with | [_], _ => rfl))) (look_cons2 (mth_mk (cl := U.cl) (C := Cg0) rfl S0 mg0m3 fng0m3 kg0m3 (txt_mk (st := mth 27 3) (d := t_Facts_sources) lg0m3 cg0m3 sc_Facts_sources ch_Facts_sources (.all fun us hl => match us, hl with | [_], _ => rfl))) (look_cons2 (mth_mk (cl := U.cl) (C := Cg0) rfl S0 mg0m4 fng0m4 kg0m4 (txt_mk (st := mth 27 4) (d := t_Facts_need) lg0m4 cg0m4 sc_Facts_need ch_Facts_need (.all fun us hl => match us, hl with | [_, _, _], _ => rfl))) (look_cons2 (mth_mk (cl := U.cl) (C := Cg0) rfl S0 mg0m5 fng0m5 kg0m5 (txt_mk (st := mth 27 5) (d := t_Facts_alike) lg0m5 cg0m5 sc_Facts_alike ch_Facts_alike (.all fun us hl => match us, hl with | [_, _], _ => rfl))) (look_cons2 (mth_mk (cl := U.cl) (C := Cg0) rfl S0 mg0m6 fng0m6 kg0m6 (txt_mk (st := mth 27 6) (d := t_Facts_greatest) lg0m6 cg0m6 sc_Facts_greatest ch_Facts_greatest (.all fun us hl => match us, hl with | [_, _, _], _ => rfl))) (look_cons2 (mth_mk (cl := U.cl) (C := Cg0) rfl S0 mg0m7 fng0m7 kg0m7 (txt_mk (st := mth 27 7) (d := t_Facts_bounds) lg0m7 cg0m7 sc_Facts_bounds ch_Facts_bounds (.all fun us hl => match us, hl with | [_], _ => rfl))) (look_cons2 (mth_mk (cl := U.cl) (C := Cg0) rfl S0 mg0m8 fng0m8 kg0m8 (txt_mk (st := mth 27 8) (d := t_Facts_keeps) lg0m8 cg0m8 sc_Facts_keeps ch_Facts_keeps (.all fun us hl => match us, hl with | [_, _], _ => rfl))) (look_cons2 (mth_mk (cl := U.cl) (C := Cg0) rfl S0 mg0m11 fng0m11 kg0m11 (txt_mk (st := mth 27 11) (d := t_Facts_and) lg0m11 cg0m11 sc_Facts_and ch_Facts_and (.all fun us hl => match us, hl with | [_, _], _ => rfl))) (look_cons2 (mth_mk (cl := U.cl) (C := Cg0) rfl S0 mg0m13 fng0m13 kg0m13 (txt_mk (st := mth 27 13) (d := t_Facts_eq) lg0m13 cg0m13 sc_Facts_eq ch_Facts_eq (.all fun us hl => match us, hl with | [_, _], _ => rfl))) look_nil2)))))))))
  have hctrs : ∀ c d, (md []).cs.lookup c = some d → CtrOk K mg U.cl mx c d := (look_cons (ctr_mk (cl := U.cl) (C := Cg0) X G rfl ag0 mkg0 mg0m1 fng0m1 kpg0 (txt_mk (st := mth 27 1) (d := t_Facts_init) lg0m1 cg0m1 sc_Facts_init ch_Facts_init (bindsD rfl tg0m1 fun us hl => match us, hl with | [_, _, _], _ => ⟨_, rfl, rfl⟩))) look_nil)
  have hsls : ∀ c ns, (md []).sl.lookup c = some ns → ∃ C, U.cl c = some C ∧ SlX.SCls K C ∧ ∀ i f, ns[i]? = some f → ∃ p, SlX.Slot1 K C f p (i + 0) := (look_cons ⟨Cg0, rfl, S0, (slots_cons (p := pg0s0) ⟨atg0s0, geg0s0, tkg0s0, tyg0s0, ixg0s0, by decide⟩ (slots_cons (p := pg0s1) ⟨atg0s1, geg0s1, tkg0s1, tyg0s1, ixg0s1, by decide⟩ slots_nil))⟩ look_nil)
  have herrs : ∀ c fs, (md []).er.lookup c = some fs → ∃ C fI, ErrTxt P K mg c fs C fI ∧ U.cl c = some C ∧ U.fl c = fs ∧ fs.length ≤ 2 := (look_cons ⟨Cx0, fIx0, E0, rfl, rfl, by decide⟩ (look_cons ⟨Cx1, fIx1, E1, rfl, rfl, by decide⟩ (look_cons ⟨Cx2, fIx2, E2, rfl, rfl, by decide⟩ (look_cons ⟨Cx3, fIx3, E3, rfl, rfl, by decide⟩ look_nil))))
  have hgcs : ∀ x d, (md []).gc.lookup x = some d → ∃ u v, mg x = some u ∧ RelV v u ∧ ∀ b c B, IP.Dt (U.G b c) B v d := (look_cons (gc_str X G gc0) (look_cons (gc_str X G gc1) (look_cons (gc_int X G gc2) (look_cons (gc_str X G gc3) (look_cons (gc_str X G gc4) look_nil)))))
  have hblt : ∀ x ∈ bltNames, mg (x : Str) = none := by
    intro x hx
    simp only [bltNames, List.mem_cons, List.not_mem_nil, or_false] at hx
    rcases hx with rfl | rfl | rfl | rfl | rfl | rfl | rfl | rfl | rfl | rfl | rfl | rfl | rfl | rfl | rfl | rfl | rfl | rfl | rfl | rfl | rfl
    · exact PySem.W.mg_none_of X G z_len
    · exact PySem.W.mg_none_of X G z_abs
    · exact PySem.W.mg_none_of X G z_max
    · exact PySem.W.mg_none_of X G z_min
    · exact PySem.W.mg_none_of X G z_sum
    · exact PySem.W.mg_none_of X G z_all
    · exact PySem.W.mg_none_of X G z_any
    · exact PySem.W.mg_none_of X G z_int
    · exact PySem.W.mg_none_of X G z_str
    · exact PySem.W.mg_none_of X G z_repr
    · exact PySem.W.mg_none_of X G z_list
    · exact PySem.W.mg_none_of X G z_tuple
    · exact PySem.W.mg_none_of X G z_bool
    · exact PySem.W.mg_none_of X G z_dict
    · exact PySem.W.mg_none_of X G z_isinstance
    · exact PySem.W.mg_none_of X G z_range
    · exact PySem.W.mg_none_of X G z_sorted
    · exact PySem.W.mg_none_of X G z_set
    · exact PySem.W.mg_none_of X G z_zip
    · exact PySem.W.mg_none_of X G z_enumerate
    · exact PySem.W.mg_none_of X G z_reversed
  have M : ModOk P w K mg base U (md []) := ⟨rfl, (fun x q hq => nomatch hq), (by rw [hmx]; exact hdefs), (by rw [hmx]; exact hmths), (by rw [hmx]; exact hctrs), ⟨hsls⟩, herrs, hgcs, hblt, ⟨_, C_take⟩⟩
  exact law_ok (k := 6) (i := 1) (N := nn_law) (rest := b_law) M (fun_mk (st := top 38) ld20 cd20 kd20) sc_law rfl (by decide) (by rw [hmx]; decide +kernel) (by decide +kernel) (by rw [hmx]; decide +kernel) rfl rfl (by rw [hmx]; exact ch_law) C_bag law_sem
theorem walk {l : PySem.W.OpenLaw} {q : Program} {loose : List Str} {XP : (Str → Option Value) → Heap → Prop} {YP : World → Heap → Prop} {d : DefRec} {K : Params → PySem.W.Frag} (hn : l.most = some 63) (hdf : d.params.defaults = [])
    (hY : ∀ (w : World) (h : Heap), YP w h → (K w.params).In h)
    (F : ∀ (w : World) (mg : Str → Option Value) (fa : Addr) (h : Heap), (K w.params).In h → h.Ns mainGlobals mg → mg d.name = some (.ref fa) →
      ∃ fd : FuncData, (∀ (s : Shared) (u : Value), BindsTo s fd ⟨[u], []⟩ [("_law_script", u)]) ∧ ∀ base : Heap, (K w.params).In base → base.Ns mainGlobals mg → FnG l.prog w (K w.params) mg base CX0 15 fa fd ["_law_script"] (IP.spLaw (K w.params))) :
    PySem.W.WalkO q loose XP YP l.row.toRowW d [] (fun f vs => PySem.call f vs) :=
  walk_g (n := 63) (k := 15) (x := "_law_script") (sp := fun w => IP.spLaw (K w.params)) hn (by decide) hdf ⟨rfl, by decide, by decide⟩ hY F fun _ _ a ns hl _ _ hS => ⟨a, ns, rfl, hS, hl, fun _ => rfl⟩
end Kt

open PySem PySem.W PyProof.Rows
set_option maxRecDepth 100000 in
set_option maxHeartbeats 0 in
theorem PySem.Challenge.cw_farapart_k64_sums_over_any_rows_holds : PySem.Challenge.rw_farapart_k64_sums_over_any_rows.Holds := by
  w_on; o_law; k_head; (case hw => w_witness2)
  k_fill
  refine Kt.walk (l := PySem.Challenge.rw_farapart_k64_sums_over_any_rows) rfl rfl (fun w h Y => PySem.W.kIn_of Y) ?F
  case F =>
    intro w mg fa h KX G hmg
    refine' Kt.all_mk KX G hmg ?ptop ?ad0 ?kd0 ?ld0 ?cd0 ?ad1 ?kd1 ?ld1 ?cd1 ?ad2 ?kd2 ?ld2 ?cd2 ?ad3 ?kd3 ?ld3 ?cd3 ?ad4 ?kd4 ?ld4 ?cd4 ?ad5 ?kd5 ?ld5 ?cd5 ?ad6 ?kd6 ?ld6 ?cd6 ?ad7 ?kd7 ?ld7 ?cd7 ?ad8 ?kd8 ?ld8 ?cd8 ?ad9 ?kd9 ?ld9 ?cd9 ?ad10 ?kd10 ?ld10 ?cd10 ?ad11 ?kd11 ?ld11 ?cd11 ?ad12 ?kd12 ?ld12 ?cd12 ?ad13 ?kd13 ?ld13 ?cd13 ?ad14 ?kd14 ?ld14 ?cd14 ?ad15 ?kd15 ?ld15 ?cd15 ?ad16 ?kd16 ?ld16 ?cd16 ?ad17 ?kd17 ?ld17 ?cd17 ?ad18 ?kd18 ?ld18 ?cd18 ?ad19 ?kd19 ?ld19 ?cd19 ?ad20 ?kd20 ?ld20 ?cd20 ?ag0 ?pgg0 ?icg0 ?pog0 ?sag0 ?mkg0 ?kpg0 ?atg0s0 ?geg0s0 ?tkg0s0 ?tyg0s0 ?ixg0s0 ?atg0s1 ?geg0s1 ?tkg0s1 ?tyg0s1 ?ixg0s1 ?mg0m1 ?fng0m1 ?kg0m1 ?lg0m1 ?cg0m1 ?tg0m1 ?mg0m2 ?fng0m2 ?kg0m2 ?lg0m2 ?cg0m2 ?mg0m3 ?fng0m3 ?kg0m3 ?lg0m3 ?cg0m3 ?mg0m4 ?fng0m4 ?kg0m4 ?lg0m4 ?cg0m4 ?mg0m5 ?fng0m5 ?kg0m5 ?lg0m5 ?cg0m5 ?mg0m6 ?fng0m6 ?kg0m6 ?lg0m6 ?cg0m6 ?mg0m7 ?fng0m7 ?kg0m7 ?lg0m7 ?cg0m7 ?mg0m8 ?fng0m8 ?kg0m8 ?lg0m8 ?cg0m8 ?mg0m11 ?fng0m11 ?kg0m11 ?lg0m11 ?cg0m11 ?mg0m13 ?fng0m13 ?kg0m13 ?lg0m13 ?cg0m13 ?z_len ?z_abs ?z_max ?z_min ?z_sum ?z_all ?z_any ?z_int ?z_str ?z_repr ?z_list ?z_tuple ?z_bool ?z_dict ?z_isinstance ?z_range ?z_sorted ?z_set ?z_zip ?z_enumerate ?z_reversed ?z_super ?gc0 ?gc1 ?gc2 ?gc3 ?gc4 ?eop ?x0a ?x0b ?x0c ?x0d ?x0e ?x0f ?x0h0 ?x0i ?x0j ?x0k ?x0l ?x0m ?x0n ?x0o ?x0p ?x0q ?x0r ?x0s ?x1a ?x1b ?x1c ?x1d ?x1e ?x1f ?x1h0 ?x1i ?x1j ?x1k ?x1l ?x1m ?x1n ?x1o ?x1p ?x1q ?x1r ?x1s ?x2a ?x2b ?x2c ?x2d ?x2e ?x2f ?x2i ?x2j ?x2k ?x2l ?x2m ?x2n ?x2o ?x2p ?x2q ?x2r ?x2s ?x3a ?x3b ?x3c ?x3d ?x3e ?x3f ?x3i ?x3j ?x3k ?x3l ?x3m ?x3n ?x3o ?x3p ?x3q ?x3r ?x3s
    (case ptop => first | rfl | decide | k_is)
    (case ad0 => first | k_is | rfl)
    (case kd0 => first | k_is | rfl)
    (case ld0 => first | k_is | rfl)
    (case cd0 => first | k_is | rfl)
    (case ad1 => first | k_is | rfl)
    (case kd1 => first | k_is | rfl)
    (case ld1 => first | k_is | rfl)
    (case cd1 => first | k_is | rfl)
    (case ad2 => first | k_is | rfl)
    (case kd2 => first | k_is | rfl)
    (case ld2 => first | k_is | rfl)
    (case cd2 => first | k_is | rfl)
    (case ad3 => first | k_is | rfl)
    (case kd3 => first | k_is | rfl)
    (case ld3 => first | k_is | rfl)
    (case cd3 => first | k_is | rfl)
    (case ad4 => first | k_is | rfl)
    (case kd4 => first | k_is | rfl)
    (case ld4 => first | k_is | rfl)
    (case cd4 => first | k_is | rfl)
    (case ad5 => first | k_is | rfl)
    (case kd5 => first | k_is | rfl)
    (case ld5 => first | k_is | rfl)
    (case cd5 => first | k_is | rfl)
    (case ad6 => first | k_is | rfl)
    (case kd6 => first | k_is | rfl)
    (case ld6 => first | k_is | rfl)
    (case cd6 => first | k_is | rfl)
    (case ad7 => first | k_is | rfl)
    (case kd7 => first | k_is | rfl)
    (case ld7 => first | k_is | rfl)
    (case cd7 => first | k_is | rfl)
    (case ad8 => first | k_is | rfl)
    (case kd8 => first | k_is | rfl)
    (case ld8 => first | k_is | rfl)
    (case cd8 => first | k_is | rfl)
    (case ad9 => first | k_is | rfl)
    (case kd9 => first | k_is | rfl)
    (case ld9 => first | k_is | rfl)
    (case cd9 => first | k_is | rfl)
    (case ad10 => first | k_is | rfl)
    (case kd10 => first | k_is | rfl)
    (case ld10 => first | k_is | rfl)
    (case cd10 => first | k_is | rfl)
    (case ad11 => first | k_is | rfl)
    (case kd11 => first | k_is | rfl)
    (case ld11 => first | k_is | rfl)
    (case cd11 => first | k_is | rfl)
    (case ad12 => first | k_is | rfl)
    (case kd12 => first | k_is | rfl)
    (case ld12 => first | k_is | rfl)
    (case cd12 => first | k_is | rfl)
    (case ad13 => first | k_is | rfl)
    (case kd13 => first | k_is | rfl)
    (case ld13 => first | k_is | rfl)
    (case cd13 => first | k_is | rfl)
    (case ad14 => first | k_is | rfl)
    (case kd14 => first | k_is | rfl)
    (case ld14 => first | k_is | rfl)
    (case cd14 => first | k_is | rfl)
    (case ad15 => first | k_is | rfl)
    (case kd15 => first | k_is | rfl)
    (case ld15 => first | k_is | rfl)
    (case cd15 => first | k_is | rfl)
    (case ad16 => first | k_is | rfl)
    (case kd16 => first | k_is | rfl)
    (case ld16 => first | k_is | rfl)
    (case cd16 => first | k_is | rfl)
    (case ad17 => first | k_is | rfl)
    (case kd17 => first | k_is | rfl)
    (case ld17 => first | k_is | rfl)
    (case cd17 => first | k_is | rfl)
    (case ad18 => first | k_is | rfl)
    (case kd18 => first | k_is | rfl)
    (case ld18 => first | k_is | rfl)
    (case cd18 => first | k_is | rfl)
    (case ad19 => first | k_is | rfl)
    (case kd19 => first | k_is | rfl)
    (case ld19 => first | k_is | rfl)
    (case cd19 => first | k_is | rfl)
    (case ad20 => first | k_is | rfl)
    (case kd20 => first | k_is | rfl)
    (case ld20 => first | k_is | rfl)
    (case cd20 => first | k_is | rfl)
    (case ag0 => first | k_is | rfl)
    (case pgg0 => first | k_is | rfl)
    (case icg0 => first | k_is | rfl)
    (case pog0 => first | k_is | rfl)
    (case sag0 => first | k_is | rfl)
    (case mkg0 => first | k_is | rfl)
    (case kpg0 => first | k_is | rfl)
    (case atg0s0 => first | k_is | rfl)
    (case geg0s0 => first | k_is | rfl)
    (case tkg0s0 => first | k_is | rfl)
    (case tyg0s0 => first | k_is | rfl)
    (case ixg0s0 => first | k_is | rfl)
    (case atg0s1 => first | k_is | rfl)
    (case geg0s1 => first | k_is | rfl)
    (case tkg0s1 => first | k_is | rfl)
    (case tyg0s1 => first | k_is | rfl)
    (case ixg0s1 => first | k_is | rfl)
    (case mg0m1 => first | k_is | rfl)
    (case fng0m1 => first | k_is | rfl)
    (case kg0m1 => first | k_is | rfl)
    (case lg0m1 => first | k_is | rfl)
    (case cg0m1 => first | k_is | rfl)
    (case tg0m1 => first | k_is | rfl)
    (case mg0m2 => first | k_is | rfl)
    (case fng0m2 => first | k_is | rfl)
    (case kg0m2 => first | k_is | rfl)
    (case lg0m2 => first | k_is | rfl)
    (case cg0m2 => first | k_is | rfl)
    (case mg0m3 => first | k_is | rfl)
    (case fng0m3 => first | k_is | rfl)
    (case kg0m3 => first | k_is | rfl)
    (case lg0m3 => first | k_is | rfl)
    (case cg0m3 => first | k_is | rfl)
    (case mg0m4 => first | k_is | rfl)
    (case fng0m4 => first | k_is | rfl)
    (case kg0m4 => first | k_is | rfl)
    (case lg0m4 => first | k_is | rfl)
    (case cg0m4 => first | k_is | rfl)
    (case mg0m5 => first | k_is | rfl)
    (case fng0m5 => first | k_is | rfl)
    (case kg0m5 => first | k_is | rfl)
    (case lg0m5 => first | k_is | rfl)
    (case cg0m5 => first | k_is | rfl)
    (case mg0m6 => first | k_is | rfl)
    (case fng0m6 => first | k_is | rfl)
    (case kg0m6 => first | k_is | rfl)
    (case lg0m6 => first | k_is | rfl)
    (case cg0m6 => first | k_is | rfl)
    (case mg0m7 => first | k_is | rfl)
    (case fng0m7 => first | k_is | rfl)
    (case kg0m7 => first | k_is | rfl)
    (case lg0m7 => first | k_is | rfl)
    (case cg0m7 => first | k_is | rfl)
    (case mg0m8 => first | k_is | rfl)
    (case fng0m8 => first | k_is | rfl)
    (case kg0m8 => first | k_is | rfl)
    (case lg0m8 => first | k_is | rfl)
    (case cg0m8 => first | k_is | rfl)
    (case mg0m11 => first | k_is | rfl)
    (case fng0m11 => first | k_is | rfl)
    (case kg0m11 => first | k_is | rfl)
    (case lg0m11 => first | k_is | rfl)
    (case cg0m11 => first | k_is | rfl)
    (case mg0m13 => first | k_is | rfl)
    (case fng0m13 => first | k_is | rfl)
    (case kg0m13 => first | k_is | rfl)
    (case lg0m13 => first | k_is | rfl)
    (case cg0m13 => first | k_is | rfl)
    (case z_len => first | k_is | rfl)
    (case z_abs => first | k_is | rfl)
    (case z_max => first | k_is | rfl)
    (case z_min => first | k_is | rfl)
    (case z_sum => first | k_is | rfl)
    (case z_all => first | k_is | rfl)
    (case z_any => first | k_is | rfl)
    (case z_int => first | k_is | rfl)
    (case z_str => first | k_is | rfl)
    (case z_repr => first | k_is | rfl)
    (case z_list => first | k_is | rfl)
    (case z_tuple => first | k_is | rfl)
    (case z_bool => first | k_is | rfl)
    (case z_dict => first | k_is | rfl)
    (case z_isinstance => first | k_is | rfl)
    (case z_range => first | k_is | rfl)
    (case z_sorted => first | k_is | rfl)
    (case z_set => first | k_is | rfl)
    (case z_zip => first | k_is | rfl)
    (case z_enumerate => first | k_is | rfl)
    (case z_reversed => first | k_is | rfl)
    (case z_super => first | k_is | rfl)
    (case gc0 => first | k_is | rfl)
    (case gc1 => first | k_is | rfl)
    (case gc2 => first | k_is | rfl)
    (case gc3 => first | k_is | rfl)
    (case gc4 => first | k_is | rfl)
    (case eop => first | k_is | rfl)
    (case x0a => first | k_is | rfl)
    (case x0b => first | k_is | rfl)
    (case x0c => first | k_is | rfl)
    (case x0d => first | k_is | rfl)
    (case x0e => first | k_is | rfl)
    (case x0f => first | k_is | rfl)
    (case x0h0 => first | k_is | rfl)
    (case x0i => first | k_is | rfl)
    (case x0j => first | k_is | rfl)
    (case x0k => first | k_is | rfl)
    (case x0l => first | k_is | rfl)
    (case x0m => first | k_is | rfl)
    (case x0n => first | k_is | rfl)
    (case x0o => first | k_is | rfl)
    (case x0p => first | k_is | rfl)
    (case x0q => first | rfl | decide | k_is)
    (case x0r => first | rfl | decide | k_is)
    (case x0s => first | k_is | rfl)
    (case x1a => first | k_is | rfl)
    (case x1b => first | k_is | rfl)
    (case x1c => first | k_is | rfl)
    (case x1d => first | k_is | rfl)
    (case x1e => first | k_is | rfl)
    (case x1f => first | k_is | rfl)
    (case x1h0 => first | k_is | rfl)
    (case x1i => first | k_is | rfl)
    (case x1j => first | k_is | rfl)
    (case x1k => first | k_is | rfl)
    (case x1l => first | k_is | rfl)
    (case x1m => first | k_is | rfl)
    (case x1n => first | k_is | rfl)
    (case x1o => first | k_is | rfl)
    (case x1p => first | k_is | rfl)
    (case x1q => first | rfl | decide | k_is)
    (case x1r => first | rfl | decide | k_is)
    (case x1s => first | k_is | rfl)
    (case x2a => first | k_is | rfl)
    (case x2b => first | k_is | rfl)
    (case x2c => first | k_is | rfl)
    (case x2d => first | k_is | rfl)
    (case x2e => first | k_is | rfl)
    (case x2f => first | k_is | rfl)
    (case x2i => first | k_is | rfl)
    (case x2j => first | k_is | rfl)
    (case x2k => first | k_is | rfl)
    (case x2l => first | k_is | rfl)
    (case x2m => first | k_is | rfl)
    (case x2n => first | k_is | rfl)
    (case x2o => first | k_is | rfl)
    (case x2p => first | k_is | rfl)
    (case x2q => first | rfl | decide | k_is)
    (case x2r => first | rfl | decide | k_is)
    (case x2s => first | k_is | rfl)
    (case x3a => first | k_is | rfl)
    (case x3b => first | k_is | rfl)
    (case x3c => first | k_is | rfl)
    (case x3d => first | k_is | rfl)
    (case x3e => first | k_is | rfl)
    (case x3f => first | k_is | rfl)
    (case x3i => first | k_is | rfl)
    (case x3j => first | k_is | rfl)
    (case x3k => first | k_is | rfl)
    (case x3l => first | k_is | rfl)
    (case x3m => first | k_is | rfl)
    (case x3n => first | k_is | rfl)
    (case x3o => first | k_is | rfl)
    (case x3p => first | k_is | rfl)
    (case x3q => first | rfl | decide | k_is)
    (case x3r => first | rfl | decide | k_is)
    (case x3s => first | k_is | rfl)
#print axioms PySem.Challenge.cw_farapart_k64_sums_over_any_rows_holds

