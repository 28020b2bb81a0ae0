import PyProof.Rows.All
import Wide.All
import OpenK.AllK
import Wide.FinOn
import HandS.ForMost
import HandS.Exc
import HandS.TryOnly
import HandS.WordsExc
import HandS.Wide
import HandS.EndBits
import HandS.IsInst
import HandS.Style
import HandS.Flow
import HandS.Evl
import HandS.Walk
import KE.DataEq
import PySem.Challenge.RW_farapart_k11_kinds
set_option Elab.async false
set_option linter.all false
set_option maxRecDepth 100000
set_option maxHeartbeats 8000000
/-! FA1: the layer over HandS: blocks stepped statement by statement (W), defs that are called where no repr is under way (FnG), readings that compute. -/
namespace FA
open PySem PySem.Spec PyProof.Rows L2

/-! ### W: what is to be run, as a reading of itself -/
def WSs (X : Cx) (b : List Stmt) : TS := fun D σ H =>
  ∀ (pins : List (Addr × Obj)) (s : Shared), Inv X pins σ H s → wpAny (model X.prog X.w) X.A (execs b X.env) (SP X pins D) X.xe s
def WE (X : Cx) (e : Expr) : TE := fun σ H Q =>
  ∀ (pins : List (Addr × Obj)) (s : Shared), Inv X pins σ H s → wpAny (model X.prog X.w) X.A (eval e X.env) (EP X pins σ Q) X.xe s
section
variable {X : Cx}
theorem pss_w {b : List Stmt} : PSs X b (WSs X b) := ⟨fun pins s _ _ _ I h => h pins s I⟩
theorem pe_w {e : Expr} : PE X e (WE X e) := ⟨fun pins s _ _ _ I h => h pins s I⟩
theorem wss_of {b : List Stmt} {t : TS} {D : Ends} {σ : L2.St} {H : Hp} (h : PSs X b t) (q : t D σ H) : WSs X b D σ H := fun pins s I => h.run pins s σ H D I q
/-- the next statement, by its own rule; behind it the rest of the block -/
theorem wss {st : Stmt} {b : List Stmt} {t : TS} {D : Ends} {σ : L2.St} {H : Hp} (h : PS X st t) (q : t { D with nx := WSs X b D } σ H) : WSs X (st :: b) D σ H :=
  wss_of (pss_cons h pss_w) q
theorem wss_end {D : Ends} {σ : L2.St} {H : Hp} (q : D.nx σ H) : WSs X [] D σ H := wss_of pss_nil q
theorem we_of {e : Expr} {t : TE} {Q : VK} {σ : L2.St} {H : Hp} (h : PE X e t) (q : t σ H Q) : WE X e σ H Q := fun pins s I => h.run pins s σ H Q I q
end

/-! ### defs that are called where no repr is under way -/
structure FnG (P : Program) (w : World) (K : PySem.W.Frag) (mg : Str → Option Value) (base : Heap) (CX : CXT) (k : Nat) (f : Addr) (fd : FuncData) (ps : List Str) (sp : Sp) : Prop where
  len : ∀ vs H Q E, sp vs H Q E → vs.length = ps.length
  go : ∀ (A : Around) (outer : List Env) (s : Shared) (H : Hp) (args : Args) (us : List Value) (vs : List V) (Q : VK) (E : XK), Room k A → A.guards = some [] → Env0 P w K mg base A outer s H →
    BindsTo s fd args (ps.zip us) → Vals vs us → sp vs H Q E → codeAny (model P w) A (.call (.ref f) args) (CR CX outer P w H s Q E) s
section
variable {P : Program} {w : World} {K : PySem.W.Frag} {mg : Str → Option Value} {base : Heap} {CX : CXT}
theorem FnG.of {k : Nat} {f : Addr} {fd : FuncData} {ps : List Str} {sp : Sp} (F : FnOk P w K mg base CX k f fd ps sp) : FnG P w K mg base CX k f fd ps sp :=
  ⟨F.len, fun A o s H args us vs Q E hr _ => F.run A o s H args us vs Q E hr⟩
theorem FnG.up {j k : Nat} {f : Addr} {fd : FuncData} {ps : List Str} {sp : Sp} (F : FnG P w K mg base CX j f fd ps sp) (h : j ≤ k) : FnG P w K mg base CX k f fd ps sp :=
  ⟨F.len, fun A o s H args us vs Q E hr => F.go A o s H args us vs Q E (hr.mono h)⟩

/-- a def by its body -/
theorem fn_g {k : Nat} {f : Addr} {name qual : Str} {params : Arguments} {body : List Stmt} {scope : Scope} {dV kV doc pm cdv ct oc : Value} {an od : Option Addr} {osl : Array (Option Value)} {N ps : List Str} {sp : Sp}
    (lk : K.lookup f = some ⟨oc, od, .func (PySem.W.fnOf name qual params body scope dV kV doc pm an cdv ct), osl⟩) (hcd : PySem.W.codeIn K cdv qual = true) (S : FnScope N ps scope)
    (len : ∀ vs H Q E, sp vs H Q E → vs.length = ps.length)
    (hb : ∀ (A : Around) (outer : List Env) (s : Shared) (H : Hp) (vs : List V) (Q : VK) (E : XK), Room k (A.deeper (envOfC qual scope s.heap.objs.size f cdv)) → (A.deeper (envOfC qual scope s.heap.objs.size f cdv)).guards = some [] →
      sp vs H Q E → WSs (cxOf CX P w K mg base N qual scope f cdv A outer s H E) body { nx := fun _ H' => Q .non H', rt := Q } (start N vs) H) :
    FnG P w K mg base CX (k + 1) f (PySem.W.fnOf name qual params body scope dV kV doc pm an cdv ct) ps sp := by
  constructor
  · exact len
  intro A outer s H args us vs Q E hr hG e0 hbi r hsp
  have hl := len _ _ _ _ hsp
  have kin : K.In s.heap := e0.mod.kin.keeps fun b o z => (e0.bs b o z).1
  have nol : s.heap.NoLimit := e0.mod.nolimit.keeps fun b o z => (e0.bs b o z).1
  have kinds : ∀ y ∈ ps.zip us, scope.names.lookup y.1 = some .local ∨ (scope.names.lookup y.1 = some .cell ∧ ((cellsFrom (s.heap.objs.size + 1) scope.names []).lookup y.1).isSome = true) := by
    rintro ⟨n, v⟩ hy
    rcases S.par n (List.of_mem_zip hy).1 with z | z
    · exact .inl z
    · exact .inr ⟨z, PySem.W.cellsFrom_some _ _ _ (.inl z)⟩
  refine codeAny_call_function hr.depth (kin _ _ lk) rfl S.co S.gen rfl (PySem.W.codeRec_of kin hcd) (hbi _ _ _ _ (wpAny_newFunctionEnv_cells S.kind kinds fun env he s1 x => ?_))
  subst he
  refine ⟨nol.keeps x.toInCall.keep, codeAny_func ?_⟩
  have I : Inv (cxOf CX P w K mg base N qual scope f cdv A outer s H E) [] (start N vs) H s1 := inv_start S hr.hd e0 hl r x
  have q := hb A outer s H vs Q E (hr.deeper _) hG hsp
  refine wpAny_mono (q [] s1 I) (fun fl s' z => ?_) fun e s' z => z
  match fl, z with
  | .ret u, z =>
    obtain ⟨v, _, H', J, rv, y⟩ := z
    exact ⟨v, H', J.os, J.bare, J.base, J.hok, rv, y⟩
  | .next, z =>
    obtain ⟨_, H', J, y⟩ := z
    exact ⟨V.non, H', J.os, J.bare, J.base, J.hok, rfl, y⟩
  | .brk, z =>
    obtain ⟨_, _, _, y⟩ := z
    exact y.elim
  | .cont, z =>
    obtain ⟨_, _, _, y⟩ := z
    exact y.elim
/-- the same for a def of the text; nothing that is raised leaves it -/
theorem okG {x qual : Str} {st : Stmt} {f : Addr} {fd : FuncData} {N ps : List Str} {k : Nat} {sp : Sp} (F : Fun K x qual st f fd) (S : FnScope N ps (defScope st)) (len : ∀ vs H Q E, sp vs H Q E → vs.length = ps.length)
    (hb : ∀ (cdv : Value) (A : Around) (outer : List Env) (s : Shared) (H : Hp) (vs : List V) (Q : VK) (E : XK), Room k (A.deeper (envOfC qual (defScope st) s.heap.objs.size f cdv)) → (A.deeper (envOfC qual (defScope st) s.heap.objs.size f cdv)).guards = some [] →
      sp vs H Q E → WSs (cxOf CX0 P w K mg base N qual (defScope st) f cdv A outer s H E).nox (defBody st) { nx := fun _ H' => Q .non H', rt := Q } (start N vs) H) : FnG P w K mg base CX0 (k + 1) f fd ps sp := by
  obtain ⟨oc, od, kV, doc, pm, an, cdv, ct, osl, rfl, lk, hcd⟩ := F.ex
  exact fn_g lk hcd S len fun A outer s H vs Q E hr hG hsp => wss_of (pss_w (X := (cxOf CX0 P w K mg base N qual (defScope st) f cdv A outer s H E).nox)).nox (hb cdv A outer s H vs Q E hr hG hsp)
/-- a def of the text that may raise -/
theorem okGX {x qual : Str} {st : Stmt} {f : Addr} {fd : FuncData} {N ps : List Str} {k : Nat} {sp : Sp} (F : Fun K x qual st f fd) (S : FnScope N ps (defScope st)) (len : ∀ vs H Q E, sp vs H Q E → vs.length = ps.length)
    (hb : ∀ (cdv : Value) (A : Around) (outer : List Env) (s : Shared) (H : Hp) (vs : List V) (Q : VK) (E : XK), Room k (A.deeper (envOfC qual (defScope st) s.heap.objs.size f cdv)) → (A.deeper (envOfC qual (defScope st) s.heap.objs.size f cdv)).guards = some [] →
      sp vs H Q E → WSs (cxOf (L2.CX P w) P w K mg base N qual (defScope st) f cdv A outer s H E) (defBody st) { nx := fun _ H' => Q .non H', rt := Q } (start N vs) H) : FnG P w K mg base (L2.CX P w) (k + 1) f fd ps sp := by
  obtain ⟨oc, od, kV, doc, pm, an, cdv, ct, osl, rfl, lk, hcd⟩ := F.ex
  exact fn_g lk hcd S len fun A outer s H vs Q E hr hG hsp => hb cdv A outer s H vs Q E hr hG hsp
/-- a def that calls no repr -/
theorem okW {x qual : Str} {st : Stmt} {f : Addr} {fd : FuncData} {N ps : List Str} {k : Nat} {sp : Sp} (F : Fun K x qual st f fd) (S : FnScope N ps (defScope st)) (len : ∀ vs H Q E, sp vs H Q E → vs.length = ps.length)
    (hb : ∀ (cdv : Value) (A : Around) (outer : List Env) (s : Shared) (H : Hp) (vs : List V) (Q : VK) (E : XK), Room k (A.deeper (envOfC qual (defScope st) s.heap.objs.size f cdv)) →
      sp vs H Q E → WSs (cxOf CX0 P w K mg base N qual (defScope st) f cdv A outer s H E).nox (defBody st) { nx := fun _ H' => Q .non H', rt := Q } (start N vs) H) : FnOk P w K mg base CX0 (k + 1) f fd ps sp :=
  F.ok S len fun cdv A outer s H vs Q E hr h => ⟨_, pss_w, hb cdv A outer s H vs Q E hr h⟩
end

section
variable {X : Cx} {CX : CXT} {k : Nat} {f C : Addr} {fd : FuncData} {ps : List Str} {sp : Sp} {dvs : List V} {ds : List Value} {E : XK} {x m : Str} {p pos apos : Pos} {e o : Expr} {es : List Expr} {ta : TE} {t : TA}
theorem run_g {pins : List (Addr × Obj)} {σ : L2.St} {H : Hp} {s : Shared} {Q : VK} {us : List Value} {vs : List V} (F : FnG X.prog X.w X.K X.mg X.base CX k f fd ps sp) (hr : Room k X.A) (hG : X.A.guards = some []) (hb : Binds X.K fd ps ds) (hd : Vals dvs ds)
    (hx : Passes CX X E) (I : Inv X pins σ H s) (r : Vals vs us) (h : sp (vs ++ dvs) H Q E) : wpAny (model X.prog X.w) X.A (call (.ref f) us) (EP X pins σ Q) X.xe s := by
  have rr : Vals (vs ++ dvs) (us ++ ds) := r.append hd
  have hl : (us ++ ds).length = ps.length := rr.length ▸ F.len _ _ _ _ h
  refine wpAny_call (codeAny_mono (F.go X.A X.stack s H ⟨us, []⟩ (us ++ ds) (vs ++ dvs) Q E hr hG I.env0 (hb s us I.kIn hl) rr h) fun r s' hq => ?_)
  match r, hq with
  | .error e, hq => exact hx pins σ H s e s' I hq
  | .ok (.ret u), hq => exact I.after hq
/-- f(e, ..) -/
theorem pe_callG (F : FnG X.prog X.w X.K X.mg X.base CX k f fd ps sp) (hr : Room k X.A) (hG : X.A.guards = some []) (hg : Gl X x) (hm : X.mg x = some (.ref f)) (hk : PySem.W.keepIn X.K (.ref f) = true) (hb : Binds X.K fd ps ds) (hd : Vals dvs ds) (hx : Passes CX X E)
    (ha : PA X (e :: es) t) (hdb : (x == ("__debug__" : Str)) = false := by decide) (he : starEach (e :: es) X.env = (false, eval e X.env) :: starEach es X.env := by rfl) (hpl : (backTo pos (starEach es X.env)).any (·.1) = false := by rfl) :
    PE X (.Call (.Name x p) (e :: es) [] pos) (tCall sp dvs E t) := by
  constructor
  intro pins s σ H Q I h
  refine wpAny_Call_Name_kw (ld_glob I hg hm (PySem.W.callWith_K (h₀ := X.base) I.ok.mod.kin hk (thn (ha.run pos pins s σ H _ I h) ?_) he hpl) hdb)
  rintro us s1 ⟨vs, H1, I1, r, q⟩
  exact ⟨I1.kIn, run_g F hr hG hb hd hx I1 r q⟩
end
end FA
namespace FA
open PySem PySem.Spec PyProof.Rows L2
/-- a statement, then the rest of the block from a word between them -/
theorem wcut {X : Cx} {st : Stmt} {b : List Stmt} {t : TS} {D : Ends} {σ : L2.St} {H : Hp} (h : PS X st t) (Mid : L2.St → Hp → Prop) (q : t { D with nx := Mid } σ H) (k : ∀ σ' H', Mid σ' H' → WSs X b D σ' H') : WSs X (st :: b) D σ H :=
  wss_of (Evl.pss_cut h pss_w) ⟨Mid, q, k⟩
end FA

/-! FA2: the end of a law whose defs are FnG; the script's bits told. -/
namespace FA
open PySem PySem.Spec PyProof.Rows L2
theorem hid_ns {h : Heap} {H : Hp} {b : Addr} {m : Str → Option Value} (hn : h.Ns b m) (free : ∀ {o : Obj} {es : Array DictEntry} {ep : Nat}, h.get? b = some o → o.data = .dict es ep → H b = none) : (hidT h H).Ns b m := by
  obtain ⟨o, es, ep, e, d, r⟩ := hn
  exact ⟨o, es, ep, hidT_get e (free e d), d, r⟩
theorem law_goes {P : Program} {w : World} {K : PySem.W.Frag} {mg mb : Str → Option Value} {k : Nat} {fa a : Addr} {fd : FuncData} {x : Str} {sp : Sp} {s₁ : Shared} {vs : List Value} {ns : List Int}
    (KX : K.In s₁.heap) (hns : s₁.heap.Ns mainGlobals mg) (hb : s₁.heap.Ns builtinsNs mb) (hbb : ∀ y : Str, y ≠ "__name__" → mb y = bootBuiltins y) (hlim : s₁.heap.NoLimit) (hg : s₁.gens = #[])
    (ha : s₁.heap.get? a = some { cls := .type "list", data := .seq vs.toArray }) (hi : IntsAre vs ns) (hl : ns.length ≤ sizeLine) (hr : Room k callerA)
    (F : ∀ base : Heap, K.In base → base.Ns mainGlobals mg → FnG P w K mg base CX0 k fa fd [x] sp) (hbind : ∀ (s : Shared) (u : Value), BindsTo s fd ⟨[u], []⟩ [(x, u)])
    (hsp : ∀ H : Hp, Only H → SqL K H a (ns.map V.int) → sp [.ref a] H (fun v _ => v = .bl true) E0) :
    codeAny (model P w) callerA (.call (.ref fa) ⟨[.ref a], []⟩) (fun r s' => r = .ok (.ret (.bool true)) ∧ OldK s₁.heap s'.heap ∧ s'.os = s₁.os ∧ AllBare s'.gens) s₁ := by
  have rv := vals_ints hi
  have lenV := hi.length
  have main : ∀ H : Hp, Only H → SqL K H a (ns.map V.int) → HOk P w H s₁.heap → (∀ b, H b ≠ none → b = a ∧ K.lookup a = none) →
      codeAny (model P w) callerA (.call (.ref fa) ⟨[.ref a], []⟩) (fun r s' => r = .ok (.ret (.bool true)) ∧ OldK s₁.heap s'.heap ∧ s'.os = s₁.os ∧ AllBare s'.gens) s₁ := by
    intro H hO hS hok hA
    have dictFree : ∀ {b : Addr} {o : Obj} {es : Array DictEntry} {ep : Nat}, s₁.heap.get? b = some o → o.data = .dict es ep → H b = none := by
      intro b o es ep e d
      cases q : H b with
      | none => rfl
      | some u =>
        obtain ⟨rfl, _⟩ := hA b (by simp [q])
        rw [ha] at e
        obtain rfl := Option.some.inj e
        exact nomatch d
    have kb : K.In (hidT s₁.heap H) := by
      intro b o e
      refine hidT_get (KX b o e) ?_
      cases q : H b with
      | none => rfl
      | some u =>
        obtain ⟨rfl, z⟩ := hA b (by simp [q])
        rw [z] at e
        cases e
    have gN : (hidT s₁.heap H).Ns mainGlobals mg := hid_ns hns dictFree
    have bN : (hidT s₁.heap H).Ns builtinsNs mb := hid_ns hb dictFree
    have lN : (hidT s₁.heap H).NoLimit := let ⟨mc, z1, z2⟩ := hlim; ⟨mc, hid_ns z1 dictFree, z2⟩
    have e0 : Env0 P w K mg (hidT s₁.heap H) callerA [] s₁ H := by
      refine ⟨rfl, ⟨kb, gN, ⟨mb, bN, hbb⟩, lN⟩, fun b o e => of_hidT e, Nat.le_of_eq (hidT_size _ _), trivial, ?_, hok, .of_eq hg⟩
      intro b z
      exact nomatch (show b ∈ ([] : List Addr) from z)
    refine codeAny_mono ((F _ kb gN).go callerA [] s₁ H ⟨[.ref a], []⟩ [.ref a] [.ref a] _ _ hr rfl e0 (hbind s₁ (.ref a)) (.cons rfl .nil) (hsp H hO hS)) ?_
    intro r s' h
    match r, h with
    | .error e, h => exact (show False from h).elim
    | .ok (.ret u), h =>
      obtain ⟨v, H', os, bare, un, hok', r', q⟩ := h
      obtain rfl : v = .bl true := q
      obtain rfl : u = Value.bool true := r'
      refine ⟨rfl, OldK.of_keep ?_, os, bare⟩
      intro b o e
      have nb : b ∉ frs [] := by intro z; exact nomatch (show b ∈ ([] : List Addr) from z)
      rcases hO b with z | ⟨ob, xs, z⟩
      · exact un.keep b o e z nb (by simp)
      · obtain ⟨e1, _⟩ := hok b _ z
        obtain ⟨e2, _⟩ := hok' b _ (un.frzs b ob _ z)
        rw [e] at e1
        obtain rfl := Option.some.inj e1
        exact e2
  cases hk : K.lookup a with
  | some o =>
    have e := KX a o hk
    rw [ha] at e
    obtain rfl := Option.some.inj e
    refine main (fun _ => none) (fun _ => .inl rfl) (.inr ⟨_, vs.toArray, _, hk, rfl, rfl, rfl, ?_, by simpa using rv⟩) (fun b u z => nomatch (show (none : Option HO) = some u from z)) (fun b z => absurd rfl z)
    rw [List.size_toArray, lenV]
    exact hl
  | none =>
    refine main (upd (fun _ => none) a (.frz { cls := .type "list", data := .seq vs.toArray } (.lst (ns.map V.int)))) (fun b => ?_) (.inl (.inr ⟨_, upd_same⟩)) (fun b u z => ?_) (fun b z => ?_)
    · by_cases hb : b = a
      · subst hb
        exact .inr ⟨_, _, upd_same⟩
      · exact .inl (upd_ne hb)
    · by_cases hb : b = a
      · subst hb
        rw [upd_same] at z
        obtain rfl := Option.some.inj z
        exact ⟨ha, by rw [List.length_map]; exact hl, vs, _, rv, ha⟩
      · rw [upd_ne hb] at z
        exact nomatch z
    · by_cases hb : b = a
      · exact ⟨hb, hk⟩
      · exact absurd (upd_ne hb) z
theorem walk_g {l : PySem.W.OpenLaw} {n k : Nat} {q : Program} {loose : List Str} {XP : (Str → Option Value) → Heap → Prop} {YP : World → Heap → Prop} {d : DefRec} {K : Params → PySem.W.Frag} {sp : World → Sp} {x : Str}
    (hn : l.most = some n) (hn2 : n ≤ sizeLine) (hdf : d.params.defaults = []) (hr : Room k callerA)
    (hY : ∀ (w : World) (h : Heap), YP w h → (K w.params).In h)
    (F : ∀ (w : World) (mg : Str → Option Value) (fa : Addr) (h : Heap), (K w.params).In h → h.Ns mainGlobals mg → mg d.name = some (.ref fa) →
      ∃ fd : FuncData, (∀ (s : Shared) (u : Value), BindsTo s fd ⟨[u], []⟩ [(x, u)]) ∧
        ∀ base : Heap, (K w.params).In base → base.Ns mainGlobals mg → FnG l.prog w (K w.params) mg base CX0 k fa fd [x] (sp w))
    (hsp : ∀ (w : World) (H : Hp) (a : Addr) (ns : List Int), ns.length ≤ n → (∀ z ∈ ns, Builtin.Int.intBits z ≤ 1048576) → Only H → SqL (K w.params) H a (ns.map V.int) → sp w [.ref a] H (fun v _ => v = .bl true) E0) :
    PySem.W.WalkO q loose XP YP l.row.toRowW d [] (fun f vs => PySem.call f vs) := by
  refine Att.attach_callB hn hdf ?_
  intro w s₀ s₁ mg mb fa o pm cd doc a vs ns G Y ho hd hcd hmg hobj hints hlen hbits hg
  have KX := hY w _ Y
  obtain ⟨fd, hb, hF⟩ := F w mg fa _ KX G.T.g hmg
  exact law_goes KX G.T.g G.T.b G.T.builtins G.T.nolimit hg hobj hints (Nat.le_trans hlen hn2) hr hF hb fun H hO hS => hsp w H a ns hlen hbits hO hS
end FA

/-! FA3: data in the heap (with dicts), what repr tells of it. -/
namespace FA
open PySem PySem.Spec PyProof.Rows L2
def keyD : Key → PyData
  | .inl i => .int i
  | .inr x => .str x
mutual
/-- the value v stands for the datum d -/
inductive Dt (K : PySem.W.Frag) (H : Hp) : V → PyData → Prop
  | non : Dt K H .non .none
  | bl (b : Bool) : Dt K H (.bl b) (.bool b)
  | int (i : Int) : Dt K H (.int i) (.int i)
  | str (x : Str) : Dt K H (.str x) (.str x)
  | lst {a : Addr} {xs : List V} {ds : List PyData} : Rd H a (.lst xs) → DtAll K H xs ds → Dt K H (.ref a) (.list ds)
  | tup {a : Addr} {xs : List V} {ds : List PyData} : SqT K H a xs → DtAll K H xs ds → Dt K H (.ref a) (.tuple ds)
  | dK {a : Addr} {kvs : List (Key × V)} {ds : List PyData} : Rd H a (.dK kvs) → DtAll K H (kvs.map (·.2)) ds → Dt K H (.ref a) (.dict ((kvs.map fun p => keyD p.1).zip ds))
  | dT {a : Addr} {kvs : List (List Key × V)} {ds : List PyData} : H a = some (.dT kvs) → DtAll K H (kvs.map (·.2)) ds → Dt K H (.ref a) (.dict ((kvs.map fun p => PyData.tuple (p.1.map keyD)).zip ds))
inductive DtAll (K : PySem.W.Frag) (H : Hp) : List V → List PyData → Prop
  | nil : DtAll K H [] []
  | cons {v : V} {vs : List V} {d : PyData} {ds : List PyData} : Dt K H v d → DtAll K H vs ds → DtAll K H (v :: vs) (d :: ds)
end
theorem Same.rd {H H' : Hp} (e : Same H H') {a : Addr} {u : HO} (h : Rd H a u) : Rd H' a u := by
  rcases h with h | ⟨o, h⟩
  · exact .inl (e _ _ h)
  · exact .inr ⟨o, e _ _ h⟩
theorem Same.sqT {K : PySem.W.Frag} {H H' : Hp} (e : Same H H') {a : Addr} {xs : List V} (h : SqT K H a xs) : SqT K H' a xs := by
  rcases h with h | h
  · exact .inl (Same.rd e h)
  · exact .inr h
mutual
theorem Dt.keep {K : PySem.W.Frag} {H H' : Hp} (e : Same H H') {v : V} {d : PyData} : Dt K H v d → Dt K H' v d
  | .non => .non
  | .bl b => .bl b
  | .int i => .int i
  | .str x => .str x
  | .lst r k => .lst (Same.rd e r) (DtAll.keep e k)
  | .tup r k => .tup (Same.sqT e r) (DtAll.keep e k)
  | .dK r k => .dK (Same.rd e r) (DtAll.keep e k)
  | .dT r k => .dT (e _ _ r) (DtAll.keep e k)
theorem DtAll.keep {K : PySem.W.Frag} {H H' : Hp} (e : Same H H') {vs : List V} {ds : List PyData} : DtAll K H vs ds → DtAll K H' vs ds
  | .nil => .nil
  | .cons a b => .cons (Dt.keep e a) (DtAll.keep e b)
end
theorem DtAll.len {K : PySem.W.Frag} {H : Hp} {vs : List V} {ds : List PyData} : DtAll K H vs ds → vs.length = ds.length
  | .nil => rfl
  | .cons _ b => by rw [List.length_cons, List.length_cons, DtAll.len b]
theorem readsKeys {h : Heap} : ∀ {ks : List Key} {us : List Value}, Paired (fun k u => keyIs k u = true) ks us → ReadsAll h us (ks.map keyD) []
  | _, _, .nil => .nil
  | _, _, .cons r t => by
    have ih := readsKeys (h := h) t
    rcases keyIs_shape r with ⟨i, t, rfl, rfl⟩ | ⟨x, t, rfl, rfl⟩
    · exact ReadsAll.cons (as := []) (.int i t) ih
    · exact ReadsAll.cons (as := []) (.str x t) ih
theorem readsPairs {P : Program} {w : World} {h : Heap} : ∀ {es : List DictEntry} {vs : List (Key × Value)}, Pairs (mixKind P w) es vs → ReadsAll h (es.map (·.key)) (vs.map fun p => keyD p.1) [] ∧ es.map (·.val) = vs.map (·.2)
  | _, _, .nil => ⟨.nil, rfl⟩
  | _, _, .cons r e t => by
    obtain ⟨i1, i2⟩ := readsPairs (h := h) t
    refine ⟨?_, by rw [List.map_cons, List.map_cons, e, i2]⟩
    rcases keyIs_shape r with ⟨i, t, e1, e2⟩ | ⟨x, t, e1, e2⟩
    · rw [List.map_cons, List.map_cons, e1, e2]
      exact ReadsAll.cons (as := []) (.int i t) i1
    · rw [List.map_cons, List.map_cons, e1, e2]
      exact ReadsAll.cons (as := []) (.str x t) i1
theorem kv_split : ∀ {kvs : List (Key × V)} {vs : List (Key × Value)}, KV kvs vs → kvs.map (fun p => keyD p.1) = vs.map (fun p => keyD p.1) ∧ Vals (kvs.map (·.2)) (vs.map (·.2))
  | _, _, .nil => ⟨rfl, .nil⟩
  | _, _, .cons r t => by
    obtain ⟨i1, i2⟩ := kv_split t
    exact ⟨by rw [List.map_cons, List.map_cons, r.1, i1], .cons r.2 i2⟩
theorem readsTup {h : Heap} {P : Program} {w : World} : ∀ {H : Hp} {kvs : List (List Key × V)} {xs : List (List Key × Addr × Value)}, HOk P w H h → KT H kvs xs →
    ReadsAll h (xs.map fun q => Value.ref q.2.1) (kvs.map fun p => PyData.tuple (p.1.map keyD)) [] ∧ Vals (kvs.map (·.2)) (xs.map fun q => q.2.2)
  | _, _, _, _, .nil => ⟨.nil, .nil⟩
  | H, _, _, ok, .cons (a := p) (b := q) r t => by
    obtain ⟨i1, i2⟩ := readsTup ok t
    refine ⟨?_, .cons r.2.2 i2⟩
    obtain ⟨_, its, rv, o, ho, hc, n, hd⟩ := (show ObjOk P w H h q.2.1 (.tup (p.1.map kV)) from ok _ _ r.2.1)
    have key : ∀ (ks : List Key) (us : List Value), Vals (ks.map kV) us → ReadsAll h us (ks.map keyD) [] := by
      intro ks
      induction ks with
      | nil =>
        intro us v
        cases v
        exact .nil
      | cons k ks ih =>
        intro us v
        cases v with
        | cons r1 r2 =>
          cases k with
          | inl i =>
            obtain ⟨t, rfl⟩ := r1
            exact ReadsAll.cons (as := []) (.int i t) (ih _ r2)
          | inr x =>
            obtain ⟨t, rfl⟩ := r1
            exact ReadsAll.cons (as := []) (.str x t) (ih _ r2)
    exact ReadsAll.cons (as := []) (Reads.tuple ho hc hd (key _ _ rv)) i1
theorem zip_fst {α β : Type} : ∀ {l : List α} {m : List β}, l.length = m.length → (l.zip m).map (·.1) = l
  | [], [], _ => rfl
  | a :: l, b :: m, h => by
    have ih := zip_fst (l := l) (m := m) (by simpa using h)
    show a :: ((l.zip m).map (·.1)) = a :: l
    rw [ih]
theorem zip_snd {α β : Type} : ∀ {l : List α} {m : List β}, l.length = m.length → (l.zip m).map (·.2) = m
  | [], [], _ => rfl
  | a :: l, b :: m, h => by
    have ih := zip_snd (l := l) (m := m) (by simpa using h)
    show b :: ((l.zip m).map (·.2)) = b :: m
    rw [ih]
section
variable {X : Cx} {pins : List (Addr × Obj)} {σ : L2.St} {H : Hp} {s : Shared}
theorem Rd.some {a : Addr} {u : HO} (h : Rd H a u) : H a ≠ none := by
  rcases h with h | ⟨o, h⟩ <;> rw [h] <;> simp
mutual
theorem Dt.reads (I : Inv X pins σ H s) {v : V} {d : PyData} : Dt X.K H v d → ∀ {u : Value}, RelV v u → ∃ as, Reads s.heap u d as ∧ ∀ a ∈ as, H a ≠ none
  | .non, u, r => by
    cases r
    exact ⟨_, .none, by simp⟩
  | .bl b, u, r => by
    cases r
    exact ⟨_, .bool b, by simp⟩
  | .int i, u, r => by
    obtain ⟨t, rfl⟩ := r
    exact ⟨_, .int i t, by simp⟩
  | .str x, u, r => by
    obtain ⟨t, rfl⟩ := r
    exact ⟨_, .str x t, by simp⟩
  | .lst (a := a) (xs := xs) h k, u, r => by
    cases r
    obtain ⟨its, rv, ⟨o, n, ho, hc, _, hd⟩, _⟩ := I.list (.inl h)
    obtain ⟨as, r1, r2⟩ := DtAll.reads I k rv
    refine ⟨_, .list ho hc hd r1, fun b hb => ?_⟩
    rcases List.mem_cons.mp hb with rfl | hb
    · exact Rd.some h
    · exact r2 b hb
  | .tup (a := a) (xs := xs) h k, u, r => by
    cases r
    obtain ⟨its, rv, ⟨o, ho, hc, n, hd⟩, _⟩ := I.tuple h
    obtain ⟨as, r1, r2⟩ := DtAll.reads I k rv
    exact ⟨_, .tuple ho hc hd r1, r2⟩
  | .dK (a := a) (kvs := kvs) (ds := ds) h k, u, r => by
    cases r
    obtain ⟨_, _, vs, kv, o, es, ep, ho, hx, hd, _, hp, _⟩ := dk_rd I.hok h
    obtain ⟨e1, e2⟩ := kv_split kv
    obtain ⟨as, r1, r2⟩ := DtAll.reads I k e2
    obtain ⟨k1, k2⟩ := readsPairs (h := s.heap) hp
    have hl : (kvs.map fun p => keyD p.1).length = ds.length := by
      rw [List.length_map, ← k.len, List.length_map]
    refine ⟨_, .dict (as := []) (bs := as) ho hx.1 hd ?_ ?_, fun b hb => ?_⟩
    · rw [zip_fst hl, e1]
      exact k1
    · rw [zip_snd hl, k2]
      exact r1
    · rcases List.mem_cons.mp hb with rfl | hb
      · exact Rd.some h
      · exact r2 b (by simpa using hb)
  | .dT (a := a) (kvs := kvs) (ds := ds) h k, u, r => by
    cases r
    obtain ⟨_, _, xs, kv, o, es, ep, ho, hx, hd, he, _⟩ := dt_rd I.hok (.inl h)
    obtain ⟨e1, e2⟩ := readsTup (h := s.heap) I.hok kv
    obtain ⟨as, r1, r2⟩ := DtAll.reads I k e2
    have hl : (kvs.map fun p => PyData.tuple (p.1.map keyD)).length = ds.length := by
      rw [List.length_map, ← k.len, List.length_map]
    refine ⟨_, .dict (as := []) (bs := as) ho hx.1 hd ?_ ?_, fun b hb => ?_⟩
    · rw [zip_fst hl, he, List.map_map]
      exact e1
    · rw [zip_snd hl, he, List.map_map]
      exact r1
    · rcases List.mem_cons.mp hb with rfl | hb
      · rw [h]
        simp
      · exact r2 b (by simpa using hb)
theorem DtAll.reads (I : Inv X pins σ H s) {vs : List V} {ds : List PyData} : DtAll X.K H vs ds → ∀ {us : List Value}, Vals vs us → ∃ as, ReadsAll s.heap us ds as ∧ ∀ a ∈ as, H a ≠ none
  | .nil, us, r => by
    cases r
    exact ⟨_, .nil, by simp⟩
  | .cons a b, us, r => by
    cases r with
    | cons r1 r2 =>
      obtain ⟨as, q1, q2⟩ := Dt.reads I a r1
      obtain ⟨bs, q3, q4⟩ := DtAll.reads I b r2
      refine ⟨_, .cons q1 q3, fun c hc => ?_⟩
      rcases List.mem_append.mp hc with hc | hc
      · exact q2 c hc
      · exact q4 c hc
end
/-- no container -/
def scal1 : PyData → Bool
  | .none | .bool _ | .int _ | .str _ => true
  | _ => false
def flatD : PyData → Bool
  | .dict kvs => kvs.all fun p => scal1 p.1 && scal1 p.2
  | _ => false
theorem reads_scal {h : Heap} {v : Value} {d : PyData} {as : List Addr} (r : Reads h v d as) (e : scal1 d = true) : as = [] := by
  cases r <;> first | rfl | cases e
theorem readsAll_scal {h : Heap} : ∀ {vs : List Value} {ds : List PyData} {as : List Addr}, ReadsAll h vs ds as → (∀ d ∈ ds, scal1 d = true) → as = []
  | _, _, _, .nil, _ => rfl
  | _, _, _, .cons a b, e => by
    rw [reads_scal a (e _ (List.mem_cons_self ..)), readsAll_scal b fun d hd => e d (List.mem_cons_of_mem _ hd)]
    rfl
/-- repr(v) -/
def rRepr (K : PySem.W.Frag) : List V → Hp → VK → Prop := fun xs H Q => ∃ v d, xs = [v] ∧ Dt K H v d ∧ d.showable = true ∧ d.shown.length ≤ sizeLine ∧ d.depth ≤ 60 ∧ (d.hasDict = true → H sysModules = none ∨ flatD d = true) ∧ Q (.str d.shown) H
theorem Dt.noSys {v : V} {d : PyData} {u : Value} {as : List Addr} (I : Inv X pins σ H s) (hd : Dt X.K H v d) (r : RelV v u) (rd : Reads s.heap u d as) (hf : flatD d = true) : sysModules ∉ as := by
  cases rd with
  | @dict a o es n kvs as bs h1 h2 h3 h4 h5 =>
    have hall : ∀ p ∈ kvs, scal1 p.1 = true ∧ scal1 p.2 = true := fun p hp => by
      have := List.all_eq_true.mp (show (kvs.all fun p => scal1 p.1 && scal1 p.2) = true from hf) p hp
      exact Bool.and_eq_true_iff.mp this
    have e1 := readsAll_scal h4 fun d hd => by
      obtain ⟨p, hp, rfl⟩ := List.mem_map.mp hd
      exact (hall p hp).1
    have e2 := readsAll_scal h5 fun d hd => by
      obtain ⟨p, hp, rfl⟩ := List.mem_map.mp hd
      exact (hall p hp).2
    rw [e1, e2]
    intro hm
    have ha : sysModules = a := by simpa using hm
    generalize hq : PyData.dict kvs = dd at hd
    cases hd with
    | dK rd k =>
      injection (show Value.ref a = Value.ref _ from r) with ea
      subst ea
      have := (dk_rd I.hok rd).2.1
      rw [← ha] at this
      exact absurd this (by decide)
    | dT rd k =>
      injection (show Value.ref a = Value.ref _ from r) with ea
      subst ea
      have := (dt_rd I.hok (.inl rd)).2.1
      rw [← ha] at this
      exact absurd this (by decide)
    | _ => cases hq
  | _ => cases hf
theorem call_repr (hG : X.A.guards = some []) (hu : X.A.units + 64 < cLine) : CallR X (.builtin "repr") (rRepr X.K) := by
  intro pins s σ H xs us Q I r h
  obtain ⟨v, d, rfl, hd, hs, hz, hp, hm, q⟩ := h
  cases r with
  | cons r1 r2 =>
    cases r2
    obtain ⟨as, rd, ha⟩ := Dt.reads I hd r1
    have hsm : d.hasDict = true → sysModules ∉ as := fun e => by
      rcases hm e with z | z
      · exact fun y => ha _ y z
      · exact Dt.noSys I hd r1 rd z
    cases rd with
    | none => exact P.repr_of_none ⟨.str _, H, I.tok _, ⟨_, rfl⟩, q⟩
    | bool b => exact P.repr_of_bool ⟨.str _, H, I.tok _, ⟨_, rfl⟩, q⟩
    | int i t => exact P.repr_of_int (by simpa [PyData.showable] using hs) ⟨.str _, H, I.tok _, ⟨_, rfl⟩, q⟩
    | str x t => exact P.repr_of_str ⟨.str _, H, I.tok _, ⟨_, rfl⟩, q⟩ hz
    | list h1 h2 h3 h4 => exact repr_of_reads' (.list h1 h2 h3 h4) hs hsm hG (by omega) (fun _ _ e => e) (fun h' u tk hk => ⟨.str _, H, I.kept (t' := tk) hk, ⟨_, rfl⟩, q⟩) hz
    | tuple h1 h2 h3 h4 => exact repr_of_reads' (.tuple h1 h2 h3 h4) hs hsm hG (by omega) (fun _ _ e => e) (fun h' u tk hk => ⟨.str _, H, I.kept (t' := tk) hk, ⟨_, rfl⟩, q⟩) hz
    | dict h1 h2 h3 h4 h5 => exact repr_of_reads' (.dict h1 h2 h3 h4 h5) hs hsm hG (by omega) (fun _ _ e => e) (fun h' u tk hk => ⟨.str _, H, I.kept (t' := tk) hk, ⟨_, rfl⟩, q⟩) hz
end
end FA

/-! FA4: further rules: xs[i] op= e, text * n; the bag of a law. -/
namespace FA
open PySem PySem.Spec PyProof.Rows L2
section
variable {X : Cx}
/-- xs[i], by values -/
theorem get_list : PGet X (fun o i H Q => ∃ p xs j v, o = .ref p ∧ i = .int j ∧ 0 ≤ j ∧ SqL X.K H p xs ∧ xs[j.toNat]? = some v ∧ Q v H) := by
  intro pins s σ H o i ov iv Q I ro ri h
  obtain ⟨p, xs, j, v, rfl, rfl, hj, hq, hv, q⟩ := h
  cases ro
  obtain ⟨t, rfl⟩ := ri
  obtain ⟨its, r, pl, hz⟩ := I.list hq
  obtain ⟨w, ew, rw'⟩ := r.get hv
  have hl := r.length
  have hlt : j.toNat < its.length := (List.getElem?_eq_some_iff.mp ew).1
  have hn := line63
  exact getItem_listL pl.isList hj (by omega) ew ⟨v, H, I, rw', q⟩
end
/-- the names of built-ins that the text leaves alone -/
structure Blt (mg : Str → Option Value) : Prop where
  len : mg "len" = none
  int : mg "int" = none
  abs : mg "abs" = none
  range : mg "range" = none
  repr : mg "repr" = none
  isinstance : mg "isinstance" = none
  str : mg "str" = none
  bool : mg "bool" = none
  all : mg "all" = none
/-! ### the bag -/
structure BagAt (H : Hp) (b c : Addr) : Prop where
  ex : ∃ (n0 n1 n2 : Int) (cells : List Int), H b = some (.lst [.int n0, .int n1, .int n2, .ref c]) ∧ H c = some (.lst (cells.map V.int)) ∧ 0 ≤ n0 ∧ 0 ≤ n1 ∧ n1 < 2147483647 ∧ 0 ≤ n2 ∧ cells.length ≤ 63 ∧ ∀ z ∈ cells, 0 ≤ z
/-- all but b is as it was -/
def But (b : Addr) (H H' : Hp) : Prop := ∀ a, a ≠ b → H' a = H a
theorem But.refl {b : Addr} {H : Hp} : But b H H := fun _ _ => rfl
theorem But.trans {b : Addr} {H H1 H2 : Hp} (h : But b H H1) (k : But b H1 H2) : But b H H2 := fun a n => (k a n).trans (h a n)
theorem But.upd {b : Addr} {H : Hp} {o : HO} : But b H (upd H b o) := fun _ n => upd_ne n
def spTake : Sp := fun vs H Q _ => ∃ (b c : Addr) (m : Int), vs = [.ref b, .int m] ∧ BagAt H b c ∧ 0 < m ∧ m.natAbs.log2 < 9000 ∧
  ∀ (r : Int) (H' : Hp), 0 ≤ r → r < m → BagAt H' b c → But b H H' → Q (.int r) H'
end FA

/-! FA5: types of data; small words for readings. -/
namespace FA
open PySem PySem.Spec PyProof.Rows L2
/-- the type's name -/
def tn : PyData → String
  | .none => "NoneType"
  | .bool _ => "bool"
  | .int _ => "int"
  | .str _ => "str"
  | .list _ => "list"
  | .tuple _ => "tuple"
  | .dict _ => "dict"
theorem Dt.ty {K : PySem.W.Frag} {H : Hp} {v : V} {d : PyData} (h : Dt K H v d) : TyX K H v (.type (tn d)) := by
  cases h with
  | non => exact .base .non
  | bl b => exact .base (.bl b)
  | int i => exact .base (.int i)
  | str x => exact .base (.str x)
  | lst r k =>
    rcases r with r | ⟨o, r⟩
    · exact .base (.lst r)
    · exact .base (.frz r)
  | tup r k =>
    rcases r with (r | ⟨o, r⟩) | ⟨o, its, n, e, c, _⟩
    · exact .base (.tup r)
    · exact .fTuple r
    · exact .kTuple e c
  | dK r k =>
    rcases r with r | ⟨o, r⟩
    · exact .base (.dK r)
    · exact .fDict r
  | dT r k => exact .base (.dT r)
/-- isinstance(v, T), T a built-in type -/
theorem isi_go {K : PySem.W.Frag} {H : Hp} {v : V} {d : PyData} {T : String} {b : Bool} {Q : VK} (h : Dt K H v d) (hk : kitB (tn d) T = some b) (q : Q (.bl b) H) : rIsi K [v, .ty T] H Q :=
  ⟨v, .ty T, .type (tn d), .type T, b, rfl, .ty T, h.ty, kit_ty hk, q⟩
def isInt : PyData → Bool
  | .int _ => true
  | _ => false
def isBl : PyData → Bool
  | .bool _ => true
  | _ => false
def isTxt : PyData → Bool
  | .str _ => true
  | _ => false
def isLst : PyData → Bool
  | .list _ => true
  | _ => false
def isTup : PyData → Bool
  | .tuple _ => true
  | _ => false
def isDct : PyData → Bool
  | .dict _ => true
  | _ => false
theorem kit_int (d : PyData) : kitB (tn d) "int" = some (isInt d || isBl d) := by
  cases d <;> (first | decide +kernel | rfl)
theorem kit_bool (d : PyData) : kitB (tn d) "bool" = some (isBl d) := by
  cases d <;> (first | decide +kernel | rfl)
theorem kit_str (d : PyData) : kitB (tn d) "str" = some (isTxt d) := by
  cases d <;> (first | decide +kernel | rfl)
theorem kit_list (d : PyData) : kitB (tn d) "list" = some (isLst d) := by
  cases d <;> (first | decide +kernel | rfl)
theorem kit_tuple (d : PyData) : kitB (tn d) "tuple" = some (isTup d) := by
  cases d <;> (first | decide +kernel | rfl)
theorem kit_dict (d : PyData) : kitB (tn d) "dict" = some (isDct d) := by
  cases d <;> (first | decide +kernel | rfl)
theorem Dt.txt {K : PySem.W.Frag} {H : Hp} {v : V} {d : PyData} (h : Dt K H v d) (e : isTxt d = true) : ∃ x, v = .str x ∧ d = .str x := by
  cases h <;> first | exact ⟨_, rfl, rfl⟩ | (cases e)
/-! ### names -/
def letters : Str := "abcdefghijklmnopqrstuvwxyz"
def isNm (x : Str) : Bool := decide (1 ≤ x.length) && decide (x.length ≤ 8) && x.cps.toList.all fun c => decide (c ∈ letters.cps.toList)
def isName : PyData → Bool
  | .str x => isNm x
  | _ => false
/-- texts are not over long -/
def fitD : PyData → Prop
  | .str x => x.length ≤ 100000
  | _ => True
def spPred (K : PySem.W.Frag) (f : PyData → Bool) : Sp := fun vs H Q _ => ∃ v d, vs = [v] ∧ Dt K H v d ∧ fitD d ∧ ∀ H', Same H H' → Q (.bl (f d)) H'
theorem same_new {H : Hp} {p : Addr} {o : HO} (h : H p = none) : Same H (upd H p o) := fun b x e => by
  rw [upd_ne (ne_of_none e h)]
  exact e
theorem sz5 {n : Nat} (h : n ≤ 100000) : n ≤ sizeLine := Nat.le_trans h (by decide)
theorem sz5' {n : Nat} (h : n < 100000) : n < sizeLine := Nat.lt_of_lt_of_le h (by decide)
theorem map_take_succ {α β : Type} {f : α → β} {l : List α} {i : Nat} {x : α} (h : l[i]? = some x) : (l.take (i + 1)).map f = (l.take i).map f ++ [f x] := by
  rw [List.take_add_one, h, List.map_append]
  rfl
theorem list_of_cps {z : Str} {i c : Nat} (h : z.cps[i]? = some c) : z.cps.toList[i]? = some c := by
  rw [Array.getElem?_toList]
  exact h
end FA
namespace FA
open PySem PySem.Spec PyProof.Rows L2
theorem ifT {c : Bool} {A B : Prop} (hc : c = true) (h : A) : if c = true then A else B := by
  rw [if_pos hc]
  exact h
theorem ifF {c : Bool} {A B : Prop} (hc : c = false) (h : B) : if c = true then A else B := by
  rw [hc, if_neg Bool.false_ne_true]
  exact h
theorem ifB {c : Bool} {A B : Prop} (h1 : c = true → A) (h2 : c = false → B) : if c = true then A else B := by
  cases c with
  | true => exact ifT rfl (h1 rfl)
  | false => exact ifF rfl (h2 rfl)
end FA
namespace FA
open PySem PySem.Spec PyProof.Rows L2
/-- the def of the name x keeps sp -/
def Cl (P : Program) (w : World) (K : PySem.W.Frag) (mg : Str → Option Value) (base : Heap) (k : Nat) (x : Str) (ps : List Str) (sp : Sp) : Prop :=
  ∃ f fd, FnG P w K mg base CX0 k f fd ps sp ∧ mg x = some (.ref f) ∧ PySem.W.keepIn K (.ref f) = true ∧ Binds K fd ps []
theorem pe_cl {X : Cx} {k : Nat} {x : Str} {ps : List Str} {sp : Sp} {p pos : Pos} {e : Expr} {es : List Expr} {t : TA} (C : Cl X.prog X.w X.K X.mg X.base k x ps sp) (hr : Room k X.A) (hG : X.A.guards = some []) (ha : PA X (e :: es) t) (hg : Gl X x := by rfl)
    (hdb : (x == ("__debug__" : Str)) = false := by decide) (he : starEach (e :: es) X.env = (false, eval e X.env) :: starEach es X.env := by rfl) (hpl : (backTo pos (starEach es X.env)).any (·.1) = false := by rfl) :
    PE X (.Call (.Name x p) (e :: es) [] pos) (tCall sp [] E0 t) := by
  obtain ⟨f, fd, F, hm, hk, hb⟩ := C
  exact pe_callG F hr hG hg hm hk hb .nil pass0 ha hdb he hpl
/-- two values of one datum are alike -/
def spAlike (K : PySem.W.Frag) : Sp := fun vs H Q _ => ∃ v u d, vs = [v, u] ∧ Dt K H v d ∧ Dt K H u d ∧ d.showable = true ∧ d.shown.length ≤ sizeLine ∧ d.depth ≤ 30 ∧ SeqAt.shaped d = true ∧ d.hasDict = false ∧ Q (.bl true) H
mutual
/-- without dicts, Dt is Dp -/
theorem Dt.dp {K : PySem.W.Frag} {H : Hp} {v : V} {d : PyData} : Dt K H v d → d.hasDict = false → Dp K H v d
  | .non, _ => .non
  | .bl b, _ => .bl b
  | .int i, _ => .int i
  | .str x, _ => .str x
  | .lst r k, h => .lst (.inl r) (DtAll.dp k (by simpa [PyData.hasDict] using h))
  | .tup r k, h => .tup r (DtAll.dp k (by simpa [PyData.hasDict] using h))
  | .dK r k, h => by simp [PyData.hasDict] at h
  | .dT r k, h => by simp [PyData.hasDict] at h
theorem DtAll.dp {K : PySem.W.Frag} {H : Hp} {vs : List V} {ds : List PyData} : DtAll K H vs ds → PyData.hasDictAll ds = false → DpAll K H vs ds
  | .nil, _ => .nil
  | .cons a b, h => by
    simp only [PyData.hasDictAll, Bool.or_eq_false_iff] at h
    exact .cons (Dt.dp a h.1) (DtAll.dp b h.2)
end
end FA

/-! FA6: == and != of data without dicts. -/
namespace FA
open PySem PySem.Spec PyProof.Rows L2
section
variable {X : Cx}
def rEqP (K : PySem.W.Frag) : R2 := fun x y H Q => ∃ d e, Dt K H x d ∧ Dt K H y e ∧ d.plain = true ∧ e.plain = true ∧ d.depth ≤ 60 ∧ Q (.bl (PyData.eqv d e)) H
def rNeP (K : PySem.W.Frag) : R2 := fun x y H Q => ∃ d e, Dt K H x d ∧ Dt K H y e ∧ d.plain = true ∧ e.plain = true ∧ d.depth ≤ 60 ∧ Q (.bl (!PyData.eqv d e)) H
theorem op_eqP (hu : X.A.units + 64 < cLine) : OpR X (compareOp .Eq) (rEqP X.K) := by
  intro pins s σ H x y v u Q I rx ry h
  obtain ⟨d, e, hd, he, pd, pe, dd, q⟩ := h
  obtain ⟨as, r1, _⟩ := Dt.reads I hd rx
  obtain ⟨bs, r2, _⟩ := Dt.reads I he ry
  exact SeqAt.eq_plain r1 r2 pd pe (by have := Nat.min_le_left d.depth e.depth; omega) ⟨.bl _, H, I, rfl, q⟩
theorem op_neP (hu : X.A.units + 64 < cLine) : OpR X (compareOp .NotEq) (rNeP X.K) := by
  intro pins s σ H x y v u Q I rx ry h
  obtain ⟨d, e, hd, he, pd, pe, dd, q⟩ := h
  obtain ⟨as, r1, _⟩ := Dt.reads I hd rx
  obtain ⟨bs, r2, _⟩ := Dt.reads I he ry
  exact SeqAt.ne_plain r1 r2 pd pe (by have := Nat.min_le_left d.depth e.depth; omega) ⟨.bl _, H, I, rfl, q⟩
end
theorem dt_strs {K : PySem.W.Frag} {H : Hp} : ∀ l : List Str, DtAll K H (l.map V.str) (l.map PyData.str)
  | [] => .nil
  | x :: l => .cons (.str x) (dt_strs l)
theorem plain_strs : ∀ l : List Str, PyData.plainAll (l.map PyData.str) = true
  | [] => rfl
  | _ :: l => by
    show (true && PyData.plainAll (l.map PyData.str)) = true
    rw [plain_strs l]
    rfl
theorem inV_strs (x : Str) : ∀ l : List Str, inV (.str x) (l.map V.str) = decide (x ∈ l)
  | [] => rfl
  | y :: l => by
    have ih := inV_strs x l
    show ((y == x) || inV (.str x) (l.map V.str)) = decide (x ∈ y :: l)
    rw [ih, Bool.eq_iff_iff, Bool.or_eq_true, beq_iff_eq, decide_eq_true_iff, decide_eq_true_iff, List.mem_cons]
    exact ⟨fun h => h.elim (fun e => .inl e.symm) .inr, fun h => h.elim (fun e => .inl e.symm) .inr⟩
theorem depth_strs : ∀ l : List Str, PyData.depthAll (l.map PyData.str) = 0
  | [] => rfl
  | x :: l => by
    have ih := depth_strs l
    simp [PyData.depthAll, PyData.depth, ih]
end FA

/-! FA7: names drawn by a law: the plain part. -/
namespace FA
open PySem PySem.Spec PyProof.Rows L2
/-- the text of codes -/
def txL (l : List Nat) : Str := ⟨l.toArray⟩
theorem txL_cps (l : List Nat) : (txL l).cps.toList = l := rfl
theorem txL_len (l : List Nat) : (txL l).length = l.length := by show l.toArray.size = l.length; simp
theorem txL_inj {l m : List Nat} (h : txL l = txL m) : l = m := by
  have := congrArg (fun z : Str => z.cps.toList) h
  exact this
theorem txL_of (z : Str) : z = txL z.cps.toList := by cases z; rfl
theorem txL_app (l m : List Nat) : txL l ++ txL m = txL (l ++ m) := by
  show (⟨l.toArray ++ m.toArray⟩ : Str) = ⟨(l ++ m).toArray⟩
  simp
theorem letters_eq : letters.cps.toList = (List.range 26).map (97 + ·) := by decide +kernel
theorem mem_letters {c : Nat} : c ∈ letters.cps.toList ↔ 97 ≤ c ∧ c ≤ 122 := by
  rw [letters_eq, List.mem_map]
  constructor
  · rintro ⟨i, hi, rfl⟩
    have := List.mem_range.mp hi
    omega
  · intro h
    exact ⟨c - 97, List.mem_range.mpr (by omega), by omega⟩
theorem letter_at {i : Int} (h0 : 0 ≤ i) (h1 : i < 26) : atI letters.cps.toList i = some (97 + i.toNat) := by
  have e : letters.cps.toList[i.toNat]? = some (97 + i.toNat) := by
    rw [letters_eq, List.getElem?_map, List.getElem?_range (by omega)]
    rfl
  have := atI_nat e
  rwa [Int.toNat_of_nonneg h0] at this
theorem isNm_tx {l : List Nat} : isNm (txL l) = true ↔ 1 ≤ l.length ∧ l.length ≤ 8 ∧ ∀ c ∈ l, 97 ≤ c ∧ c ≤ 122 := by
  unfold isNm
  rw [Bool.and_eq_true, Bool.and_eq_true, decide_eq_true_iff, decide_eq_true_iff, List.all_eq_true, txL_len, txL_cps]
  constructor
  · rintro ⟨⟨a, b⟩, h⟩
    exact ⟨a, b, fun c hc => mem_letters.mp (of_decide_eq_true (h c hc))⟩
  · rintro ⟨a, b, h⟩
    exact ⟨⟨a, b⟩, fun c hc => decide_eq_true (mem_letters.mpr (h c hc))⟩
/-- m different names -/
structure Names (m : Nat) (ys : List Str) : Prop where
  len : ys.length = m
  nm : ∀ y ∈ ys, isNm y = true
  nd : ys.Nodup
def words : List Str := Txt.split ("set most least call skip run part steps first names params results places plain high" ++ " low proc wide endless never a b ab ba z") " "
theorem words_len : words.length = 25 := by decide +kernel
theorem words_nm : ∀ y ∈ words, isNm y = true := by decide +kernel
theorem words_nd : words.Nodup := by decide +kernel
theorem names_words {t m : Nat} (ht : t ≤ 25) (hm : m ≤ 8) : Names m ((words.drop t ++ words.take t).take m) := by
  have hp : (words.drop t ++ words.take t).Perm words := List.perm_append_comm.trans (by rw [List.take_append_drop])
  refine ⟨?_, fun y hy => words_nm y (hp.subset (List.mem_of_mem_take hy)), ((hp.nodup_iff).mpr words_nd).sublist (List.take_sublist _ _)⟩
  rw [List.length_take, hp.length_eq, words_len]
  omega
/-- the k-th letter -/
def lt (t k : Nat) : Nat := 97 + (t + 3 * k) % 26
theorem lt_ok (t k : Nat) : 97 ≤ lt t k ∧ lt t k ≤ 122 := by unfold lt; omega
theorem lt_inj {t j k : Nat} (hj : j < 8) (hk : k < 8) (h : lt t j = lt t k) : j = k := by unfold lt at h; omega
theorem nodup_range_map {α : Type} {m : Nat} {f : Nat → α} (h : ∀ i j, i < m → j < m → f i = f j → i = j) : ((List.range m).map f).Nodup := by
  rw [List.Nodup, List.pairwise_map]
  refine List.Pairwise.imp_of_mem ?_ (List.nodup_range (n := m))
  intro x y hx hy ne e
  exact ne (h x y (List.mem_range.mp hx) (List.mem_range.mp hy) e)
theorem names_one {t m : Nat} (hm : m ≤ 8) : Names m ((List.range m).map fun k => txL [lt t k]) := by
  refine ⟨by simp, fun y hy => ?_, nodup_range_map fun i j hi hj e => ?_⟩
  · obtain ⟨k, _, rfl⟩ := List.mem_map.mp hy
    refine isNm_tx.mpr ⟨by simp, by simp, fun c hc => ?_⟩
    obtain rfl := List.mem_singleton.mp hc
    exact lt_ok t k
  · have := txL_inj e
    injection this with e
    exact lt_inj (by omega) (by omega) e
theorem names_put {b : List Nat} {a t m : Nat} (hb : 1 ≤ b.length ∧ b.length ≤ 7) (hc : ∀ c ∈ b, 97 ≤ c ∧ c ≤ 122) (hm : m ≤ 8) : Names m ((List.range m).map fun k => txL (b.take a ++ [lt t k] ++ b.drop a)) := by
  refine ⟨by simp, fun y hy => ?_, nodup_range_map fun i j hi hj e => ?_⟩
  · obtain ⟨k, _, rfl⟩ := List.mem_map.mp hy
    have hl : (b.take a ++ [lt t k] ++ b.drop a).length = b.length + 1 := by
      have := congrArg List.length (List.take_append_drop a b)
      rw [List.length_append] at this
      rw [List.length_append, List.length_append, List.length_singleton]
      omega
    refine isNm_tx.mpr ⟨by omega, by omega, fun c h => ?_⟩
    rcases List.mem_append.mp h with h | h
    · rcases List.mem_append.mp h with h | h
      · exact hc c (List.mem_of_mem_take h)
      · obtain rfl := List.mem_singleton.mp h
        exact lt_ok t k
    · exact hc c (List.mem_of_mem_drop h)
  · have h := txL_inj e
    rw [List.append_assoc, List.append_assoc] at h
    have h2 := List.append_cancel_left h
    injection h2 with e
    exact lt_inj (by omega) (by omega) e
theorem cutS_to {l : List Nat} {a : Nat} (h : a ≤ l.length) : cutS (txL l) none (some (a : Int)) = txL (l.take a) := by
  unfold cutS
  rw [HT.sIx_nat, HT.sIx_none, txL_len, txL_cps]
  show (⟨(List.take (min a l.length - 0) (l.drop 0)).toArray⟩ : Str) = txL (l.take a)
  rw [Nat.min_eq_left h]
  rfl
theorem cutS_from {l : List Nat} {a : Nat} (h : a ≤ l.length) : cutS (txL l) (some (a : Int)) none = txL (l.drop a) := by
  unfold cutS
  rw [HT.sIx_nat, HT.sIx_none, txL_len, txL_cps, Nat.min_eq_left h]
  show (⟨(List.take (l.length - a) (l.drop a)).toArray⟩ : Str) = txL (l.drop a)
  rw [List.take_of_length_le (by rw [List.length_drop]; omega)]
  rfl
theorem cutV_to {xs : List V} {a : Nat} : cutV xs none (some (a : Int)) = xs.take a := by
  unfold cutV
  rw [HT.sIx_nat, HT.sIx_none]
  show List.take (min a xs.length - 0) (xs.drop 0) = xs.take a
  rw [Nat.sub_zero, List.drop_zero]
  rcases Nat.le_total a xs.length with h | h
  · rw [Nat.min_eq_left h]
  · rw [Nat.min_eq_right h, List.take_of_length_le (Nat.le_refl _), List.take_of_length_le h]
theorem cutV_from {xs : List V} {a : Nat} (h : a ≤ xs.length) : cutV xs (some (a : Int)) none = xs.drop a := by
  unfold cutV
  rw [HT.sIx_nat, HT.sIx_none, Nat.min_eq_left h]
  rw [List.take_of_length_le (by rw [List.length_drop]; omega)]
/-- text by text, joined by nothing -/
theorem join_nil : ∀ (ls : List (List Nat)), Txt.join "" (ls.map txL) = txL ls.flatten := by
  intro ls
  rw [TL.join_eq]
  have key : ∀ ps : List (List Nat), TL.joinL [] ps = ps.flatten := by
    intro ps
    induction ps with
    | nil => rfl
    | cons p ps ih =>
      cases ps with
      | nil =>
        show p = [p].flatten
        simp
      | cons q ps =>
        show p ++ ([] ++ TL.joinL [] (q :: ps)) = _
        rw [ih]
        simp
  have h := TL.tl_join "" (ls.map txL)
  have e : (ls.map txL).map TL.tl = ls := by
    rw [List.map_map]
    exact (List.map_congr_left fun l _ => (rfl : (TL.tl ∘ txL) l = l)).trans (List.map_id ls)
  rw [e] at h
  have h2 : TL.tl (Str.join "" (ls.map txL)) = ls.flatten := h.trans (key ls)
  rw [txL_of (Str.join "" (ls.map txL))]
  exact congrArg txL h2
end FA
namespace FA
open PySem PySem.Spec PyProof.Rows L2
/-- all that is tracked but b is as it was -/
def Sb (b : Addr) (H H' : Hp) : Prop := ∀ a o, H a = some o → a ≠ b → H' a = some o
theorem Sb.refl {b : Addr} {H : Hp} : Sb b H H := fun _ _ h _ => h
theorem Sb.trans {b : Addr} {H H1 H2 : Hp} (h : Sb b H H1) (k : Sb b H1 H2) : Sb b H H2 := fun a o e n => k a o (h a o e n) n
theorem But.sb {b : Addr} {H H' : Hp} (h : But b H H') : Sb b H H' := fun a o e n => (h a n).trans e
theorem Same.sb {b : Addr} {H H' : Hp} (h : Same H H') : Sb b H H' := fun a o e _ => h a o e
theorem Sb.new {b p : Addr} {H H' : Hp} {o : HO} (h : Sb b H H') (hp : H p = none) : Sb b H (upd H' p o) := fun a u e n => by
  rw [upd_ne (ne_of_none e hp)]
  exact h a u e n
theorem BagAt.keep {H H' : Hp} {b c : Addr} (h : BagAt H b c) (k : Same H H') : BagAt H' b c := by
  obtain ⟨n0, n1, n2, cells, hb, hc, r⟩ := h.ex
  exact ⟨n0, n1, n2, cells, k _ _ hb, k _ _ hc, r⟩
theorem BagAt.put {H : Hp} {b c p : Addr} {o : HO} (h : BagAt H b c) (hp : p ≠ b ∧ p ≠ c) : BagAt (upd H p o) b c := by
  obtain ⟨n0, n1, n2, cells, hb, hc, r⟩ := h.ex
  exact ⟨n0, n1, n2, cells, by rw [upd_ne hp.1.symm]; exact hb, by rw [upd_ne hp.2.symm]; exact hc, r⟩
theorem BagAt.neb {H : Hp} {b c p : Addr} (h : BagAt H b c) (hp : H p = none) : p ≠ b ∧ p ≠ c := by
  obtain ⟨n0, n1, n2, cells, hb, hc, r⟩ := h.ex
  exact ⟨(ne_of_none hb hp).symm, (ne_of_none hc hp).symm⟩
theorem But.none {b p : Addr} {H H' : Hp} (h : But b H H') (n : p ≠ b) (hp : H p = none) : H' p = none := (h p n).trans hp
def spNames : Sp := fun vs H Q _ => ∃ (b c : Addr) (m : Nat), vs = [.ref b, .int m] ∧ m ≤ 8 ∧ BagAt H b c ∧
  ∀ (p : Addr) (ys : List Str) (H' : Hp), Names m ys → H p = none → BagAt H' b c → Sb b H H' → H' p = some (.lst (ys.map V.str)) → Q (.ref p) H'
end FA
namespace FA
theorem flat_one : ∀ ls : List Nat, (ls.map fun z => [z]).flatten = ls
  | [] => rfl
  | z :: ls => by
    show [z] ++ (ls.map fun z => [z]).flatten = z :: ls
    rw [flat_one ls]
    rfl
theorem sum_ones : ∀ ls : List Nat, ((ls.map fun z => txL [z]).map (·.length)).sum = ls.length
  | [] => rfl
  | z :: ls => by
    have ih := sum_ones ls
    show (txL [z]).length + ((ls.map fun z => txL [z]).map (·.length)).sum = ls.length + 1
    rw [ih, txL_len]
    show 1 + ls.length = ls.length + 1
    omega
end FA

/-! FA8: one sign many times; ints of digits; the heap but the bag; odd values. -/
namespace FA
open PySem PySem.Spec PyProof.Rows L2
theorem rep_fold (c : Nat) : ∀ (n : Nat) (acc : Array Nat), ((List.replicate n #[c]).foldl (· ++ ·) acc) = acc ++ (List.replicate n c).toArray
  | 0, acc => by simp
  | n + 1, acc => by
    rw [List.replicate_succ, List.foldl_cons, rep_fold c n]
    apply Array.toList_inj.mp
    rw [Array.toList_append, Array.toList_append, Array.toList_append, List.append_assoc]
    rfl
section
variable {X : Cx}
/-- 'c' * n -/
theorem op_mul_sign : OpR X (binaryOp .Mult) (fun x y H Q => ∃ (c n : Nat), x = .str (txL [c]) ∧ y = .int n ∧ n ≤ 1000 ∧ Q (.str (txL (List.replicate n c))) H) := by
  intro pins s σ H x y v u Q I rx ry h
  obtain ⟨c, n, rfl, rfl, hn, q⟩ := h
  obtain ⟨t, rfl⟩ := rx
  obtain ⟨t', rfl⟩ := ry
  have hl : (txL [c]).length = 1 := rfl
  refine P.mul_str ?_ (fun h1 h2 => ?_) (fun h1 h2 => ?_) ?_
  · rw [decide_eq_false (by omega), decide_eq_false (by omega)]
    rfl
  · rw [hl]
    intro z
    have : (1 : Int) ≤ (2 ^ 63 - 1) / (n : Int) := by
      refine Int.le_ediv_of_mul_le (by omega) ?_
      omega
    omega
  · rw [hl]
    show decide (1 * n > sizeLine) = false
    rw [sizeLine_eq]
    exact decide_eq_false (by omega)
  · by_cases h0 : (n : Int) < 1
    · rw [if_pos h0]
      obtain rfl : n = 0 := by omega
      exact ⟨by decide, ⟨.str _, H, I.tok _, ⟨_, rfl⟩, q⟩⟩
    · rw [if_neg h0]
      by_cases h1 : ((n : Int) == 1 || (txL [c]).length == 0) = true
      · rw [if_pos h1]
        have e : n = 1 := by
          rw [hl] at h1
          simp at h1
          omega
        subst e
        exact ⟨.str _, H, I, ⟨_, rfl⟩, q⟩
      · rw [if_neg h1]
        have e : (⟨(List.replicate (n : Int).toNat (txL [c]).cps).foldl (· ++ ·) #[]⟩ : Str) = txL (List.replicate n c) := by
          show (⟨(List.replicate (n : Int).toNat #[c]).foldl (· ++ ·) #[]⟩ : Str) = _
          rw [Int.toNat_natCast, rep_fold]
          simp [txL]
        rw [e]
        refine ⟨?_, ⟨.str _, H, I.tok _, ⟨_, rfl⟩, q⟩⟩
        rw [txL_len, List.length_replicate, sizeLine_eq]
        omega
end
/-- 1 and n noughts -/
theorem int_ten : ∀ n : Nat, n < 60 → PySem.intText? (txL (49 :: List.replicate n 48)) = some ((10 : Int) ^ n) := by decide +kernel
/-! ### the heap but the bag -/
def Hb (b : Addr) (H : Hp) : Hp := fun a => if a = b then none else H a
theorem hb_ne {b a : Addr} {H : Hp} (h : a ≠ b) : Hb b H a = H a := if_neg h
theorem hb_sub {b : Addr} {H : Hp} : Same (Hb b H) H := fun a o h => by
  by_cases e : a = b
  · rw [e] at h
    have : Hb b H b = none := if_pos rfl
    rw [this] at h
    cases h
  · rw [hb_ne e] at h
    exact h
theorem Sb.same {b : Addr} {H H' : Hp} (h : Sb b H H') : Same (Hb b H) (Hb b H') := fun a o e => by
  by_cases z : a = b
  · rw [z] at e
    have : Hb b H b = none := if_pos rfl
    rw [this] at e
    cases e
  · rw [hb_ne z] at e ⊢
    exact h a o e z
theorem hb_at {b a : Addr} {H : Hp} {o : HO} (h : H a = some o) (n : a ≠ b) : Hb b H a = some o := by rw [hb_ne n]; exact h
/-! ### odd values -/
def oddMenu (x : Str) (w : Nat) : List PyData :=
  [.int 0, .int 1, .int (-1), .int ((10 : Int) ^ w), .int (-((10 : Int) ^ w)), .bool true, .bool false, .none, .str "", .str "a", .str x, .str (x ++ "z"), .str "abcdefgh"] ++
  [.str "abcdefghi", .str "A", .str "a1", .str "a b"] ++
  [.str "plain", .str "high", .str "low", .str "Plain", .list [], .tuple [], .dict [], .list [.int 1], .tuple [.int 0], .tuple [.str x], .dict [(.str x, .int 1)], .list [.str x], .tuple [.str "", .str "", .int 0]]
def spOdd (K : PySem.W.Frag) : Sp := fun vs H Q _ => ∃ (b c : Addr) (x : Str), vs = [.ref b, .str x] ∧ x.length ≤ 1000 ∧ BagAt H b c ∧
  ∀ (v : V) (d : PyData) (w : Nat) (H' : Hp), w < 40 → d ∈ oddMenu x w → Dt K (Hb b H') v d → BagAt H' b c → Sb b H H' → Q v H'
theorem DtAll.at {K : PySem.W.Frag} {H : Hp} : ∀ {vs : List V} {ds : List PyData} {i : Nat}, DtAll K H vs ds → i < ds.length → ∃ v d, vs[i]? = some v ∧ ds[i]? = some d ∧ Dt K H v d
  | _, _, _, .nil, h => absurd h (Nat.not_lt_zero _)
  | _, _, 0, .cons a _, _ => ⟨_, _, rfl, rfl, a⟩
  | _, _, i + 1, .cons _ t, h => by
    obtain ⟨v, d, h1, h2, h3⟩ := DtAll.at (i := i) t (by simpa using h)
    exact ⟨v, d, by simpa using h1, by simpa using h2, h3⟩
theorem DtAll.app {K : PySem.W.Frag} {H : Hp} : ∀ {vs us : List V} {ds es : List PyData}, DtAll K H vs ds → DtAll K H us es → DtAll K H (vs ++ us) (ds ++ es)
  | _, _, _, _, .nil, h => h
  | _, _, _, _, .cons a t, h => .cons a (DtAll.app t h)
end FA

namespace Kk
open PySem PySem.Spec PyProof.Rows L2 FA
def top (i : Nat) : Stmt := PySem.Challenge.pw_farapart_k11_kinds.main.body.getD i (.Pass ⟨0, 0, 0, 0⟩)
abbrev s_law_take : Stmt := top 12
abbrev N_law_take : List Str := ["_law_bag_here", "_law_many", "_law_cell", "_law_mixed", "_law_value", "_law_begin", "_law_second"]
theorem sc_law_take : FnScope N_law_take ["_law_bag_here", "_law_many"] (defScope s_law_take) := ⟨rfl, rfl, rfl, by decide +kernel, rfl, by decide +kernel, by decide +kernel⟩
section
variable {P : Program} {w : World} {K : PySem.W.Frag} {mg : Str → Option Value} {base : Heap}
theorem ok_take {f : Addr} {fd : FuncData} (F : Fun K "_law_take" "_law_take" s_law_take f fd) (T : Blt mg) : FnOk P w K mg base CX0 1 f fd ["_law_bag_here", "_law_many"] spTake := by
  refine okW F sc_law_take (fun vs H Q E h => ?_) (fun cdv A outer s H vs Q E hr h => ?_)
  · obtain ⟨b, c, m, rfl, _⟩ := h
    rfl
  obtain ⟨b, c, m, rfl, ⟨n0, n1, n2, cells, hb, hc, h0, h1, h1', h2, hl, hz⟩, hm, hm9, k⟩ := h
  have nbc : c ≠ b := ne_of hc hb (by
    intro z
    injection z with z
    have q : V.ref c ∈ cells.map V.int := by rw [z]; simp
    obtain ⟨y, _, e⟩ := List.mem_map.mp q
    cases e)
  refine wcut (ps_if (pt_cmpR op_eq (pe_ix ix_list (pv 0) pe_int (fun _ _ => rfl)) pe_int (by rfl)) pss_w pss_w)
    (fun σ' H' => ∃ x2 x3 n0 n1 n2, σ' = [some (.ref b), some (.int m), x2, x3, none, none, none] ∧ H' b = some (.lst [.int n0, .int n1, .int n2, .ref c]) ∧ H' c = some (.lst (cells.map V.int)) ∧ But b H H' ∧ 0 ≤ n0 ∧ 0 ≤ n1 ∧ n1 < 2147483647 ∧ 0 ≤ n2) ?_ ?_
  · refine ⟨_, rfl, b, _, 0, .int n0, rfl, rfl, SqL.of hb, rfl, rfl, _, rfl, ?_⟩
    refine ite2 (fun hn0 => ?_) (fun hn0 => ?_)
    · -- the next cell
      refine wss (ps_set (i := 2) sc_law_take.nd rfl (Or.inl rfl) pe_int) ?_
      refine wcut (ps_if (pt_cmpR op_lt (pe_ix ix_list (pv 0) pe_int (fun _ _ => rfl)) (pe_callB call_len_seq (by rfl) T.len PySem.boot_len (pa_cons (pe_ix ix_list (pv 0) pe_int (fun _ _ => rfl)) pa_nil)) (by rfl)) pss_w pss_w)
        (fun σ' H' => ∃ z : Int, 0 ≤ z ∧ σ' = [some (.ref b), some (.int m), some (.int z), none, none, none, none] ∧ H = H') ?_ ?_
      · refine ⟨_, rfl, b, _, 2, .int n2, rfl, rfl, SqL.of hb, rfl, _, rfl, b, _, 3, .ref c, rfl, rfl, SqL.of hb, rfl, c, _, rfl, .inl (SqL.of hc), _, _, rfl, rfl, _, rfl, ?_⟩
        refine ite2 (fun h => ?_) (fun h => ?_)
        · have hlt : n2.toNat < cells.length := by
            have := of_decide_eq_true h
            rw [List.length_map] at this
            omega
          refine wss (ps_set (i := 2) sc_law_take.nd rfl (Or.inl rfl) (pe_ix ix_list (pe_ix ix_list (pv 0) pe_int (fun _ _ => rfl)) (pe_ix ix_list (pv 0) pe_int (fun _ _ => rfl)) (fun _ _ => rfl))) ?_
          refine ⟨_, rfl, b, _, 3, .ref c, rfl, rfl, SqL.of hb, rfl, _, rfl, b, _, 2, .int n2, rfl, rfl, SqL.of hb, rfl, c, _, n2, .int cells[n2.toNat], rfl, rfl, SqL.of hc, ?_, ?_⟩
          · have e := atI_nat (xs := cells.map V.int) (j := n2.toNat) (v := .int cells[n2.toNat]) (by rw [List.getElem?_map, List.getElem?_eq_getElem hlt]; rfl)
            rw [Int.toNat_of_nonneg h2] at e
            exact e
          · exact wss_end ⟨cells[n2.toNat], hz _ (List.getElem_mem hlt), rfl, rfl⟩
        · exact wss_end ⟨0, Int.le_refl 0, rfl, rfl⟩
      · rintro σ' H' ⟨z, hz0, rfl, rfl⟩
        -- the count
        refine wss (ps_augS (pv 0) pe_int get_list pe_int ip_add set_list) ?_
        refine ⟨_, rfl, b, _, 2, .int n2, rfl, rfl, by decide, SqL.of hb, rfl, n2, 1, rfl, rfl, b, _, 2, 2, rfl, rfl, hb, rfl, ?_⟩
        -- a great cell is kept
        refine wcut (ps_if (pt_cmpR op_ge (pv 2) pe_int (by rfl)) pss_w pss_w)
          (fun σ' H' => ∃ y : Int, 0 ≤ y ∧ σ' = [some (.ref b), some (.int m), some (.int z), none, none, none, none] ∧ H' b = some (.lst [.int y, .int n1, .int (n2 + 1), .ref c]) ∧ But b H H') ?_ ?_
        · refine ⟨_, rfl, _, _, rfl, rfl, _, rfl, ?_⟩
          refine ite2 (fun _ => ?_) (fun _ => ?_)
          · refine wss (ps_asg (pv 2) (pg_sub (pv 0) pe_int set_list)) ?_
            refine ⟨_, rfl, _, rfl, b, _, 0, 0, rfl, rfl, upd_same, rfl, ?_⟩
            exact wss_end ⟨z, hz0, rfl, upd_same, But.upd.trans But.upd⟩
          · exact wss_end ⟨n0, h0, rfl, upd_same, But.upd⟩
        · rintro σ' H1 ⟨y, hy, rfl, hb1, but1⟩
          refine wss (ps_set (i := 3) sc_law_take.nd rfl (Or.inl rfl) (pe_op op_add (pe_op op_add (pe_op op_mul (pe_ix ix_list (pv 0) pe_int (fun _ _ => rfl)) pe_int) (pe_op op_mod (pe_callTy call_int1 (by rfl) T.int (by decide +kernel) (pa_cons (pv 2) pa_nil)) pe_int)) (pe_op op_mul pe_int (pe_ix ix_list (pv 0) pe_int (fun _ _ => rfl))))) ?_
          refine ⟨_, rfl, b, _, 1, .int n1, rfl, rfl, SqL.of hb1, rfl, _, _, rfl, rfl, .inl ⟨by omega, by omega⟩, _, rfl, .inl ⟨_, rfl, ?_⟩⟩
          refine ⟨_, _, rfl, rfl, (by show (0 : Int) < 2147483647; decide), _, _, rfl, rfl, _, rfl, b, _, 2, .int (n2 + 1), rfl, rfl, SqL.of hb1, rfl, _, _, rfl, rfl, .inl ⟨by decide, by decide⟩, _, _, rfl, rfl, ?_⟩
          refine wss (ps_asg (pe_op op_mod (pe_callTy call_int1 (by rfl) T.int (by decide +kernel) (pa_cons (pv 3) pa_nil)) pe_int) (pg_sub (pv 0) pe_int set_list)) ?_
          refine ⟨_, rfl, .inl ⟨_, rfl, ?_⟩⟩
          refine ⟨_, _, rfl, rfl, (by show (0 : Int) < 2147483647; decide), _, rfl, b, _, 1, 1, rfl, rfl, hb1, rfl, ?_⟩
          refine wss_end ⟨_, _, y, _, n2 + 1, rfl, upd_same, ?_, but1.trans But.upd, hy, Int.emod_nonneg _ (by decide), Int.emod_lt_of_pos _ (by decide), by omega⟩
          rw [upd_ne nbc, but1 c nbc]
          exact hc
    · exact wss_end ⟨_, _, n0, n1, n2, rfl, hb, hc, But.refl, h0, h1, h1', h2⟩
  · rintro σ' H' ⟨x2, x3, n0, n1, n2, rfl, hb', hc', but, h0, h1, h1', h2⟩
    refine wss (ps_if (pt_cmpR op_gt (pe_ix ix_list (pv 0) pe_int (fun _ _ => rfl)) pe_int (by rfl)) pss_w pss_w) ?_
    refine ⟨_, rfl, b, _, 0, .int n0, rfl, rfl, SqL.of hb', rfl, _, _, rfl, rfl, _, rfl, ?_⟩
    refine ite2 (fun hp => ?_) (fun hp => ?_)
    · refine wss (ps_set (i := 4) sc_law_take.nd rfl (Or.inl rfl) (pe_op op_mod (pe_callTy call_int1 (by rfl) T.int (by decide +kernel) (pa_cons (pe_ix ix_list (pv 0) pe_int (fun _ _ => rfl)) pa_nil)) (pv 1))) ?_
      refine ⟨_, rfl, b, _, 0, .int n0, rfl, rfl, SqL.of hb', rfl, .inl ⟨_, rfl, ?_⟩⟩
      refine ⟨_, rfl, _, _, rfl, rfl, hm, ?_⟩
      refine wss (ps_asg (pe_op op_fdivW (pe_ix ix_list (pv 0) pe_int (fun _ _ => rfl)) (pv 1)) (pg_sub (pv 0) pe_int set_list)) ?_
      refine ⟨_, rfl, b, _, 0, .int n0, rfl, rfl, SqL.of hb', rfl, _, rfl, _, _, rfl, rfl, ⟨hm, hm9⟩, _, rfl, b, _, 0, 0, rfl, rfl, hb', rfl, ?_⟩
      refine wss (ps_ret (pv 4)) ?_
      refine ⟨_, rfl, ?_⟩
      refine k _ _ (Int.emod_nonneg _ (by omega)) (Int.emod_lt_of_pos _ hm) ⟨_, _, _, cells, upd_same, ?_, ?_, h1, h1', h2, hl, hz⟩ (but.trans But.upd)
      · rw [upd_ne nbc]
        exact hc'
      · exact Int.ediv_nonneg h0 (by omega)
    · have fin : ∀ x : Int, Q (.int (x % m)) H' := fun x => k _ _ (Int.emod_nonneg _ (by omega)) (Int.emod_lt_of_pos _ hm) ⟨n0, n1, n2, cells, hb', hc', h0, h1, h1', h2, hl, hz⟩ but
      refine wss_end ?_
      refine wss (ps_set (i := 5) sc_law_take.nd rfl (Or.inl rfl) (pe_op op_mod (pe_callTy call_int1 (by rfl) T.int (by decide +kernel) (pa_cons (pe_op op_mul (pe_op op_add (pe_ix ix_list (pv 0) pe_int (fun _ _ => rfl)) pe_int) pe_int) pa_nil)) pe_int)) ?_
      refine ⟨_, rfl, b, _, 1, .int n1, rfl, rfl, SqL.of hb', rfl, _, _, rfl, rfl, _, _, rfl, rfl, .inl ⟨by omega, by omega⟩, .inl ⟨_, rfl, _, _, rfl, rfl, (by show (0 : Int) < 1000000007; decide), ?_⟩⟩
      generalize hx : (n1 + 1) * 39373 % 1000000007 = x
      have x0 : 0 ≤ x := hx ▸ Int.emod_nonneg _ (by decide)
      have x1 : x < 1000000007 := hx ▸ Int.emod_lt_of_pos _ (by decide)
      refine wss (ps_set (i := 6) sc_law_take.nd rfl (Or.inl rfl) (pe_op op_mod (pe_callTy call_int1 (by rfl) T.int (by decide +kernel) (pa_cons (pe_op op_mul (pe_op op_mod (pe_callTy call_int1 (by rfl) T.int (by decide +kernel) (pa_cons (pe_op op_mul (pv 5) (pv 5)) pa_nil)) pe_int) pe_int) pa_nil)) pe_int)) ?_
      refine ⟨_, rfl, _, rfl, _, _, rfl, rfl, .inl ⟨by omega, by omega⟩, .inl ⟨_, rfl, _, _, rfl, rfl, (by show (0 : Int) < 998244353; decide), _, _, rfl, rfl, .inr ⟨by decide, by decide⟩, .inl ⟨_, rfl, _, _, rfl, rfl, (by show (0 : Int) < 998244353; decide), ?_⟩⟩⟩
      generalize hy : x * x % 998244353 * 30011 % 998244353 = y
      refine wss (ps_if (pt_cmpR op_gt (pv 1) pe_int (by rfl)) pss_w pss_w) ?_
      refine ⟨_, rfl, _, _, rfl, rfl, _, rfl, ?_⟩
      refine ite2 (fun hp => ?_) (fun hp => ?_)
      · refine wss (ps_ret (pe_op op_mod (pe_callTy call_int1 (by rfl) T.int (by decide +kernel) (pa_cons (pe_op op_add (pe_op op_mul (pv 6) pe_int) (pv 5)) pa_nil)) (pv 1))) ?_
        exact ⟨_, rfl, _, _, rfl, rfl, .inr ⟨by decide, by decide⟩, _, rfl, _, _, rfl, rfl, .inl ⟨_, rfl, _, rfl, _, _, rfl, rfl, hm, fin _⟩⟩
      · refine wss_end ?_
        refine wss (ps_ret (pe_op op_mod (pe_callTy call_int1 (by rfl) T.int (by decide +kernel) (pa_cons (pe_op op_fdivW (pv 6) pe_int) pa_nil)) (pv 1))) ?_
        exact ⟨_, rfl, _, _, rfl, rfl, ⟨by decide, by decide⟩, .inl ⟨_, rfl, _, rfl, _, _, rfl, rfl, hm, fin _⟩⟩
end
end Kk

namespace Kk
open PySem PySem.Spec PyProof.Rows L2 FA
/-- what the text's top has left -/
structure Txt (K : PySem.W.Frag) (mg : Str → Option Value) (tK : Addr) : Prop where
  B : Blt mg
  letters : mg "LETTERS" = some (.str "abcdefghijklmnopqrstuvwxyz" 0)
  longest : ∃ t, mg "LONGEST" = some (.int 8 t)
abbrev s_is_integer : Stmt := top 5
abbrev N_is_integer : List Str := ["thing"]
theorem sc_is_integer : FnScope N_is_integer ["thing"] (defScope s_is_integer) := ⟨rfl, rfl, rfl, by decide +kernel, rfl, by decide +kernel, by decide +kernel⟩
section
variable {P : Program} {w : World} {K : PySem.W.Frag} {mg : Str → Option Value} {base : Heap}
theorem ok_is_integer {f : Addr} {fd : FuncData} (F : Fun K "is_integer" "is_integer" s_is_integer f fd) (T : Blt mg) : FnOk P w K mg base CX0 1 f fd ["thing"] (spPred K isInt) := by
  refine okW F sc_is_integer (fun vs H Q E h => ?_) (fun cdv A outer s H vs Q E hr h => ?_)
  · obtain ⟨v, d, rfl, _⟩ := h
    rfl
  obtain ⟨v, d, rfl, hd, hf, k⟩ := h
  refine wss (ps_ret (pe_and (pe_callB call_isi (by rfl) T.isinstance (by decide +kernel) (pa_cons (pv 0) (pa_cons (pe_bltn (v := .ty "int") (by rfl) T.int (by decide +kernel) rfl) pa_nil))) (pe_one (pe_not (pe_callB call_isi (by rfl) T.isinstance (by decide +kernel) (pa_cons (pv 0) (pa_cons (pe_bltn (v := .ty "bool") (by rfl) T.bool (by decide +kernel) rfl) pa_nil))))))) ?_
  refine ⟨_, rfl, v, _, _, _, _, rfl, .ty _, hd.ty, kit_ty (kit_int d), _, rfl, ?_⟩
  have k' := k H (Same.refl H)
  cases d with
  | int i => exact iteT ⟨_, rfl, v, _, _, _, _, rfl, .ty _, hd.ty, kit_ty (kit_bool _), _, rfl, k'⟩
  | bool b => exact iteT ⟨_, rfl, v, _, _, _, _, rfl, .ty _, hd.ty, kit_ty (kit_bool _), _, rfl, k'⟩
  | _ => exact iteF k'
abbrev s_is_name : Stmt := top 6
abbrev N_is_name : List Str := ["thing", "sign"]
theorem sc_is_name : FnScope N_is_name ["thing"] (defScope s_is_name) := ⟨rfl, rfl, rfl, by decide +kernel, rfl, by decide +kernel, by decide +kernel⟩
theorem ok_is_name {f : Addr} {fd : FuncData} (F : Fun K "is_name" "is_name" s_is_name f fd) (T : Blt mg) {tl tt : Tok} (gL : mg "LETTERS" = some (.str letters tl)) (gN : mg "LONGEST" = some (.int 8 tt)) : FnOk P w K mg base CX0 1 f fd ["thing"] (spPred K isName) := by
  refine okW F sc_is_name (fun vs H Q E h => ?_) (fun cdv A outer s H vs Q E hr h => ?_)
  · obtain ⟨v, d, rfl, _⟩ := h
    rfl
  obtain ⟨v, d, rfl, hd, hf, k⟩ := h
  refine wss (ps_if (PW.pt (pw_or (pt_not (pt_val (pe_callB call_isi (by rfl) T.isinstance (by decide +kernel) (pa_cons (pv 0) (pa_cons (pe_bltn (v := .ty "str") (by rfl) T.str (by decide +kernel) rfl) pa_nil))))) (pw_or1 (pt_not (pt_chain op_le op_le pe_int (pe_callB call_len_str (by rfl) T.len PySem.boot_len (pa_cons (pv 0) pa_nil)) (pe_glob (v := .int 8) (by rfl) gN ⟨_, rfl⟩)))))) pss_w pss_w) ?_
  refine ⟨_, rfl, v, _, _, _, _, rfl, .ty _, hd.ty, kit_ty (kit_str d), _, rfl, ?_⟩
  cases ht : isTxt d with
  | false =>
    refine iteT ?_
    have e : isName d = false := by cases d <;> first | rfl | cases ht
    refine iteT (wss (ps_ret pe_bl) ?_)
    have k' := k H (Same.refl H)
    rw [e] at k'
    exact k'
  | true =>
    obtain ⟨x, rfl, rfl⟩ := hd.txt ht
    have hx : x.length ≤ 100000 := hf
    refine iteF ?_
    refine ⟨_, rfl, x, rfl, sz5 hx, _, _, rfl, rfl, _, rfl, ?_⟩
    have no : isNm x = false → Q (.bl false) H := fun e => by
      have k' := k H (Same.refl H)
      rw [show isName (.str x) = false from e] at k'
      exact k'
    refine ifB (fun h1 => ?_) (fun h1 => ?_)
    · refine ⟨_, _, rfl, rfl, _, rfl, ?_⟩
      refine ifB (fun h2 => ?_) (fun h2 => ?_)
      · refine wss (ps_ret pe_bl) (no ?_)
        have h3 : decide ((x.length : Int) ≤ 8) = false := by simpa using h2
        have h4 := of_decide_eq_false h3
        unfold isNm
        rw [show decide (x.length ≤ 8) = false from decide_eq_false (by omega)]
        simp
      · have h3 : decide ((x.length : Int) ≤ 8) = true := by simpa using h2
        have h4 := of_decide_eq_true h3
        have h5 := of_decide_eq_true h1
        refine wss_end ?_
        refine wss (ps_ret (pe_callB (cr_all rfl) (by rfl) T.all (by decide +kernel) (pa_cons (pe_lc (own := [("sign", 1)]) (g := (gName 1)) (by rfl) sc_is_name.nd (pi_str (pv 0)) (blkOk_by (own := [("sign", 1)]) (N := N_is_name) (sc := defScope s_is_name) (by decide +kernel)) (fun _ _ _ _ _ => (pg_name (i := 1) sc_is_name.nd rfl (Or.inl rfl))) (fun _ _ _ _ _ => pts_nil) (fun _ _ _ _ _ => (pe_cmpR op_in_sign (pv 1) (pe_glob (v := .str letters) (by rfl) gL ⟨_, rfl⟩) (by rfl)))) pa_nil))) ?_
        refine ⟨_, rfl, x, rfl, fun D hD => lc_it (walk_str (z := x)) (fun i H' => H' = upd H D (.lst ((x.cps.toList.take i).map fun c => V.bl (decide (c ∈ letters.cps.toList))))) rfl (fun _ _ _ _ => trivial) ?_ ?_⟩
        · rintro i y _ _ hi rfl ⟨rfl, c, hc, rfl⟩
          refine ⟨rfl, _, rfl, c, letters, rfl, rfl, _, upd_same, sz5' ?_, ?_⟩
          · rw [List.length_map, List.length_take]
            have : x.cps.size = x.length := rfl
            omega
          · rw [upd_upd, map_take_succ (list_of_cps hc)]
        · rintro _ rfl
          have e : List.take x.cps.size x.cps.toList = x.cps.toList := List.take_of_length_le (by rw [Array.length_toList]; exact Nat.le_refl _)
          refine ⟨D, x.cps.toList.map fun c => decide (c ∈ letters.cps.toList), rfl, SqL.of (by rw [upd_same, e, List.map_map]; rfl), ?_⟩
          have k' := k _ (same_new hD (o := .lst ((x.cps.toList.take x.cps.size).map fun c => V.bl (decide (c ∈ letters.cps.toList)))))
          have e2 : isName (.str x) = (x.cps.toList.map fun c => decide (c ∈ letters.cps.toList)).all id := by
            show isNm x = _
            unfold isNm
            rw [decide_eq_true (show 1 ≤ x.length by omega), decide_eq_true (show x.length ≤ 8 by omega), List.all_map]
            rfl
          rw [e2] at k'
          exact k'
    · refine ⟨_, rfl, ifT rfl ?_⟩
      refine wss (ps_ret pe_bl) (no ?_)
      have h4 := of_decide_eq_false h1
      unfold isNm
      rw [show decide (1 ≤ x.length) = false from decide_eq_false (by omega)]
      simp
end
end Kk

namespace Kk
open PySem PySem.Spec PyProof.Rows L2 FA
def isSource : PyData → Bool
  | .str x => decide (x = "") || isNm x
  | _ => false
def kinds : List Str := ["plain", "high", "low"]
def isKind : PyData → Bool
  | .str x => decide (x ∈ kinds)
  | _ => false
abbrev s_is_source : Stmt := top 7
abbrev N_is_source : List Str := ["thing"]
theorem sc_is_source : FnScope N_is_source ["thing"] (defScope s_is_source) := ⟨rfl, rfl, rfl, by decide +kernel, rfl, by decide +kernel, by decide +kernel⟩
abbrev s_is_kind : Stmt := top 8
abbrev N_is_kind : List Str := ["thing"]
theorem sc_is_kind : FnScope N_is_kind ["thing"] (defScope s_is_kind) := ⟨rfl, rfl, rfl, by decide +kernel, rfl, by decide +kernel, by decide +kernel⟩
abbrev s_fits : Stmt := top 9
abbrev N_fits : List Str := ["part", "kind"]
theorem sc_fits : FnScope N_fits ["part", "kind"] (defScope s_fits) := ⟨rfl, rfl, rfl, by decide +kernel, rfl, by decide +kernel, by decide +kernel⟩
section
variable {P : Program} {w : World} {K : PySem.W.Frag} {mg : Str → Option Value} {base : Heap}
theorem ok_is_source {f : Addr} {fd : FuncData} (F : Fun K "is_source" "is_source" s_is_source f fd) (T : Blt mg) {tz : Tok} (gZ : mg "ZERO" = some (.str "" tz)) (C : Cl P w K mg base 1 "is_name" ["thing"] (spPred K isName)) : FnG P w K mg base CX0 2 f fd ["thing"] (spPred K isSource) := by
  refine okG F sc_is_source (fun vs H Q E h => ?_) (fun cdv A outer s H vs Q E hr hG h => ?_)
  · obtain ⟨v, d, rfl, _⟩ := h
    rfl
  obtain ⟨v, d, rfl, hd, hf, k⟩ := h
  refine wss (ps_ret (pe_and (pe_callB call_isi (by rfl) T.isinstance (by decide +kernel) (pa_cons (pv 0) (pa_cons (pe_bltn (v := .ty "str") (by rfl) T.str (by decide +kernel) rfl) pa_nil))) (pe_one (pe_or (pe_cmpR op_eq (pv 0) (pe_glob (v := .str "") (by rfl) gZ ⟨_, rfl⟩) (by rfl)) (pe_one (pe_cl C hr hG (pa_cons (pv 0) pa_nil))))))) ?_
  refine ⟨_, rfl, v, _, _, _, _, rfl, .ty _, hd.ty, kit_ty (kit_str d), _, rfl, ?_⟩
  have k' := k H (Same.refl H)
  cases d with
  | str x =>
    obtain ⟨y, rfl, e⟩ := hd.txt rfl
    injection e with e
    subst e
    refine iteT ⟨_, rfl, rfl, _, rfl, ?_⟩
    refine ifB (fun h => ?_) (fun h => ?_)
    · have e : x = "" := by
        have := of_decide_eq_true h
        injection this
      have e2 : isSource (.str x) = true := by
        show (decide (x = "") || isNm x) = true
        rw [decide_eq_true e]
        rfl
      rw [e2] at k'
      exact k'
    · refine ⟨_, rfl, _, _, rfl, hd, hf, fun H' sm => ?_⟩
      have e : ¬ x = "" := fun z => by
        have := of_decide_eq_false h
        exact this (by rw [z])
      have e2 : isSource (.str x) = isName (.str x) := by
        show (decide (x = "") || isNm x) = isNm x
        rw [decide_eq_false e]
        rfl
      have k2 := k H' sm
      rw [e2] at k2
      exact k2
  | _ => exact iteF k'
theorem ok_is_kind {f : Addr} {fd : FuncData} (F : Fun K "is_kind" "is_kind" s_is_kind f fd) (T : Blt mg) {tk : Addr} (gK : mg "KINDS" = some (.ref tk)) (hK : ∀ H, SqT K H tk (kinds.map V.str)) : FnG P w K mg base CX0 1 f fd ["thing"] (spPred K isKind) := by
  refine okG F sc_is_kind (fun vs H Q E h => ?_) (fun cdv A outer s H vs Q E hr hG h => ?_)
  · obtain ⟨v, d, rfl, _⟩ := h
    rfl
  obtain ⟨v, d, rfl, hd, hf, k⟩ := h
  refine wss (ps_ret (pe_and (pe_callB call_isi (by rfl) T.isinstance (by decide +kernel) (pa_cons (pv 0) (pa_cons (pe_bltn (v := .ty "str") (by rfl) T.str (by decide +kernel) rfl) pa_nil))) (pe_one (pe_cmpR op_in_seq (pv 0) (pe_glob (v := .ref tk) (by rfl) gK rfl) (by rfl))))) ?_
  refine ⟨_, rfl, v, _, _, _, _, rfl, .ty _, hd.ty, kit_ty (kit_str d), _, rfl, ?_⟩
  have k' := k H (Same.refl H)
  cases d with
  | str x =>
    obtain ⟨y, rfl, e⟩ := hd.txt rfl
    injection e with e
    subst e
    refine iteT ⟨_, rfl, tk, _, rfl, .inr (hK H), rfl, rfl, ?_⟩
    have e2 : isKind (.str x) = inV (.str x) (kinds.map V.str) := by
      exact (inV_strs x kinds).symm
    rw [e2] at k'
    exact k'
  | _ => exact iteF k'
def spFits : Sp := fun vs H Q _ => ∃ a b : Str, vs = [.str a, .str b] ∧ ∀ H', Same H H' → Q (.bl (decide (a = "plain" ∨ a = b))) H'
theorem ok_fits {f : Addr} {fd : FuncData} (F : Fun K "fits" "fits" s_fits f fd) : FnG P w K mg base CX0 1 f fd ["part", "kind"] spFits := by
  refine okG F sc_fits (fun vs H Q E h => ?_) (fun cdv A outer s H vs Q E hr hG h => ?_)
  · obtain ⟨a, b, rfl, _⟩ := h
    rfl
  obtain ⟨a, b, rfl, k⟩ := h
  refine wss (ps_ret (pe_cmpR op_in_seq (pv 0) (pe_tup (pa_cons pe_str (pa_cons (pv 1) pa_nil))) (by rfl))) ?_
  refine ⟨_, rfl, _, rfl, (by show 2 ≤ sizeLine; decide), fun p hp => ⟨p, _, rfl, .inr (SqT.of upd_same), rfl, rfl, ?_⟩⟩
  have k' := k _ (same_new (o := .tup [.str "plain", .str b]) hp)
  have e : decide (a = "plain" ∨ a = b) = inV (.str a) [.str "plain", .str b] := by
    rw [show inV (.str a) [.str "plain", .str b] = _ from inV_strs a ["plain", b]]
    simp
  rw [e] at k'
  exact k'
abbrev s_law_is_name : Stmt := top 16
abbrev N_law_is_name : List Str := ["_law_thing", "_law_sign"]
theorem sc_law_is_name : FnScope N_law_is_name ["_law_thing"] (defScope s_law_is_name) := ⟨rfl, rfl, rfl, by decide +kernel, rfl, by decide +kernel, by decide +kernel⟩
theorem filter_nil {l m : List Nat} : ((l.filter fun c => !decide (c ∈ m)) = []) ↔ (l.all fun c => decide (c ∈ m)) = true := by
  rw [List.filter_eq_nil_iff, List.all_eq_true]
  simp
theorem ok_law_is_name {f : Addr} {fd : FuncData} (F : Fun K "_law_is_name" "_law_is_name" s_law_is_name f fd) (T : Blt mg) : FnG P w K mg base CX0 1 f fd ["_law_thing"] (spPred K isName) := by
  refine okG F sc_law_is_name (fun vs H Q E h => ?_) (fun cdv A outer s H vs Q E hr hG h => ?_)
  · obtain ⟨v, d, rfl, _⟩ := h
    rfl
  obtain ⟨v, d, rfl, hd, hf, k⟩ := h
  refine wss (ps_if (PW.pt (pw_or (pt_not (pt_val (pe_callB call_isi (by rfl) T.isinstance (by decide +kernel) (pa_cons (pv 0) (pa_cons (pe_bltn (v := .ty "str") (by rfl) T.str (by decide +kernel) rfl) pa_nil))))) (pw_or (pt_cmpR op_lt (pe_callB call_len_str (by rfl) T.len PySem.boot_len (pa_cons (pv 0) pa_nil)) pe_int (by rfl)) (pw_or1 (pt_cmpR op_gt (pe_callB call_len_str (by rfl) T.len PySem.boot_len (pa_cons (pv 0) pa_nil)) pe_int (by rfl)))))) pss_w pss_w) ?_
  refine ⟨_, rfl, v, _, _, _, _, rfl, .ty _, hd.ty, kit_ty (kit_str d), _, rfl, ?_⟩
  cases ht : isTxt d with
  | false =>
    have e : isName d = false := by cases d <;> first | rfl | cases ht
    have k' := k H (Same.refl H)
    rw [e] at k'
    exact iteT (iteT (wss (ps_ret pe_bl) k'))
  | true =>
    obtain ⟨x, rfl, rfl⟩ := hd.txt ht
    have hx : x.length ≤ 100000 := hf
    have no : isNm x = false → Q (.bl false) H := fun e => by
      have k' := k H (Same.refl H)
      rw [show isName (.str x) = false from e] at k'
      exact k'
    refine iteF ?_
    refine ⟨_, rfl, x, rfl, sz5 hx, _, _, rfl, rfl, _, rfl, ?_⟩
    refine ifB (fun h1 => ?_) (fun h1 => ?_)
    · refine iteT (wss (ps_ret pe_bl) (no ?_))
      have := of_decide_eq_true h1
      unfold isNm
      rw [show decide (1 ≤ x.length) = false from decide_eq_false (by omega)]
      simp
    refine ⟨_, rfl, x, rfl, sz5 hx, _, _, rfl, rfl, _, rfl, ?_⟩
    refine ifB (fun h2 => ?_) (fun h2 => ?_)
    · refine wss (ps_ret pe_bl) (no ?_)
      have := of_decide_eq_true h2
      unfold isNm
      rw [show decide (x.length ≤ 8) = false from decide_eq_false (by omega)]
      simp
    have h3 := of_decide_eq_false h1
    have h4 := of_decide_eq_false h2
    refine wss_end ?_
    refine wss (ps_ret (pe_cmpR (op_eqP hr.units) (pe_lc (own := [("_law_sign", 1)]) (g := (gName 1)) (by rfl) sc_law_is_name.nd (pi_str (pv 0)) (blkOk_by (own := [("_law_sign", 1)]) (N := N_law_is_name) (sc := defScope s_law_is_name) (by decide +kernel)) (fun _ _ _ _ _ => (pg_name (i := 1) sc_law_is_name.nd rfl (Or.inl rfl))) (fun _ _ _ _ _ => (pts_one (pt_cmpR op_notIn_sign (pv 1) pe_str (by rfl)))) (fun _ _ _ _ _ => (pv 1))) (pe_lst pa_nil) (by rfl))) ?_
    refine ⟨_, rfl, x, rfl, fun D hD => lc_it (walk_str (z := x)) (fun i H' => H' = upd H D (.lst (((x.cps.toList.take i).filter fun c => !decide (c ∈ letters.cps.toList)).map fun c => V.str ⟨#[c]⟩))) rfl (fun _ _ _ _ => trivial) ?_ ?_⟩
    · rintro i y _ _ hi rfl ⟨rfl, c, hc, rfl⟩
      refine ⟨rfl, _, rfl, c, letters, rfl, rfl, _, rfl, ?_⟩
      have et : x.cps.toList.take (i + 1) = x.cps.toList.take i ++ [c] := by
        rw [List.take_add_one, list_of_cps hc]
        rfl
      refine ifB (fun hb => ?_) (fun hb => ?_)
      · refine ⟨_, rfl, _, upd_same, sz5' ?_, ?_⟩
        · rw [List.length_map]
          have := List.length_filter_le (fun c => !decide (c ∈ letters.cps.toList)) (x.cps.toList.take i)
          rw [List.length_take] at this
          have : x.cps.size = x.length := rfl
          omega
        · rw [upd_upd, et, List.filter_append, List.map_append, List.filter_cons, if_pos hb]
          rfl
      · rw [et, List.filter_append, List.filter_cons, if_neg (by rw [hb]; decide), List.filter_nil, List.append_nil]
    · rintro _ rfl
      have e : List.take x.cps.size x.cps.toList = x.cps.toList := List.take_of_length_le (by rw [Array.length_toList]; exact Nat.le_refl _)
      rw [e]
      generalize hl : (x.cps.toList.filter fun c => !decide (c ∈ letters.cps.toList)) = l
      refine ⟨by decide, fun q hq => ?_⟩
      have nDq : D ≠ q := fun z => by rw [← z, upd_same] at hq; cases hq
      have em : (l.map fun c => V.str ⟨#[c]⟩) = (l.map fun c => (⟨#[c]⟩ : Str)).map V.str := by rw [List.map_map]; rfl
      have e1 : (upd (upd H D (.lst (l.map fun c => V.str ⟨#[c]⟩))) q (.lst [])) D = some (.lst ((l.map fun c => (⟨#[c]⟩ : Str)).map V.str)) := by rw [upd_ne nDq, upd_same, em]
      refine ⟨_, _, .lst (.inl e1) (dt_strs _), .lst (ds := []) (.inl upd_same) .nil, plain_strs _, rfl, ?_, ?_⟩
      · show PyData.depthAll _ + 1 ≤ 60
        rw [depth_strs]
        decide
      · have k' := k _ ((same_new (o := .lst (l.map fun c => V.str ⟨#[c]⟩)) hD).trans (same_new (o := .lst []) hq))
        have e2 : isName (.str x) = PyData.eqv (.list ((l.map fun c => (⟨#[c]⟩ : Str)).map PyData.str)) (.list []) := by
          have e3 : isNm x = x.cps.toList.all fun c => decide (c ∈ letters.cps.toList) := by
            unfold isNm
            rw [decide_eq_true (show 1 ≤ x.length by omega), decide_eq_true (show x.length ≤ 8 by omega)]
            rfl
          show isNm x = _
          rw [e3]
          cases l with
          | nil =>
            rw [filter_nil.mp hl]
            rfl
          | cons y l =>
            cases ha : (x.cps.toList.all fun c => decide (c ∈ letters.cps.toList)) with
            | false => rfl
            | true =>
              rw [filter_nil.mpr ha] at hl
              cases hl
        rw [e2] at k'
        exact k'
abbrev s_law_alike : Stmt := top 13
abbrev N_law_alike : List Str := ["_law_found", "_law_due"]
theorem sc_law_alike : FnScope N_law_alike ["_law_found", "_law_due"] (defScope s_law_alike) := ⟨rfl, rfl, rfl, by decide +kernel, rfl, by decide +kernel, by decide +kernel⟩
def spAlike (K : PySem.W.Frag) : Sp := fun vs H Q _ => ∃ v u d, vs = [v, u] ∧ Dt K H v d ∧ Dt K H u d ∧ d.showable = true ∧ d.shown.length ≤ sizeLine ∧ d.depth ≤ 30 ∧ d.plain = true ∧ Q (.bl true) H
mutual
theorem noDict : ∀ {d : PyData}, d.plain = true → d.hasDict = true → False
  | .none, _, h => by cases h
  | .bool _, _, h => by cases h
  | .int _, _, h => by cases h
  | .str _, _, h => by cases h
  | .list ds, h1, h2 => noDictAll (ds := ds) h1 h2
  | .tuple ds, h1, h2 => noDictAll (ds := ds) h1 h2
  | .dict _, h, _ => by cases h
theorem noDictAll : ∀ {ds : List PyData}, PyData.plainAll ds = true → PyData.hasDictAll ds = true → False
  | [], _, h => by cases h
  | d :: ds, h1, h2 => by
    have a := Bool.and_eq_true_iff.mp (show (d.plain && PyData.plainAll ds) = true from h1)
    rcases Bool.or_eq_true_iff.mp (show (d.hasDict || PyData.hasDictAll ds) = true from h2) with b | b
    · exact noDict a.1 b
    · exact noDictAll a.2 b
end
theorem plain_nodict : ∀ d : PyData, d.plain = true → d.hasDict = true → False := by
  intro d h1 h2
  exact noDict h1 h2
theorem ok_law_alike {f : Addr} {fd : FuncData} (F : Fun K "_law_alike" "_law_alike" s_law_alike f fd) (T : Blt mg) : FnG P w K mg base CX0 1 f fd ["_law_found", "_law_due"] (spAlike K) := by
  refine okG F sc_law_alike (fun vs H Q E h => ?_) (fun cdv A outer s H vs Q E hr hG h => ?_)
  · obtain ⟨v, u, d, rfl, _⟩ := h
    rfl
  obtain ⟨v, u, d, rfl, hv, hu, h1, h2, h3, h4, q⟩ := h
  refine wss (ps_ret (pe_and (pe_cmpR (op_eqP hr.units) (pv 0) (pv 1) (by rfl)) (pe_one (pe_cmpR op_eq (pe_callB (call_repr hG hr.units) (by rfl) T.repr (by decide +kernel) (pa_cons (pv 0) pa_nil)) (pe_callB (call_repr hG hr.units) (by rfl) T.repr (by decide +kernel) (pa_cons (pv 1) pa_nil)) (by rfl))))) ?_
  have hm : d.hasDict = true → H sysModules = none ∨ flatD d = true := fun e => (plain_nodict d h4 e).elim
  refine ⟨_, rfl, _, rfl, d, d, hv, hu, h4, h4, by omega, _, rfl, ?_⟩
  rw [SeqAt.eqv_refl_plain d h4]
  refine iteT ⟨_, rfl, _, d, rfl, hv, h1, h2, by omega, hm, _, rfl, _, d, rfl, hu, h1, h2, by omega, hm, rfl, ?_⟩
  rw [decide_eq_true rfl]
  exact q
end
end Kk

namespace Kk
open PySem PySem.Spec PyProof.Rows L2 FA
abbrev s_law_names : Stmt := top 14
abbrev N_law_names : List Str := ["_law_bag_here", "_law_many", "_law_letters", "_law_words", "_law_style", "_law_turn", "_law_base", "_law_at", "_law_k"]
theorem sc_law_names : FnScope N_law_names ["_law_bag_here", "_law_many"] (defScope s_law_names) := ⟨rfl, rfl, rfl, by decide +kernel, rfl, by decide +kernel, by decide +kernel⟩
section
variable {P : Program} {w : World} {K : PySem.W.Frag} {mg : Str → Option Value} {base : Heap}
theorem ok_law_names {f : Addr} {fd : FuncData} (F : Fun K "_law_names" "_law_names" s_law_names f fd) (T : Blt mg) (C : Cl P w K mg base 1 "_law_take" ["_law_bag_here", "_law_many"] spTake) : FnG P w K mg base CX0 2 f fd ["_law_bag_here", "_law_many"] spNames := by
  refine okG F sc_law_names (fun vs H Q E h => ?_) (fun cdv A outer s H vs Q E hr hG h => ?_)
  · obtain ⟨b, c, m, rfl, _⟩ := h
    rfl
  obtain ⟨b, c, m, rfl, hm, bag, k⟩ := h
  refine wss (ps_set (i := 2) sc_law_names.nd rfl (Or.inr rfl) pe_str) ?_
  refine wss (ps_set (i := 3) sc_law_names.nd rfl (Or.inl rfl) pe_str) ?_
  refine wss (ps_set (i := 3) sc_law_names.nd rfl (Or.inl rfl) (pe_split (pe_op op_add_str (pv 3) pe_str) pe_str)) ?_
  refine ⟨_, rfl, _, _, rfl, rfl, by decide +kernel, ⟨_, rfl⟩, _, _, rfl, rfl, by decide +kernel, by decide +kernel, fun pw hpw => ?_⟩
  have s1 : Same H (upd H pw (.lst (words.map V.str))) := same_new hpw
  have bag1 := bag.keep s1
  have npw := bag.neb hpw
  refine wss (ps_asg (pe_tup (pa_cons (pe_cl C hr hG (pa_cons (pv 0) (pa_cons pe_int pa_nil))) (pa_cons (pe_cl C hr hG (pa_cons (pv 0) (pa_cons pe_int pa_nil))) pa_nil))) (pg_tup rfl (pgs_cons (pg_name (i := 4) sc_law_names.nd rfl (Or.inl rfl)) (pgs_cons (pg_name (i := 5) sc_law_names.nd rfl (Or.inr rfl)) pgs_nil)))) ?_
  refine ⟨_, rfl, b, c, 4, rfl, bag1, by decide, by decide +kernel, fun st H2 st0 st1 bag2 but2 => ?_⟩
  refine ⟨_, rfl, b, c, 20, rfl, bag2, by decide, by decide +kernel, fun tu H3 tu0 tu1 bag3 but3 => ?_⟩
  refine ⟨(by show 2 ≤ sizeLine; decide), fun pt hpt => ?_⟩
  refine ⟨pt, _, rfl, SqT.of upd_same, rfl, _, _, rfl, _, _, rfl, rfl, ?_⟩
  have hw3 : H3 pw = some (.lst (words.map V.str)) := by
    rw [but3 pw npw.1, but2 pw npw.1]
    exact upd_same
  have sb3 : Sb b H H3 := (Same.sb s1).trans (but2.sb.trans but3.sb)
  have bag3' := bag3.keep (same_new (o := .tup [.int st, .int tu]) hpt)
  have hw3' : (upd H3 pt (.tup [.int st, .int tu])) pw = some (.lst (words.map V.str)) := same_new hpt _ _ hw3
  have sb3' : Sb b H (upd H3 pt (.tup [.int st, .int tu])) := sb3.trans (Same.sb (same_new hpt))
  generalize upd H3 pt (.tup [.int st, .int tu]) = H3' at *
  refine wss (ps_set (i := 6) sc_law_names.nd rfl (Or.inr rfl) (pe_join pe_str (pe_lc (own := [("_law_k", 8)]) (g := (gName 8)) (by rfl) sc_law_names.nd (pi_range1 (by rfl) T.range (pa_cons (pe_op op_add pe_int (pe_cl C hr hG (pa_cons (pv 0) (pa_cons pe_int pa_nil)))) pa_nil)) (blkOk_by (own := [("_law_k", 8)]) (N := N_law_names) (sc := defScope s_law_names) (by decide +kernel)) (fun _ _ _ _ _ => (pg_name (i := 8) sc_law_names.nd rfl (Or.inl rfl))) (fun _ _ _ _ _ => pts_nil) (fun _ _ _ _ _ => (pe_ix ix_str (pv 2) (pe_cl C hr hG (pa_cons (pv 0) (pa_cons pe_int pa_nil))) (fun _ _ => rfl)))))) ?_
  refine ⟨⟨_, rfl⟩, _, rfl, b, c, 7, rfl, bag3', by decide, by decide +kernel, fun nb H4 nb0 nb1 bag4 but4 => ?_⟩
  refine ⟨_, _, rfl, rfl, _, rfl, by omega, by omega, fun D hD => lc_range (lo := 0) (n := (1 + nb).toNat) (fun i H' => ∃ ls : List Nat, ls.length = i ∧ (∀ z ∈ ls, 97 ≤ z ∧ z ≤ 122) ∧ H' D = some (.lst (ls.map fun z => V.str (txL [z]))) ∧ BagAt H' b c ∧ Sb b H4 H') ?_ ?_ ?_⟩
  · exact ⟨[], rfl, by simp, upd_same, bag4.put (bag4.neb hD), Sb.refl.new hD⟩
  · rintro i H' hi ⟨ls, hl, hz, hD', bag', sb'⟩
    refine ⟨rfl, _, rfl, _, rfl, b, c, 26, rfl, bag', by decide, by decide +kernel, fun r H5 r0 r1 bag5 but5 => ?_⟩
    have nD : D ≠ b := (bag4.neb hD).1
    refine ⟨letters, r, _, rfl, rfl, by decide +kernel, letter_at r0 r1, _, (but5 D nD).trans hD', sz5' ?_, ls ++ [97 + r.toNat], ?_, ?_, ?_, ?_, ?_⟩
    · rw [List.length_map]
      omega
    · rw [List.length_append, hl]
      rfl
    · intro z h
      rcases List.mem_append.mp h with h | h
      · exact hz z h
      · obtain rfl := List.mem_singleton.mp h
        omega
    · rw [upd_same, List.map_append]
      rfl
    · exact bag5.put (bag4.neb hD)
    · exact (sb'.trans but5.sb).new hD
  rintro H5 ⟨ls, hl, hz, hD5, bag5, sb5⟩
  refine ⟨_, D, ls.map fun z => txL [z], rfl, rfl, .inl (SqL.of (by rw [hD5, List.map_map]; rfl)), ?_, ?_⟩
  · rw [sum_ones]
    show ls.length + _ * 0 ≤ 16777216
    omega
  rw [show (ls.map fun z => txL [z]) = (ls.map fun z => [z]).map txL by rw [List.map_map]; rfl, FA.join_nil, flat_one]
  have hll : 1 ≤ ls.length ∧ ls.length ≤ 7 := by omega
  have hw5 : H5 pw = some (.lst (words.map V.str)) := sb5 _ _ ((but4 pw npw.1).trans hw3') npw.1
  have sb5' : Sb b H H5 := sb3'.trans (but4.sb.trans sb5)
  refine wss (ps_set (i := 7) sc_law_names.nd rfl (Or.inr rfl) (pe_cl C hr hG (pa_cons (pv 0) (pa_cons (pe_op op_add (pe_callB call_len_str (by rfl) T.len PySem.boot_len (pa_cons (pv 6) pa_nil)) pe_int) pa_nil)))) ?_
  refine ⟨_, rfl, _, rfl, _, rfl, sz5 (by rw [txL_len]; omega), _, _, rfl, rfl, b, c, _, rfl, bag5, by omega, ?_, fun at_ H6 at0 at1 bag6 but6 => ?_⟩
  · refine Nat.lt_of_le_of_lt (Nat.log2_le_self _) ?_
    rw [txL_len]
    omega
  rw [txL_len] at at1
  have hw6 : H6 pw = some (.lst (words.map V.str)) := (but6 pw npw.1).trans hw5
  have sb6 : Sb b H H6 := sb5'.trans but6.sb
  have hnone : ∀ {p}, H6 p = none → H p = none := fun {p} hp => by
    cases q : H p with
    | none => rfl
    | some o =>
      have := bag6.neb hp
      rw [sb6 _ _ q this.1] at hp
      cases hp
  obtain ⟨a, rfl⟩ : ∃ a : Nat, at_ = (a : Int) := ⟨at_.toNat, (Int.toNat_of_nonneg at0).symm⟩
  obtain ⟨t, rfl⟩ : ∃ t : Nat, tu = (t : Int) := ⟨tu.toNat, (Int.toNat_of_nonneg tu0).symm⟩
  refine wss (ps_if (pt_cmpR op_eq (pv 4) pe_int (by rfl)) pss_w pss_w) ?_
  refine ⟨_, rfl, rfl, _, rfl, ?_⟩
  refine ite2 (fun hs0 => ?_) (fun hs0 => ?_)
  · -- words
    refine wss (ps_ret (pe_slice sl_list (pe_op op_cat (pe_slice sl_list (pv 3) (po_some (pv 5)) po_none) (pe_slice sl_list (pv 3) po_none (po_some (pv 5)))) po_none (po_some (pv 1)))) ?_
    refine ⟨_, rfl, _, rfl, _, rfl, pw, _, rfl, SqL.of hw6, fun p1 hp1 => ?_⟩
    have hw7 := same_new (o := .lst (cutV (words.map V.str) (some (t : Int)) none)) hp1 _ _ hw6
    refine ⟨_, rfl, _, rfl, _, rfl, pw, _, rfl, SqL.of hw7, fun p2 hp2 => ?_⟩
    have n12 : p1 ≠ p2 := fun z => by rw [← z, upd_same] at hp2; cases hp2
    refine ⟨p1, p2, _, _, rfl, rfl, by rw [upd_ne n12, upd_same], upd_same, ?_, fun p3 hp3 => ?_⟩
    · rw [cutV_to, cutV_from (by rw [List.length_map, words_len]; omega), List.length_drop, List.length_take, List.length_map, words_len]
      exact sz5 (by omega)
    refine ⟨_, rfl, _, rfl, p3, _, rfl, SqL.of upd_same, fun p4 hp4 => ?_⟩
    have sA := same_new (o := .lst (cutV (words.map V.str) (some (t : Int)) none)) hp1
    have sB := same_new (o := .lst (cutV (words.map V.str) none (some (t : Int)))) hp2
    have sC := same_new (o := .lst (cutV (words.map V.str) (some (t : Int)) none ++ cutV (words.map V.str) none (some (t : Int)))) hp3
    have sABC := (sA.trans sB).trans sC
    refine k p4 _ _ (names_words (t := t) (m := m) (by omega) hm) (hnone (sABC.free hp4)) (bag6.keep (sABC.trans (same_new hp4))) (sb6.trans (Same.sb (sABC.trans (same_new hp4)))) ?_
    rw [upd_same, cutV_to, cutV_to, cutV_from (by rw [List.length_map, words_len]; omega), List.map_take, List.map_append, List.map_drop, List.map_take]
  · refine wss_end ?_
    refine wss (ps_if (pt_cmpR op_eq (pv 4) pe_int (by rfl)) pss_w pss_w) ?_
    refine ⟨_, rfl, rfl, _, rfl, ?_⟩
    refine ite2 (fun hs1 => ?_) (fun hs1 => ?_)
    · refine wss (ps_ret (pe_lc (own := [("_law_k", 8)]) (g := (gName 8)) (by rfl) sc_law_names.nd (pi_range1 (by rfl) T.range (pa_cons (pv 1) pa_nil)) (blkOk_by (own := [("_law_k", 8)]) (N := N_law_names) (sc := defScope s_law_names) (by decide +kernel)) (fun _ _ _ _ _ => (pg_name (i := 8) sc_law_names.nd rfl (Or.inl rfl))) (fun _ _ _ _ _ => pts_nil) (fun _ _ _ _ _ => (pe_ix ix_str (pv 2) (pe_op op_mod (pe_callTy call_int1 (by rfl) T.int (by decide +kernel) (pa_cons (pe_op op_add (pv 5) (pe_op op_mul pe_int (pv 8))) pa_nil)) pe_int) (fun _ _ => rfl))))) ?_
      refine ⟨_, rfl, _, rfl, by omega, by omega, fun D1 hD1 => lc_range (lo := 0) (n := (m : Int).toNat) (fun i H' => H' = upd H6 D1 (.lst (((List.range i).map fun j => txL [FA.lt t j]).map V.str))) rfl ?_ ?_⟩
      · rintro i _ hi rfl
        refine ⟨rfl, _, rfl, _, rfl, _, rfl, _, _, rfl, rfl, .inl ⟨by decide, by decide⟩, _, _, rfl, rfl, .inl ⟨_, rfl, _, _, rfl, rfl, (by show (0 : Int) < 26; decide), letters, _, _, rfl, rfl, by decide +kernel, letter_at (Int.emod_nonneg _ (by decide)) (Int.emod_lt_of_pos _ (by decide)), _, upd_same, sz5' ?_, ?_⟩⟩
        · rw [List.length_map, List.length_map, List.length_range]
          omega
        · rw [upd_upd, List.range_succ, List.map_append, List.map_append]
          have e : 97 + (((t : Int) + 3 * (0 + (i : Int))) % 26).toNat = FA.lt t i := by
            unfold FA.lt
            omega
          rw [e]
          rfl
      · rintro _ rfl
        refine k D1 _ _ (names_one (t := t) (m := m) hm) (hnone hD1) (bag6.put (bag6.neb hD1)) (sb6.trans (Same.sb (same_new hD1))) ?_
        rw [upd_same, Int.toNat_natCast]
    · refine wss_end ?_
      refine wss (ps_ret (pe_lc (own := [("_law_k", 8)]) (g := (gName 8)) (by rfl) sc_law_names.nd (pi_range1 (by rfl) T.range (pa_cons (pv 1) pa_nil)) (blkOk_by (own := [("_law_k", 8)]) (N := N_law_names) (sc := defScope s_law_names) (by decide +kernel)) (fun _ _ _ _ _ => (pg_name (i := 8) sc_law_names.nd rfl (Or.inl rfl))) (fun _ _ _ _ _ => pts_nil) (fun _ _ _ _ _ => (pe_op op_add_str (pe_op op_add_str (pe_slice sl_str (pv 6) po_none (po_some (pv 7))) (pe_ix ix_str (pv 2) (pe_op op_mod (pe_callTy call_int1 (by rfl) T.int (by decide +kernel) (pa_cons (pe_op op_add (pv 5) (pe_op op_mul pe_int (pv 8))) pa_nil)) pe_int) (fun _ _ => rfl))) (pe_slice sl_str (pv 6) (po_some (pv 7)) po_none))))) ?_
      refine ⟨_, rfl, _, rfl, by omega, by omega, fun D1 hD1 => lc_range (lo := 0) (n := (m : Int).toNat) (fun i H' => H' = upd H6 D1 (.lst (((List.range i).map fun j => txL (ls.take a ++ [FA.lt t j] ++ ls.drop a)).map V.str))) rfl ?_ ?_⟩
      · rintro i _ hi rfl
        have hz1 : (txL ls).length ≤ sizeLine := sz5 (by rw [txL_len]; omega)
        refine ⟨rfl, _, rfl, _, rfl, _, rfl, _, rfl, hz1, _, rfl, _, rfl, _, rfl, _, _, rfl, rfl, .inl ⟨by decide, by decide⟩, _, _, rfl, rfl, .inl ⟨_, rfl, _, _, rfl, rfl, (by show (0 : Int) < 26; decide), letters, _, _, rfl, rfl, by decide +kernel, letter_at (Int.emod_nonneg _ (by decide)) (Int.emod_lt_of_pos _ (by decide)), _, _, rfl, rfl, sz5 ?_, _, rfl, _, rfl, _, rfl, _, rfl, hz1, _, _, rfl, rfl, sz5 ?_, _, upd_same, sz5' ?_, ?_⟩⟩
        all_goals (try rw [cutS_to (show a ≤ ls.length by omega)])
        all_goals (try rw [cutS_from (show a ≤ ls.length by omega)])
        all_goals (try rw [show (⟨#[97 + (((t : Int) + 3 * (0 + (i : Int))) % 26).toNat]⟩ : Str) = txL [FA.lt t i] from congrArg (fun z => txL [z]) (by unfold FA.lt; omega)])
        · rw [txL_len, txL_len, List.length_take, List.length_singleton]
          omega
        · rw [txL_app, txL_len, txL_len, List.length_append, List.length_take, List.length_singleton, List.length_drop]
          omega
        · rw [List.length_map, List.length_map, List.length_range]
          omega
        · rw [upd_upd, txL_app, txL_app, List.range_succ, List.map_append, List.map_append]
          rfl
      · rintro _ rfl
        refine k D1 _ _ (names_put (t := t) (a := a) (m := m) hll hz hm) (hnone hD1) (bag6.put (bag6.neb hD1)) (sb6.trans (Same.sb (same_new hD1))) ?_
        rw [upd_same, Int.toNat_natCast]
end
end Kk

namespace Kk
open PySem PySem.Spec PyProof.Rows L2 FA
abbrev s_law_odd : Stmt := top 15
abbrev N_law_odd : List Str := ["_law_bag_here", "_law_name", "_law_wide", "_law_plain"]
theorem sc_law_odd : FnScope N_law_odd ["_law_bag_here", "_law_name"] (defScope s_law_odd) := ⟨rfl, rfl, rfl, by decide +kernel, rfl, by decide +kernel, by decide +kernel⟩
section
variable {P : Program} {w : World} {K : PySem.W.Frag} {mg : Str → Option Value} {base : Heap}
theorem ok_law_odd {f : Addr} {fd : FuncData} (F : Fun K "_law_odd" "_law_odd" s_law_odd f fd) (T : Blt mg) (C : Cl P w K mg base 1 "_law_take" ["_law_bag_here", "_law_many"] spTake) : FnG P w K mg base CX0 2 f fd ["_law_bag_here", "_law_name"] (spOdd K) := by
  refine okG F sc_law_odd (fun vs H Q E h => ?_) (fun cdv A outer s H vs Q E hr hG h => ?_)
  · obtain ⟨b, c, m, rfl, _⟩ := h
    rfl
  obtain ⟨b, c, x, rfl, hx, bag, k⟩ := h
  refine wss (ps_set (i := 2) sc_law_odd.nd rfl (Or.inl rfl) (pe_callTy call_int_str (by rfl) T.int (by decide +kernel) (pa_cons (pe_op op_add_str pe_str (pe_op op_mul_sign pe_str (pe_cl C hr hG (pa_cons (pv 0) (pa_cons pe_int pa_nil))))) pa_nil))) ?_
  refine ⟨_, rfl, b, c, 40, rfl, bag, by decide, by decide +kernel, fun r H1 r0 r1 bag1 but1 => ?_⟩
  obtain ⟨n, rfl⟩ : ∃ n : Nat, r = (n : Int) := ⟨r.toNat, (Int.toNat_of_nonneg r0).symm⟩
  refine ⟨48, n, rfl, rfl, by omega, txL [49], _, rfl, rfl, sz5 ?_, _, (10 : Int) ^ n, rfl, ?_, ?_, ?_⟩
  · rw [txL_len, txL_len, List.length_replicate]
    show 1 + n ≤ 100000
    omega
  · rw [txL_app]
    exact int_ten n (by omega)
  · rw [txL_app, txL_len]
    show (49 :: List.replicate n 48).length ≤ 640
    rw [List.length_cons, List.length_replicate]
    omega
  generalize hw : (10 : Int) ^ n = W
  refine wss (ps_set (i := 3) sc_law_odd.nd rfl (Or.inl rfl) (pe_lst (pa_cons pe_int (pa_cons pe_int (pa_cons (pe_un un_neg pe_int) (pa_cons (pv 2) (pa_cons (pe_un un_neg (pv 2)) (pa_cons pe_bl (pa_cons pe_bl (pa_cons pe_non (pa_cons pe_str (pa_cons pe_str (pa_cons (pv 1) (pa_cons (pe_op op_add_str (pv 1) pe_str) (pa_cons pe_str pa_nil))))))))))))))) ?_
  refine ⟨_, rfl, _, rfl, _, rfl, _, rfl, _, rfl, _, rfl, _, _, rfl, rfl, sz5 ?_, (by show 13 ≤ sizeLine; decide), fun pl hpl => ?_⟩
  · show x.length + 1 ≤ 100000
    omega
  refine wss (ps_aug (i := 3) sc_law_odd.nd rfl (Or.inl rfl) (pe_lst (pa_cons pe_str (pa_cons pe_str (pa_cons pe_str (pa_cons pe_str pa_nil))))) iop_ext) ?_
  refine ⟨_, rfl, (by show 4 ≤ sizeLine; decide), fun p1 hp1 => ?_⟩
  have n1 : pl ≠ p1 := fun z => by rw [← z, upd_same] at hp1; cases hp1
  refine ⟨pl, p1, _, _, rfl, rfl, by rw [upd_ne n1, upd_same], upd_same, sz5 (by show 13 + 4 ≤ 100000; omega), ?_⟩
  have bag2 : BagAt (upd (upd H1 pl (.lst [.int 0, .int 1, .int (-1), .int W, .int (-W), .bl true, .bl false, .non, .str "", .str "a", .str x, .str (x ++ "z"), .str "abcdefgh"])) p1 (.lst [.str "abcdefghi", .str "A", .str "a1", .str "a b"])) b c := (bag1.keep (same_new hpl)).keep (same_new hp1)
  have sb2 : Sb b H (upd (upd H1 pl (.lst [.int 0, .int 1, .int (-1), .int W, .int (-W), .bl true, .bl false, .non, .str "", .str "a", .str x, .str (x ++ "z"), .str "abcdefgh"])) p1 (.lst [.str "abcdefghi", .str "A", .str "a1", .str "a b"])) := but1.sb.trans (Same.sb ((same_new hpl).trans (same_new hp1)))
  have npl := bag1.neb hpl
  have hnl : H pl = none := (but1 pl npl.1).symm.trans hpl
  have bag3 := bag2.put (o := .lst ([.int 0, .int 1, .int (-1), .int W, .int (-W), .bl true, .bl false, .non, .str "", .str "a", .str x, .str (x ++ "z"), .str "abcdefgh"] ++ [.str "abcdefghi", .str "A", .str "a1", .str "a b"])) npl
  have sb3 := sb2.new (p := pl) (o := .lst ([.int 0, .int 1, .int (-1), .int W, .int (-W), .bl true, .bl false, .non, .str "", .str "a", .str x, .str (x ++ "z"), .str "abcdefgh"] ++ [.str "abcdefghi", .str "A", .str "a1", .str "a b"])) hnl
  have el : (upd (upd (upd H1 pl (.lst [.int 0, .int 1, .int (-1), .int W, .int (-W), .bl true, .bl false, .non, .str "", .str "a", .str x, .str (x ++ "z"), .str "abcdefgh"])) p1 (.lst [.str "abcdefghi", .str "A", .str "a1", .str "a b"])) pl (.lst ([.int 0, .int 1, .int (-1), .int W, .int (-W), .bl true, .bl false, .non, .str "", .str "a", .str x, .str (x ++ "z"), .str "abcdefgh"] ++ [.str "abcdefghi", .str "A", .str "a1", .str "a b"]))) pl = _ := upd_same
  refine wss (ps_aug (i := 3) sc_law_odd.nd rfl (Or.inl rfl) (pe_lst (pa_cons pe_str (pa_cons pe_str (pa_cons pe_str (pa_cons pe_str (pa_cons (pe_lst pa_nil) (pa_cons (pe_tup pa_nil) (pa_cons pe_dnewK (pa_cons (pe_lst (pa_cons pe_int pa_nil)) (pa_cons (pe_tup (pa_cons pe_int pa_nil)) (pa_cons (pe_tup (pa_cons (pv 1) pa_nil)) (pa_cons (pe_disp (pps_cons (pv 1) pe_int pps_nil) (by rfl) (by rfl) (fun z => by cases z) (by decide)) (pa_cons (pe_lst (pa_cons (pv 1) pa_nil)) (pa_cons (pe_tup (pa_cons pe_str (pa_cons pe_str (pa_cons pe_int pa_nil)))) pa_nil)))))))))))))) iop_ext) ?_
  refine ⟨_, rfl, (by show 0 ≤ sizeLine; decide), ?_⟩
  generalize upd (upd (upd H1 pl _) p1 _) pl _ = H3 at bag3 sb3 el ⊢
  intro p2 hp2
  have ep2 := (upd_same : upd H3 p2 (.lst []) p2 = _)
  have s4 := same_new (o := .lst []) hp2
  refine ⟨(by show 0 ≤ sizeLine; decide), ?_⟩
  generalize upd H3 p2 (.lst []) = H4 at ep2 s4 ⊢
  intro p3 hp3
  have ep3 := (upd_same : upd H4 p3 (.tup []) p3 = _)
  have s5 := same_new (o := .tup []) hp3
  generalize upd H4 p3 (.tup []) = H5 at ep3 s5 ⊢
  intro p4 hp4
  have ep4 := (upd_same : upd H5 p4 (.dK []) p4 = _)
  have s6 := same_new (o := .dK []) hp4
  refine ⟨(by show 1 ≤ sizeLine; decide), ?_⟩
  generalize upd H5 p4 (.dK []) = H6 at ep4 s6 ⊢
  intro p5 hp5
  have ep5 := (upd_same : upd H6 p5 (.lst [.int 1]) p5 = _)
  have s7 := same_new (o := .lst [.int 1]) hp5
  refine ⟨(by show 1 ≤ sizeLine; decide), ?_⟩
  generalize upd H6 p5 (.lst [.int 1]) = H7 at ep5 s7 ⊢
  intro p6 hp6
  have ep6 := (upd_same : upd H7 p6 (.tup [.int 0]) p6 = _)
  have s8 := same_new (o := .tup [.int 0]) hp6
  refine ⟨_, rfl, (by show 1 ≤ sizeLine; decide), ?_⟩
  generalize upd H7 p6 (.tup [.int 0]) = H8 at ep6 s8 ⊢
  intro p7 hp7
  have ep7 := (upd_same : upd H8 p7 (.tup [.str x]) p7 = _)
  have s9 := same_new (o := .tup [.str x]) hp7
  generalize upd H8 p7 (.tup [.str x]) = H9 at ep7 s9 ⊢
  intro p8 hp8
  refine ⟨_, rfl, upd_same, [(Sum.inr x, .int 1)], rfl, (by show 1 ≤ 15; decide), ?_⟩
  refine ⟨_, rfl, (by show 1 ≤ sizeLine; decide), ?_⟩
  rw [upd_upd]
  have ep8 := (upd_same : upd H9 p8 (.dK (mergeK [] [(Sum.inr x, .int 1)])) p8 = _)
  have s10 := same_new (o := .dK (mergeK [] [(Sum.inr x, .int 1)])) hp8
  generalize upd H9 p8 (.dK (mergeK [] [(Sum.inr x, .int 1)])) = H10 at ep8 s10 ⊢
  intro p9 hp9
  have ep9 := (upd_same : upd H10 p9 (.lst [.str x]) p9 = _)
  have s11 := same_new (o := .lst [.str x]) hp9
  refine ⟨(by show 3 ≤ sizeLine; decide), ?_⟩
  generalize upd H10 p9 (.lst [.str x]) = H11 at ep9 s11 ⊢
  intro p10 hp10
  have ep10 := (upd_same : upd H11 p10 (.tup [.str "", .str "", .int 0]) p10 = _)
  have s12 := same_new (o := .tup [.str "", .str "", .int 0]) hp10
  refine ⟨(by show 13 ≤ sizeLine; decide), ?_⟩
  generalize upd H11 p10 (.tup [.str "", .str "", .int 0]) = H12 at ep10 s12 ⊢
  intro p11 hp11
  have S12 : Same H12 H12 := Same.refl H12
  have S11 : Same H11 H12 := s12.trans S12
  have S10 : Same H10 H12 := s11.trans S11
  have S9 : Same H9 H12 := s10.trans S10
  have S8 : Same H8 H12 := s9.trans S9
  have S7 : Same H7 H12 := s8.trans S8
  have S6 : Same H6 H12 := s7.trans S7
  have S5 : Same H5 H12 := s6.trans S6
  have S4 : Same H4 H12 := s5.trans S5
  have S3 : Same H3 H12 := s4.trans S4
  have U3 : Same H3 H3 := Same.refl H3
  have U4 : Same H3 H4 := U3.trans s4
  have U5 : Same H3 H5 := U4.trans s5
  have U6 : Same H3 H6 := U5.trans s6
  have U7 : Same H3 H7 := U6.trans s7
  have U8 : Same H3 H8 := U7.trans s8
  have U9 : Same H3 H9 := U8.trans s9
  have U10 : Same H3 H10 := U9.trans s10
  have U11 : Same H3 H11 := U10.trans s11
  have el12 := S3 _ _ el
  have npl11 : pl ≠ p11 := ne_of_none el12 hp11
  refine ⟨pl, p11, _, _, rfl, rfl, by rw [upd_ne npl11]; exact el12, upd_same, sz5 (by show 17 + 13 ≤ 100000; omega), ?_⟩
  have bag12 := (bag3.keep S3).keep (same_new (o := .lst [.str "plain", .str "high", .str "low", .str "Plain", .ref p2, .ref p3, .ref p4, .ref p5, .ref p6, .ref p7, .ref p8, .ref p9, .ref p10]) hp11)
  have bagF := bag12.put (o := .lst ([.int 0, .int 1, .int (-1), .int W, .int (-W), .bl true, .bl false, .non, .str "", .str "a", .str x, .str (x ++ "z"), .str "abcdefgh"] ++ [.str "abcdefghi", .str "A", .str "a1", .str "a b"] ++ [.str "plain", .str "high", .str "low", .str "Plain", .ref p2, .ref p3, .ref p4, .ref p5, .ref p6, .ref p7, .ref p8, .ref p9, .ref p10])) npl
  have sbF := (sb3.trans (Same.sb (S3.trans (same_new (o := .lst [.str "plain", .str "high", .str "low", .str "Plain", .ref p2, .ref p3, .ref p4, .ref p5, .ref p6, .ref p7, .ref p8, .ref p9, .ref p10]) hp11)))).new (p := pl) (o := .lst ([.int 0, .int 1, .int (-1), .int W, .int (-W), .bl true, .bl false, .non, .str "", .str "a", .str x, .str (x ++ "z"), .str "abcdefgh"] ++ [.str "abcdefghi", .str "A", .str "a1", .str "a b"] ++ [.str "plain", .str "high", .str "low", .str "Plain", .ref p2, .ref p3, .ref p4, .ref p5, .ref p6, .ref p7, .ref p8, .ref p9, .ref p10])) hnl
  have elF : (upd (upd H12 p11 (.lst [.str "plain", .str "high", .str "low", .str "Plain", .ref p2, .ref p3, .ref p4, .ref p5, .ref p6, .ref p7, .ref p8, .ref p9, .ref p10])) pl (.lst ([.int 0, .int 1, .int (-1), .int W, .int (-W), .bl true, .bl false, .non, .str "", .str "a", .str x, .str (x ++ "z"), .str "abcdefgh"] ++ [.str "abcdefghi", .str "A", .str "a1", .str "a b"] ++ [.str "plain", .str "high", .str "low", .str "Plain", .ref p2, .ref p3, .ref p4, .ref p5, .ref p6, .ref p7, .ref p8, .ref p9, .ref p10]))) pl = _ := upd_same
  have qp2 : Hb b (upd (upd H12 p11 (.lst [.str "plain", .str "high", .str "low", .str "Plain", .ref p2, .ref p3, .ref p4, .ref p5, .ref p6, .ref p7, .ref p8, .ref p9, .ref p10])) pl (.lst ([.int 0, .int 1, .int (-1), .int W, .int (-W), .bl true, .bl false, .non, .str "", .str "a", .str x, .str (x ++ "z"), .str "abcdefgh"] ++ [.str "abcdefghi", .str "A", .str "a1", .str "a b"] ++ [.str "plain", .str "high", .str "low", .str "Plain", .ref p2, .ref p3, .ref p4, .ref p5, .ref p6, .ref p7, .ref p8, .ref p9, .ref p10]))) p2 = some (.lst []) := by
    rw [hb_ne ((bag3.keep U3).neb hp2).1, upd_ne (ne_of_none (U3 _ _ el) hp2).symm, upd_ne (ne_of_none (S4 _ _ ep2) hp11)]
    exact S4 _ _ ep2
  have qp3 : Hb b (upd (upd H12 p11 (.lst [.str "plain", .str "high", .str "low", .str "Plain", .ref p2, .ref p3, .ref p4, .ref p5, .ref p6, .ref p7, .ref p8, .ref p9, .ref p10])) pl (.lst ([.int 0, .int 1, .int (-1), .int W, .int (-W), .bl true, .bl false, .non, .str "", .str "a", .str x, .str (x ++ "z"), .str "abcdefgh"] ++ [.str "abcdefghi", .str "A", .str "a1", .str "a b"] ++ [.str "plain", .str "high", .str "low", .str "Plain", .ref p2, .ref p3, .ref p4, .ref p5, .ref p6, .ref p7, .ref p8, .ref p9, .ref p10]))) p3 = some (.tup []) := by
    rw [hb_ne ((bag3.keep U4).neb hp3).1, upd_ne (ne_of_none (U4 _ _ el) hp3).symm, upd_ne (ne_of_none (S5 _ _ ep3) hp11)]
    exact S5 _ _ ep3
  have qp4 : Hb b (upd (upd H12 p11 (.lst [.str "plain", .str "high", .str "low", .str "Plain", .ref p2, .ref p3, .ref p4, .ref p5, .ref p6, .ref p7, .ref p8, .ref p9, .ref p10])) pl (.lst ([.int 0, .int 1, .int (-1), .int W, .int (-W), .bl true, .bl false, .non, .str "", .str "a", .str x, .str (x ++ "z"), .str "abcdefgh"] ++ [.str "abcdefghi", .str "A", .str "a1", .str "a b"] ++ [.str "plain", .str "high", .str "low", .str "Plain", .ref p2, .ref p3, .ref p4, .ref p5, .ref p6, .ref p7, .ref p8, .ref p9, .ref p10]))) p4 = some (.dK []) := by
    rw [hb_ne ((bag3.keep U5).neb hp4).1, upd_ne (ne_of_none (U5 _ _ el) hp4).symm, upd_ne (ne_of_none (S6 _ _ ep4) hp11)]
    exact S6 _ _ ep4
  have qp5 : Hb b (upd (upd H12 p11 (.lst [.str "plain", .str "high", .str "low", .str "Plain", .ref p2, .ref p3, .ref p4, .ref p5, .ref p6, .ref p7, .ref p8, .ref p9, .ref p10])) pl (.lst ([.int 0, .int 1, .int (-1), .int W, .int (-W), .bl true, .bl false, .non, .str "", .str "a", .str x, .str (x ++ "z"), .str "abcdefgh"] ++ [.str "abcdefghi", .str "A", .str "a1", .str "a b"] ++ [.str "plain", .str "high", .str "low", .str "Plain", .ref p2, .ref p3, .ref p4, .ref p5, .ref p6, .ref p7, .ref p8, .ref p9, .ref p10]))) p5 = some (.lst [.int 1]) := by
    rw [hb_ne ((bag3.keep U6).neb hp5).1, upd_ne (ne_of_none (U6 _ _ el) hp5).symm, upd_ne (ne_of_none (S7 _ _ ep5) hp11)]
    exact S7 _ _ ep5
  have qp6 : Hb b (upd (upd H12 p11 (.lst [.str "plain", .str "high", .str "low", .str "Plain", .ref p2, .ref p3, .ref p4, .ref p5, .ref p6, .ref p7, .ref p8, .ref p9, .ref p10])) pl (.lst ([.int 0, .int 1, .int (-1), .int W, .int (-W), .bl true, .bl false, .non, .str "", .str "a", .str x, .str (x ++ "z"), .str "abcdefgh"] ++ [.str "abcdefghi", .str "A", .str "a1", .str "a b"] ++ [.str "plain", .str "high", .str "low", .str "Plain", .ref p2, .ref p3, .ref p4, .ref p5, .ref p6, .ref p7, .ref p8, .ref p9, .ref p10]))) p6 = some (.tup [.int 0]) := by
    rw [hb_ne ((bag3.keep U7).neb hp6).1, upd_ne (ne_of_none (U7 _ _ el) hp6).symm, upd_ne (ne_of_none (S8 _ _ ep6) hp11)]
    exact S8 _ _ ep6
  have qp7 : Hb b (upd (upd H12 p11 (.lst [.str "plain", .str "high", .str "low", .str "Plain", .ref p2, .ref p3, .ref p4, .ref p5, .ref p6, .ref p7, .ref p8, .ref p9, .ref p10])) pl (.lst ([.int 0, .int 1, .int (-1), .int W, .int (-W), .bl true, .bl false, .non, .str "", .str "a", .str x, .str (x ++ "z"), .str "abcdefgh"] ++ [.str "abcdefghi", .str "A", .str "a1", .str "a b"] ++ [.str "plain", .str "high", .str "low", .str "Plain", .ref p2, .ref p3, .ref p4, .ref p5, .ref p6, .ref p7, .ref p8, .ref p9, .ref p10]))) p7 = some (.tup [.str x]) := by
    rw [hb_ne ((bag3.keep U8).neb hp7).1, upd_ne (ne_of_none (U8 _ _ el) hp7).symm, upd_ne (ne_of_none (S9 _ _ ep7) hp11)]
    exact S9 _ _ ep7
  have qp8 : Hb b (upd (upd H12 p11 (.lst [.str "plain", .str "high", .str "low", .str "Plain", .ref p2, .ref p3, .ref p4, .ref p5, .ref p6, .ref p7, .ref p8, .ref p9, .ref p10])) pl (.lst ([.int 0, .int 1, .int (-1), .int W, .int (-W), .bl true, .bl false, .non, .str "", .str "a", .str x, .str (x ++ "z"), .str "abcdefgh"] ++ [.str "abcdefghi", .str "A", .str "a1", .str "a b"] ++ [.str "plain", .str "high", .str "low", .str "Plain", .ref p2, .ref p3, .ref p4, .ref p5, .ref p6, .ref p7, .ref p8, .ref p9, .ref p10]))) p8 = some (.dK (mergeK [] [(Sum.inr x, .int 1)])) := by
    rw [hb_ne ((bag3.keep U9).neb hp8).1, upd_ne (ne_of_none (U9 _ _ el) hp8).symm, upd_ne (ne_of_none (S10 _ _ ep8) hp11)]
    exact S10 _ _ ep8
  have qp9 : Hb b (upd (upd H12 p11 (.lst [.str "plain", .str "high", .str "low", .str "Plain", .ref p2, .ref p3, .ref p4, .ref p5, .ref p6, .ref p7, .ref p8, .ref p9, .ref p10])) pl (.lst ([.int 0, .int 1, .int (-1), .int W, .int (-W), .bl true, .bl false, .non, .str "", .str "a", .str x, .str (x ++ "z"), .str "abcdefgh"] ++ [.str "abcdefghi", .str "A", .str "a1", .str "a b"] ++ [.str "plain", .str "high", .str "low", .str "Plain", .ref p2, .ref p3, .ref p4, .ref p5, .ref p6, .ref p7, .ref p8, .ref p9, .ref p10]))) p9 = some (.lst [.str x]) := by
    rw [hb_ne ((bag3.keep U10).neb hp9).1, upd_ne (ne_of_none (U10 _ _ el) hp9).symm, upd_ne (ne_of_none (S11 _ _ ep9) hp11)]
    exact S11 _ _ ep9
  have qp10 : Hb b (upd (upd H12 p11 (.lst [.str "plain", .str "high", .str "low", .str "Plain", .ref p2, .ref p3, .ref p4, .ref p5, .ref p6, .ref p7, .ref p8, .ref p9, .ref p10])) pl (.lst ([.int 0, .int 1, .int (-1), .int W, .int (-W), .bl true, .bl false, .non, .str "", .str "a", .str x, .str (x ++ "z"), .str "abcdefgh"] ++ [.str "abcdefghi", .str "A", .str "a1", .str "a b"] ++ [.str "plain", .str "high", .str "low", .str "Plain", .ref p2, .ref p3, .ref p4, .ref p5, .ref p6, .ref p7, .ref p8, .ref p9, .ref p10]))) p10 = some (.tup [.str "", .str "", .int 0]) := by
    rw [hb_ne ((bag3.keep U11).neb hp10).1, upd_ne (ne_of_none (U11 _ _ el) hp10).symm, upd_ne (ne_of_none (S12 _ _ ep10) hp11)]
    exact S12 _ _ ep10
  have all : DtAll K (Hb b (upd (upd H12 p11 (.lst [.str "plain", .str "high", .str "low", .str "Plain", .ref p2, .ref p3, .ref p4, .ref p5, .ref p6, .ref p7, .ref p8, .ref p9, .ref p10])) pl (.lst ([.int 0, .int 1, .int (-1), .int W, .int (-W), .bl true, .bl false, .non, .str "", .str "a", .str x, .str (x ++ "z"), .str "abcdefgh"] ++ [.str "abcdefghi", .str "A", .str "a1", .str "a b"] ++ [.str "plain", .str "high", .str "low", .str "Plain", .ref p2, .ref p3, .ref p4, .ref p5, .ref p6, .ref p7, .ref p8, .ref p9, .ref p10])))) ([.int 0, .int 1, .int (-1), .int W, .int (-W), .bl true, .bl false, .non, .str "", .str "a", .str x, .str (x ++ "z"), .str "abcdefgh"] ++ [.str "abcdefghi", .str "A", .str "a1", .str "a b"] ++ [.str "plain", .str "high", .str "low", .str "Plain", .ref p2, .ref p3, .ref p4, .ref p5, .ref p6, .ref p7, .ref p8, .ref p9, .ref p10]) (oddMenu x n) := by
    unfold oddMenu
    rw [hw]
    refine DtAll.app (DtAll.app ?_ ?_) ?_
    · exact .cons (.int _) (.cons (.int _) (.cons (.int _) (.cons (.int _) (.cons (.int _) (.cons (.bl _) (.cons (.bl _) (.cons .non (.cons (.str _) (.cons (.str _) (.cons (.str _) (.cons (.str _) (.cons (.str _) .nil))))))))))))
    · exact .cons (.str _) (.cons (.str _) (.cons (.str _) (.cons (.str _) .nil)))
    · exact .cons (.str _) (.cons (.str _) (.cons (.str _) (.cons (.str _) (.cons (.lst (.inl qp2) .nil) (.cons (.tup (SqT.of qp3) .nil) (.cons (.dK (ds := []) (.inl qp4) .nil) (.cons (.lst (.inl qp5) (.cons (.int _) .nil)) (.cons (.tup (SqT.of qp6) (.cons (.int _) .nil)) (.cons (.tup (SqT.of qp7) (.cons (.str _) .nil)) (.cons (.dK (ds := [.int 1]) (.inl qp8) (.cons (.int _) .nil)) (.cons (.lst (.inl qp9) (.cons (.str _) .nil)) (.cons (.tup (SqT.of qp10) (.cons (.str _) (.cons (.str _) (.cons (.int _) .nil)))) .nil))))))))))))
  generalize hL : ([.int 0, .int 1, .int (-1), .int W, .int (-W), .bl true, .bl false, .non, .str "", .str "a", .str x, .str (x ++ "z"), .str "abcdefgh"] ++ [.str "abcdefghi", .str "A", .str "a1", .str "a b"] ++ [.str "plain", .str "high", .str "low", .str "Plain", .ref p2, .ref p3, .ref p4, .ref p5, .ref p6, .ref p7, .ref p8, .ref p9, .ref p10] : List V) = L at bagF sbF elF all ⊢
  have hlen : L.length = 30 := by rw [← hL]; rfl
  generalize upd (upd H12 p11 _) pl _ = HF at bagF sbF elF all ⊢
  refine wss (ps_ret (pe_ix ix_list (pv 3) (pe_cl C hr hG (pa_cons (pv 0) (pa_cons (pe_callB call_len_seq (by rfl) T.len PySem.boot_len (pa_cons (pv 3) pa_nil)) pa_nil))) (fun _ _ => rfl))) ?_
  refine ⟨_, rfl, _, rfl, _, rfl, pl, L, rfl, .inl (SqL.of elF), b, c, _, rfl, bagF, by omega, by rw [hlen]; decide +kernel, fun r HG r0' r1' bagG butG => ?_⟩
  have hr30 : r.toNat < (oddMenu x n).length := by
    show r.toNat < 30
    omega
  obtain ⟨v, d, h1, h2, h3⟩ := all.at hr30
  refine ⟨pl, L, r, v, rfl, rfl, SqL.of ((butG pl npl.1).trans elF), ?_, ?_⟩
  · have := atI_nat h1
    rwa [Int.toNat_of_nonneg r0'] at this
  · exact k v d n HG (by omega) (List.mem_of_getElem? h2) (h3.keep butG.sb.same) bagG (sbF.trans butG.sb)
end
end Kk

namespace Kk
open PySem PySem.Spec PyProof.Rows L2 FA
/-- a short text of plain signs -/
structure Sml (n : Nat) (z : Str) : Prop where
  len : z.length ≤ n
  asc : ∀ c ∈ z.cps.toList, c < 128
theorem Sml.app {m n : Nat} {y z : Str} (h : Sml m y) (k : Sml n z) : Sml (m + n) (y ++ z) := by
  rw [txL_of y, txL_of z, txL_app]
  refine ⟨?_, fun c hc => ?_⟩
  · rw [txL_len, List.length_append]
    have h1 : y.cps.toList.length ≤ m := by
      have := h.len
      rw [txL_of y, txL_len] at this
      exact this
    have h2 : z.cps.toList.length ≤ n := by
      have := k.len
      rw [txL_of z, txL_len] at this
      exact this
    omega
  · rw [txL_cps] at hc
    rcases List.mem_append.mp hc with q | q
    · exact h.asc c q
    · exact k.asc c q
theorem Sml.cut {n : Nat} {z : Str} (h : Sml n z) (lo hi : Option Int) : Sml n (cutS z lo hi) := by
  refine ⟨Nat.le_trans (cutS_length z lo hi) h.len, fun c hc => ?_⟩
  unfold cutS at hc
  exact h.asc c (List.mem_of_mem_drop (List.mem_of_mem_take hc))
theorem Sml.one {c : Nat} (h : c < 128) : Sml 1 (⟨#[c]⟩ : Str) := ⟨Nat.le_refl _, fun d hd => by
  have : d = c := by simpa using hd
  omega⟩
theorem Sml.mono {m n : Nat} {z : Str} (h : Sml m z) (k : m ≤ n) : Sml n z := ⟨Nat.le_trans h.len k, h.asc⟩
theorem at_some {z : Str} {r : Int} (h0 : 0 ≤ r) (h1 : r < z.length) : ∃ c, atI z.cps.toList r = some c ∧ c ∈ z.cps.toList := by
  have hl : r.toNat < z.cps.toList.length := by
    show r.toNat < z.cps.toList.length
    rw [Array.length_toList]
    have : z.length = z.cps.size := rfl
    omega
  have e := atI_nat (xs := z.cps.toList) (j := r.toNat) (v := z.cps.toList[r.toNat]) (List.getElem?_eq_getElem hl)
  rw [Int.toNat_of_nonneg h0] at e
  exact ⟨_, e, List.getElem_mem hl⟩
theorem small_ok : Sml 200 letters ∧ 0 < letters.length := by
  refine ⟨⟨by decide +kernel, by decide +kernel⟩, by decide +kernel⟩
def spText : Sp := fun vs H Q _ => ∃ (b c : Addr), vs = [.ref b] ∧ BagAt H b c ∧ ∀ (z : Str) (H' : Hp), Sml 10 z → BagAt H' b c → Sb b H H' → Q (.str z) H'
abbrev s_law_text : Stmt := top 17
abbrev N_law_text : List Str := ["_law_bag_here", "_law_small", "_law_great", "_law_signs", "_law_pool", "_law_found", "_law_k", "_law_at"]
theorem sc_law_text : FnScope N_law_text ["_law_bag_here"] (defScope s_law_text) := ⟨rfl, rfl, rfl, by decide +kernel, rfl, by decide +kernel, by decide +kernel⟩
section
variable {P : Program} {w : World} {K : PySem.W.Frag} {mg : Str → Option Value} {base : Heap}
theorem ok_law_text {f : Addr} {fd : FuncData} (F : Fun K "_law_text" "_law_text" s_law_text f fd) (T : Blt mg) (C : Cl P w K mg base 1 "_law_take" ["_law_bag_here", "_law_many"] spTake) : FnG P w K mg base CX0 2 f fd ["_law_bag_here"] spText := by
  refine okG F sc_law_text (fun vs H Q E h => ?_) (fun cdv A outer s H vs Q E hr hG h => ?_)
  · obtain ⟨b, c, rfl, _⟩ := h
    rfl
  obtain ⟨b, c, rfl, bag, k⟩ := h
  refine wss (ps_asg (pe_tup (pa_cons pe_str (pa_cons pe_str pa_nil))) (pg_tup rfl (pgs_cons (pg_name (i := 1) sc_law_text.nd rfl (Or.inl rfl)) (pgs_cons (pg_name (i := 2) sc_law_text.nd rfl (Or.inl rfl)) pgs_nil)))) ?_
  refine ⟨(by show 2 ≤ sizeLine; decide), fun p0 hp0 => ?_⟩
  refine ⟨p0, _, rfl, SqT.of upd_same, rfl, _, _, rfl, _, _, rfl, rfl, ?_⟩
  replace bag := bag.keep (same_new (o := .tup [.str "abcdefghijklmnopqrstuvwxyz", .str "ABCDEFGHIJKLMNOPQRSTUVWXYZ"]) hp0)
  replace k : ∀ (z : Str) (H' : Hp), Sml 10 z → BagAt H' b c → Sb b (upd H p0 (.tup [.str "abcdefghijklmnopqrstuvwxyz", .str "ABCDEFGHIJKLMNOPQRSTUVWXYZ"])) H' → Q (.str z) H' := fun z H' h1 h2 h3 => k z H' h1 h2 ((Same.sb (same_new hp0)).trans h3)
  generalize upd H p0 (.tup [.str "abcdefghijklmnopqrstuvwxyz", .str "ABCDEFGHIJKLMNOPQRSTUVWXYZ"]) = H0 at bag k ⊢
  refine wcut (ps_set (i := 3) sc_law_text.nd rfl (Or.inl rfl) (pe_op op_add_str (pe_op op_add_str (pe_op op_add_str (pv 1) (pv 2)) pe_str) pe_str))
    (fun σ' H' => ∃ S G : Str, σ' = [some (.ref b), some (.str letters), some (.str G), some (.str S), none, none, none, none] ∧ (Sml 200 S ∧ 0 < S.length) ∧ H0 = H') ?_ ?_
  · refine ⟨_, rfl, _, rfl, _, _, rfl, rfl, by decide +kernel, _, _, rfl, rfl, by decide +kernel, _, _, rfl, rfl, by decide +kernel, ?_⟩
    refine ⟨_, _, rfl, ⟨⟨?_, ?_⟩, ?_⟩, rfl⟩
    · decide +kernel
    · decide +kernel
    · decide +kernel
  rintro σ' H' ⟨signsS, G, rfl, signs_ok, rfl⟩
  refine wss (ps_par (i := 4) (j := 5) rfl sc_law_text.nd rfl rfl (by decide) rfl rfl (pa_cons (pe_ix ix_list (pe_lst (pa_cons (pv 1) (pa_cons (pv 3) pa_nil))) (pe_cl C hr hG (pa_cons (pv 0) (pa_cons pe_int pa_nil))) (fun _ _ => rfl)) (pa_cons pe_str pa_nil)) (by rfl)) ?_
  refine ⟨_, rfl, _, rfl, (by show 2 ≤ sizeLine; decide), fun p1 hp1 => ?_⟩
  have bag1 := bag.keep (same_new (o := .lst [.str letters, .str signsS]) hp1)
  have np1 := bag.neb hp1
  refine ⟨_, rfl, b, c, 2, rfl, bag1, by decide, by decide +kernel, fun r H2 r0 r1 bag2 but2 => ?_⟩
  have e2 : H2 p1 = some (.lst [.str letters, .str signsS]) := (but2 p1 np1.1).trans upd_same
  have sb2 : Sb b H0 H2 := (Same.sb (same_new hp1)).trans but2.sb
  obtain ⟨pool, hpool, hat⟩ : ∃ pool : Str, (Sml 200 pool ∧ 0 < pool.length) ∧ atI [V.str letters, V.str signsS] r = some (.str pool) := by
    rcases (show r = 0 ∨ r = 1 by omega) with rfl | rfl
    · exact ⟨letters, small_ok, rfl⟩
    · exact ⟨signsS, signs_ok, rfl⟩
  refine ⟨p1, _, r, .str pool, rfl, rfl, SqL.of e2, hat, _, _, rfl, ?_⟩
  refine wcut (ps_for PassesOwn.never rfl (pi_range1 (by rfl) T.range (pa_cons (pe_cl C hr hG (pa_cons (pv 0) (pa_cons pe_int pa_nil))) pa_nil)) (pg_name (i := 6) sc_law_text.nd rfl (Or.inl rfl)) pss_w)
    (fun σ' H' => ∃ z x6, Sml 9 z ∧ σ' = [some (.ref b), some (.str letters), some (.str G), some (.str signsS), some (.str pool), some (.str z), x6, none] ∧ BagAt H' b c ∧ Sb b H0 H') ?_ ?_
  · refine ⟨_, rfl, b, c, 10, rfl, bag2, by decide, by decide +kernel, fun r H3 r0 r1 bag3 but3 => ?_⟩
    refine ⟨_, rfl, by omega, by omega, for_range (lo := 0) (n := r.toNat) (fun i σ' H' => ∃ z x6, Sml i z ∧ σ' = [some (.ref b), some (.str letters), some (.str G), some (.str signsS), some (.str pool), some (.str z), x6, none] ∧ BagAt H' b c ∧ Sb b H0 H') ?_ ?_ ?_⟩
    · exact ⟨"", none, ⟨Nat.le_refl _, by decide +kernel⟩, rfl, bag3, sb2.trans but3.sb⟩
    · rintro i σ' H' hi ⟨z, x6, hz, rfl, bag', sb'⟩
      refine wss (ps_set (i := 5) sc_law_text.nd rfl (Or.inl rfl) (pe_op op_add_str (pv 5) (pe_ix ix_str (pv 4) (pe_cl C hr hG (pa_cons (pv 0) (pa_cons (pe_callB call_len_str (by rfl) T.len PySem.boot_len (pa_cons (pv 4) pa_nil)) pa_nil))) (fun _ _ => rfl)))) ?_
      have hp2 := hpool.1.len
      refine ⟨_, rfl, _, rfl, _, rfl, _, rfl, _, rfl, sz5 (by omega), b, c, _, rfl, bag', by omega, ?_, fun q H4 q0 q1 bag4 but4 => ?_⟩
      · exact Nat.lt_of_le_of_lt (Nat.log2_le_self _) (by omega)
      · obtain ⟨ch, hc1, hc2⟩ := at_some q0 q1
        have hz2 := hz.len
        refine ⟨pool, q, ch, rfl, rfl, sz5 (by omega), hc1, z, _, rfl, rfl, sz5 ?_, ?_⟩
        · show z.length + 1 ≤ 100000
          omega
        · exact wss_end ⟨_, _, hz.app (Sml.one (hpool.1.asc ch hc2)), rfl, bag4, sb'.trans but4.sb⟩
    · rintro σ' H' ⟨z, x6, hz, rfl, bag', sb'⟩
      exact ⟨z, x6, hz.mono (by omega), rfl, bag', sb'⟩
  rintro σ' H5 ⟨z, x6, hz, rfl, bag5, sb5⟩
  have hzl := hz.len
  refine wss (ps_set (i := 7) sc_law_text.nd rfl (Or.inl rfl) (pe_cl C hr hG (pa_cons (pv 0) (pa_cons (pe_op op_add (pe_callB call_len_str (by rfl) T.len PySem.boot_len (pa_cons (pv 5) pa_nil)) pe_int) pa_nil)))) ?_
  refine ⟨_, rfl, _, rfl, _, rfl, sz5 (by omega), _, _, rfl, rfl, b, c, _, rfl, bag5, by omega, ?_, fun a H6 a0 a1 bag6 but6 => ?_⟩
  · exact Nat.lt_of_le_of_lt (Nat.log2_le_self _) (by omega)
  refine wss (ps_ret (pe_ifExp (pt_cmpR op_eq (pe_cl C hr hG (pa_cons (pv 0) (pa_cons pe_int pa_nil))) pe_int (by rfl)) (pe_op op_add_str (pe_op op_add_str (pe_slice sl_str (pv 5) po_none (po_some (pv 7))) (pe_ix ix_str (pv 3) (pe_cl C hr hG (pa_cons (pv 0) (pa_cons (pe_callB call_len_str (by rfl) T.len PySem.boot_len (pa_cons (pv 3) pa_nil)) pa_nil))) (fun _ _ => rfl))) (pe_slice sl_str (pv 5) (po_some (pv 7)) po_none)) (pv 5))) ?_
  refine ⟨_, rfl, b, c, 3, rfl, bag6, by decide, by decide +kernel, fun u H7 u0 u1 bag7 but7 => ?_⟩
  have sb7 : Sb b H0 H7 := sb5.trans (but6.sb.trans but7.sb)
  refine ⟨rfl, _, rfl, ?_⟩
  refine ite2 (fun hu => ?_) (fun hu => ?_)
  · have hs := signs_ok.1.len
    refine ⟨_, rfl, _, rfl, _, rfl, _, rfl, sz5 (by omega), _, rfl, _, rfl, _, rfl, _, rfl, sz5 (by omega), b, c, _, rfl, bag7, ?_, ?_, fun q H8 q0 q1 bag8 but8 => ?_⟩
    · have := signs_ok.2
      omega
    · exact Nat.lt_of_le_of_lt (Nat.log2_le_self _) (by omega)
    obtain ⟨ch, hc1, hc2⟩ := at_some q0 q1
    have s1 := (hz.cut none (some a)).app (Sml.one (signs_ok.1.asc ch hc2))
    have s2 : Sml 10 (cutS z none (some a) ++ (⟨#[ch]⟩ : Str) ++ cutS z (some a) none) := by
      refine ⟨?_, (s1.app (hz.cut (some a) none)).asc⟩
      obtain ⟨n, rfl⟩ : ∃ n : Nat, a = (n : Int) := ⟨a.toNat, (Int.toNat_of_nonneg a0).symm⟩
      rw [txL_of z] at a1 hzl ⊢
      rw [txL_len] at a1 hzl
      rw [cutS_to (by omega), cutS_from (by omega), show (⟨#[ch]⟩ : Str) = txL [ch] from rfl, txL_app, txL_app, txL_len, List.length_append, List.length_append, List.length_take, List.length_drop, List.length_singleton]
      omega
    refine ⟨signsS, q, ch, rfl, rfl, sz5 (by omega), hc1, _, _, rfl, rfl, sz5 ?_, _, rfl, _, rfl, _, rfl, _, rfl, sz5 (by omega), _, _, rfl, rfl, sz5 ?_, k _ H8 s2 bag8 (sb7.trans but8.sb)⟩
    · have := (hz.cut none (some a)).len
      show _ + 1 ≤ 100000
      omega
    · have h1 := s1.len
      have h2 := (hz.cut (some a) none).len
      omega
  · exact ⟨_, rfl, k z H7 (hz.mono (by omega)) bag7 sb7⟩
end
end Kk

namespace Kk
open PySem PySem.Spec PyProof.Rows L2 FA
def spRight (K : PySem.W.Frag) : Sp := fun vs H Q _ => ∃ v d, vs = [v] ∧ Dt K H v d ∧ fitD d ∧ ∀ H', Same H H' → Q (.bl true) H'
abbrev s_law_right : Stmt := top 18
abbrev N_law_right : List Str := ["_law_thing", "_law_whole", "_law_name", "_law_kind", "_law_told"]
theorem sc_law_right : FnScope N_law_right ["_law_thing"] (defScope s_law_right) := ⟨rfl, rfl, rfl, by decide +kernel, rfl, by decide +kernel, by decide +kernel⟩
theorem shown_bools (a b c d : Bool) : (PyData.tuple [.bool a, .bool b, .bool c, .bool d]).shown.length ≤ sizeLine := by
  cases a <;> cases b <;> cases c <;> cases d <;> decide +kernel
section
variable {P : Program} {w : World} {K : PySem.W.Frag} {mg : Str → Option Value} {base : Heap}
theorem ok_law_right {f : Addr} {fd : FuncData} (F : Fun K "_law_right" "_law_right" s_law_right f fd) (T : Blt mg) (CN : Cl P w K mg base 1 "_law_is_name" ["_law_thing"] (spPred K isName))
    (C1 : Cl P w K mg base 1 "is_integer" ["thing"] (spPred K isInt)) (C2 : Cl P w K mg base 1 "is_name" ["thing"] (spPred K isName)) (C3 : Cl P w K mg base 2 "is_source" ["thing"] (spPred K isSource)) (C4 : Cl P w K mg base 1 "is_kind" ["thing"] (spPred K isKind))
    (CA : Cl P w K mg base 1 "_law_alike" ["_law_found", "_law_due"] (spAlike K)) : FnG P w K mg base CX0 3 f fd ["_law_thing"] (spRight K) := by
  refine okG F sc_law_right (fun vs H Q E h => ?_) (fun cdv A outer s H vs Q E hr hG h => ?_)
  · obtain ⟨v, d, rfl, _⟩ := h
    rfl
  obtain ⟨v, d, rfl, hd, hf, k⟩ := h
  have hr1 := hr.mono (j := 1) (by decide)
  refine wcut (ps_set (i := 1) sc_law_right.nd rfl (Or.inl rfl) (pe_and (pe_callB call_isi (by rfl) T.isinstance (by decide +kernel) (pa_cons (pv 0) (pa_cons (pe_bltn (v := .ty "int") (by rfl) T.int (by decide +kernel) rfl) pa_nil))) (pe_one (pe_not (pe_callB call_isi (by rfl) T.isinstance (by decide +kernel) (pa_cons (pv 0) (pa_cons (pe_bltn (v := .ty "bool") (by rfl) T.bool (by decide +kernel) rfl) pa_nil)))))))
    (fun σ' H' => σ' = [some v, some (.bl (isInt d)), none, none, none] ∧ H = H') ?_ ?_
  · refine ⟨_, rfl, v, _, _, _, _, rfl, .ty _, hd.ty, kit_ty (kit_int d), _, rfl, ?_⟩
    cases d with
    | int i => exact iteT ⟨_, rfl, v, _, _, _, _, rfl, .ty _, hd.ty, kit_ty (kit_bool _), _, rfl, rfl, rfl⟩
    | bool b => exact iteT ⟨_, rfl, v, _, _, _, _, rfl, .ty _, hd.ty, kit_ty (kit_bool _), _, rfl, rfl, rfl⟩
    | _ => exact iteF ⟨rfl, rfl⟩
  rintro _ _ ⟨rfl, rfl⟩
  refine wss (ps_set (i := 2) sc_law_right.nd rfl (Or.inl rfl) (pe_cl CN hr1 hG (pa_cons (pv 0) pa_nil))) ?_
  refine ⟨_, rfl, v, d, rfl, hd, hf, fun H1 s1 => ?_⟩
  have hd1 := hd.keep s1
  refine wcut (ps_set (i := 3) sc_law_right.nd rfl (Or.inl rfl) (pe_and (pe_callB call_isi (by rfl) T.isinstance (by decide +kernel) (pa_cons (pv 0) (pa_cons (pe_bltn (v := .ty "str") (by rfl) T.str (by decide +kernel) rfl) pa_nil))) (pe_one (pe_cmpR op_in_seq (pv 0) (pe_tup (pa_cons pe_str (pa_cons pe_str (pa_cons pe_str pa_nil)))) (by rfl)))))
    (fun σ' H' => σ' = [some v, some (.bl (isInt d)), some (.bl (isName d)), some (.bl (isKind d)), none] ∧ Same H1 H') ?_ ?_
  · refine ⟨_, rfl, v, _, _, _, _, rfl, .ty _, hd1.ty, kit_ty (kit_str d), _, rfl, ?_⟩
    cases d with
    | str x =>
      obtain ⟨y, rfl, e⟩ := hd.txt rfl
      injection e with e
      subst e
      refine iteT ⟨_, rfl, (by show 3 ≤ sizeLine; decide), fun p hp => ⟨p, _, rfl, .inr (SqT.of upd_same), rfl, rfl, ?_, same_new hp⟩⟩
      have e2 : isKind (.str x) = inV (.str x) (kinds.map V.str) := (inV_strs x kinds).symm
      rw [e2]
      rfl
    | _ => exact iteF ⟨rfl, Same.refl _⟩
  rintro _ H2 ⟨rfl, s2⟩
  have hd2 := hd1.keep s2
  refine wss (ps_set (i := 4) sc_law_right.nd rfl (Or.inl rfl) (pe_tup (pa_cons (pe_cl C1 hr1 hG (pa_cons (pv 0) pa_nil)) (pa_cons (pe_cl C2 hr1 hG (pa_cons (pv 0) pa_nil)) (pa_cons (pe_cl C3 hr hG (pa_cons (pv 0) pa_nil)) (pa_cons (pe_cl C4 hr1 hG (pa_cons (pv 0) pa_nil)) pa_nil)))))) ?_
  refine ⟨_, rfl, v, d, rfl, hd2, hf, fun H3 s3 => ?_⟩
  have hd3 := hd2.keep s3
  refine ⟨_, rfl, v, d, rfl, hd3, hf, fun H4 s4 => ?_⟩
  have hd4 := hd3.keep s4
  refine ⟨_, rfl, v, d, rfl, hd4, hf, fun H5 s5 => ?_⟩
  have hd5 := hd4.keep s5
  refine ⟨_, rfl, v, d, rfl, hd5, hf, fun H6 s6 => ?_⟩
  have hd6 := hd5.keep s6
  refine ⟨(by show 4 ≤ sizeLine; decide), fun p hp => ?_⟩
  have s7 := same_new (o := .tup [.bl (isInt d), .bl (isName d), .bl (isSource d), .bl (isKind d)]) hp
  have ep := (upd_same : upd H6 p (.tup [.bl (isInt d), .bl (isName d), .bl (isSource d), .bl (isKind d)]) p = _)
  have hd7 := hd6.keep s7
  generalize upd H6 p (.tup [.bl (isInt d), .bl (isName d), .bl (isSource d), .bl (isKind d)]) = H7 at s7 ep hd7 ⊢
  have sAll : Same H H7 := (((((s1.trans s2).trans s3).trans s4).trans s5).trans s6).trans s7
  refine wss (ps_ret (pe_cl CA hr1 hG (pa_cons (pv 4) (pa_cons (pe_tup (pa_cons (pv 1) (pa_cons (pv 2) (pa_cons (pe_or (pv 2) (pe_one (pe_and (pe_callB call_isi (by rfl) T.isinstance (by decide +kernel) (pa_cons (pv 0) (pa_cons (pe_bltn (v := .ty "str") (by rfl) T.str (by decide +kernel) rfl) pa_nil))) (pe_one (pe_cmpR op_eq (pv 0) pe_str (by rfl)))))) (pa_cons (pv 3) pa_nil))))) pa_nil)))) ?_
  refine ⟨_, rfl, _, rfl, _, rfl, _, rfl, _, rfl, ?_⟩
  have fin : ∀ q, H7 q = none → spAlike K [.ref p, .ref q] (upd H7 q (.tup [.bl (isInt d), .bl (isName d), .bl (isSource d), .bl (isKind d)])) Q E0 := fun q hq => by
    have a1 := same_new (o := .tup [.bl (isInt d), .bl (isName d), .bl (isSource d), .bl (isKind d)]) hq
    exact ⟨_, _, .tuple [.bool (isInt d), .bool (isName d), .bool (isSource d), .bool (isKind d)], rfl, .tup (SqT.of (a1 _ _ ep)) (.cons (.bl _) (.cons (.bl _) (.cons (.bl _) (.cons (.bl _) .nil)))), .tup (SqT.of upd_same) (.cons (.bl _) (.cons (.bl _) (.cons (.bl _) (.cons (.bl _) .nil)))), rfl, shown_bools _ _ _ _, by simp [PyData.depth, PyData.depthAll], rfl, k _ (sAll.trans a1)⟩
  cases hn : isName d with
  | true =>
    rw [hn] at fin
    have hs : isSource d = true := by
      cases d with
      | str x =>
        show (decide (x = "") || isNm x) = true
        rw [show isNm x = true from hn, Bool.or_true]
      | _ => cases hn
    rw [hs] at fin
    exact iteT ⟨_, rfl, (by show 4 ≤ sizeLine; decide), fin⟩
  | false =>
    rw [hn] at fin
    refine iteF ⟨_, rfl, v, _, _, _, _, rfl, .ty _, hd7.ty, kit_ty (kit_str d), _, rfl, ?_⟩
    cases d with
    | str x =>
      obtain ⟨y, rfl, e⟩ := hd.txt rfl
      injection e with e
      subst e
      have hs : isSource (.str x) = decide (V.str x = V.str "") := by
        show (decide (x = "") || isNm x) = _
        rw [show isNm x = false from hn, Bool.or_false]
        simp
      rw [hs] at fin
      exact iteT ⟨_, rfl, rfl, _, rfl, (by show 4 ≤ sizeLine; decide), fin⟩
    | _ => exact iteF ⟨_, rfl, (by show 4 ≤ sizeLine; decide), fin⟩
abbrev s_law_bag : Stmt := top 11
abbrev N_law_bag : List Str := ["_law_script", "_law_cell"]
theorem sc_law_bag : FnScope N_law_bag ["_law_script"] (defScope s_law_bag) := ⟨rfl, rfl, rfl, by decide +kernel, rfl, by decide +kernel, by decide +kernel⟩
def spBag (K : PySem.W.Frag) : Sp := fun vs H Q _ => ∃ (a : Addr) (ns : List Int), vs = [.ref a] ∧ SqL K H a (ns.map V.int) ∧ ns.length ≤ 63 ∧ ∀ (b c : Addr) (H' : Hp), H b = none → BagAt H' b c → Same H H' → Q (.ref b) H'
def absI (i : Int) : Int := if i < 0 then -i else i
theorem ok_law_bag {f : Addr} {fd : FuncData} (F : Fun K "_law_bag" "_law_bag" s_law_bag f fd) (T : Blt mg) : FnG P w K mg base CX0 1 f fd ["_law_script"] (spBag K) := by
  refine okG F sc_law_bag (fun vs H Q E h => ?_) (fun cdv A outer s H vs Q E hr hG h => ?_)
  · obtain ⟨a, ns, rfl, _⟩ := h
    rfl
  obtain ⟨a, ns, rfl, hS, hl, k⟩ := h
  refine wss (ps_ret (pe_lst (pa_cons pe_int (pa_cons pe_int (pa_cons pe_int (pa_cons (pe_lc (own := [("_law_cell", 1)]) (g := (gName 1)) (by rfl) sc_law_bag.nd (pi_list (pe_slice sl_list (pv 0) po_none (po_some pe_int))) (blkOk_by (own := [("_law_cell", 1)]) (N := N_law_bag) (sc := defScope s_law_bag) (by decide +kernel)) (fun _ _ _ _ _ => (pg_name (i := 1) sc_law_bag.nd rfl (Or.inl rfl))) (fun _ _ _ _ _ => pts_nil) (fun _ _ _ _ _ => (pe_callB call_abs (by rfl) T.abs (by decide +kernel) (pa_cons (pv 1) pa_nil)))) pa_nil)))))) ?_
  refine ⟨_, rfl, _, rfl, a, _, rfl, hS, fun p hp => ?_⟩
  rw [show cutV (ns.map V.int) none (some 63) = (ns.map V.int).take 63 from cutV_to (a := 63), List.take_of_length_le (by rw [List.length_map]; exact hl)]
  have s1 := same_new (o := .lst (ns.map V.int)) hp
  have ep := (upd_same : upd H p (.lst (ns.map V.int)) p = _)
  generalize upd H p (.lst (ns.map V.int)) = H1 at s1 ep ⊢
  refine ⟨p, rfl, ⟨_, SqL.of ep⟩, fun D hD => lc_list (K := K) (a := p) (xs := ns.map V.int) (fun i H' => H' = upd H1 D (.lst (((ns.take i).map absI).map V.int))) rfl ?_ ?_ ?_⟩
  · rintro i _ hi rfl
    exact SqL.of (by rw [upd_ne (ne_of_none ep hD)]; exact ep)
  · rintro i y _ hi rfl
    obtain ⟨z, hz, rfl⟩ : ∃ z, ns[i]? = some z ∧ y = V.int z := by
      rw [List.getElem?_map] at hi
      cases e : ns[i]? with
      | none =>
        rw [e] at hi
        cases hi
      | some z =>
        rw [e] at hi
        exact ⟨z, rfl, (Option.some.inj hi).symm⟩
    refine ⟨rfl, _, rfl, _, rfl, _, upd_same, sz5' ?_, ?_⟩
    · rw [List.length_map, List.length_map, List.length_take]
      omega
    · rw [upd_upd, map_take_succ hz, List.map_append]
      rfl
  · rintro _ rfl
    rw [List.length_map, List.take_length]
    refine ⟨(by show 4 ≤ sizeLine; decide), fun q hq => ?_⟩
    have s2 := same_new (o := .lst ((ns.map absI).map V.int)) hD
    have nDq : D ≠ q := fun z => by rw [← z, upd_same] at hq; cases hq
    refine k q D _ ((s1.trans s2).free hq) ⟨0, 1234567891, 0, ns.map absI, upd_same, by rw [upd_ne nDq, upd_same], by decide, by decide, by decide, by decide, by rw [List.length_map]; exact hl, ?_⟩ ((s1.trans s2).trans (same_new hq))
    intro z hz
    obtain ⟨y, _, rfl⟩ := List.mem_map.mp hz
    unfold absI
    split <;> omega
end
end Kk

namespace Kk
open PySem PySem.Spec PyProof.Rows L2 FA
/-! what is asked of a thing -/
structure Thing (d : PyData) : Prop where
  fit : fitD d
  sh : d.showable = true
  len : d.shown.length ≤ sizeLine
  dep : d.depth ≤ 50
  dic : d.hasDict = true → flatD d = true
theorem shown_ok {d : PyData} (h : d.leavesShort 100 = true) (w : d.weight ≤ 100000) : d.shown.length ≤ sizeLine := by
  have := PyData.shown_le 100 (by decide) d h
  rw [sizeLine_eq]
  omega
theorem leaf_sml {n : Nat} {z : Str} (h : Sml n z) : PyData.leavesShort 100 (.str z) = true := by
  show (z.cps.toList.all fun c => decide (c < 16 ^ 8)) = true
  rw [List.all_eq_true]
  intro c hc
  exact decide_eq_true (Nat.lt_trans (h.asc c hc) (by decide))
theorem thing_str {n : Nat} {z : Str} (h : Sml n z) (hn : n ≤ 1000) : Thing (.str z) := by
  have hl := h.len
  refine ⟨Nat.le_trans hl (by omega), rfl, shown_ok (leaf_sml h) ?_, by show 0 ≤ 50; decide, fun z => by cases z⟩
  show z.cps.size ≤ 100000
  have : z.length = z.cps.size := rfl
  omega
theorem nm_sml {x : Str} (h : isNm x = true) : Sml 8 x := by
  rw [txL_of x] at h ⊢
  obtain ⟨h1, h2, h3⟩ := isNm_tx.mp h
  exact ⟨by rw [txL_len]; exact h2, fun c hc => by have := h3 c hc; omega⟩
theorem ten_ok : ∀ w : Nat, w < 60 → (PyData.int ((10 : Int) ^ w)).showable = true ∧ (PyData.int ((10 : Int) ^ w)).leavesShort 100 = true ∧ (PyData.int ((10 : Int) ^ w)).weight ≤ 1000 ∧
    (PyData.int (-((10 : Int) ^ w))).showable = true ∧ (PyData.int (-((10 : Int) ^ w))).leavesShort 100 = true ∧ (PyData.int (-((10 : Int) ^ w))).weight ≤ 1000 := by decide +kernel
theorem sml_lit (z : Str) (h : (decide (z.length ≤ 100) && z.cps.toList.all fun c => decide (c < 128)) = true) : Sml 100 z := by
  have h' := Bool.and_eq_true_iff.mp h
  exact ⟨of_decide_eq_true h'.1, fun c hc => of_decide_eq_true (List.all_eq_true.mp h'.2 c hc)⟩
theorem wt {z : Str} : PyData.weight (.str z) = z.length := rfl
theorem thing_odd {x : Str} {w : Nat} {d : PyData} (hx : isNm x = true) (hw : w < 40) (h : d ∈ oddMenu x w) : Thing d := by
  have sx := nm_sml hx
  have lx := leaf_sml sx
  have wx := sx.len
  obtain ⟨t1, t2, t3, t4, t5, t6⟩ := ten_ok w (by omega)
  unfold oddMenu at h
  simp only [List.mem_append, List.mem_cons, List.not_mem_nil, or_false] at h
  rcases h with ((rfl | rfl | rfl | rfl | rfl | rfl | rfl | rfl | rfl | rfl | rfl | rfl | rfl) | rfl | rfl | rfl | rfl) | rfl | rfl | rfl | rfl | rfl | rfl | rfl | rfl | rfl | rfl | rfl | rfl | rfl
  · exact ⟨trivial, by decide +kernel, shown_ok (by decide +kernel) (by decide +kernel), by decide +kernel, fun z => by cases z⟩
  · exact ⟨trivial, by decide +kernel, shown_ok (by decide +kernel) (by decide +kernel), by decide +kernel, fun z => by cases z⟩
  · exact ⟨trivial, by decide +kernel, shown_ok (by decide +kernel) (by decide +kernel), by decide +kernel, fun z => by cases z⟩
  · exact ⟨trivial, t1, shown_ok t2 (by omega), by show 0 ≤ 50; decide, fun z => by cases z⟩
  · exact ⟨trivial, t4, shown_ok t5 (by omega), by show 0 ≤ 50; decide, fun z => by cases z⟩
  · exact ⟨trivial, by decide +kernel, shown_ok (by decide +kernel) (by decide +kernel), by decide +kernel, fun z => by cases z⟩
  · exact ⟨trivial, by decide +kernel, shown_ok (by decide +kernel) (by decide +kernel), by decide +kernel, fun z => by cases z⟩
  · exact ⟨trivial, by decide +kernel, shown_ok (by decide +kernel) (by decide +kernel), by decide +kernel, fun z => by cases z⟩
  · exact thing_str (sml_lit _ (by decide +kernel)) (by decide)
  · exact thing_str (sml_lit _ (by decide +kernel)) (by decide)
  · exact thing_str sx (by decide)
  · exact thing_str (sx.app (sml_lit _ (by decide +kernel))) (by decide)
  · exact thing_str (sml_lit _ (by decide +kernel)) (by decide)
  · exact thing_str (sml_lit _ (by decide +kernel)) (by decide)
  · exact thing_str (sml_lit _ (by decide +kernel)) (by decide)
  · exact thing_str (sml_lit _ (by decide +kernel)) (by decide)
  · exact thing_str (sml_lit _ (by decide +kernel)) (by decide)
  · exact thing_str (sml_lit _ (by decide +kernel)) (by decide)
  · exact thing_str (sml_lit _ (by decide +kernel)) (by decide)
  · exact thing_str (sml_lit _ (by decide +kernel)) (by decide)
  · exact thing_str (sml_lit _ (by decide +kernel)) (by decide)
  · exact ⟨trivial, by decide +kernel, shown_ok (by decide +kernel) (by decide +kernel), by decide +kernel, fun z => by cases z⟩
  · exact ⟨trivial, by decide +kernel, shown_ok (by decide +kernel) (by decide +kernel), by decide +kernel, fun z => by cases z⟩
  · exact ⟨trivial, by decide +kernel, shown_ok (by decide +kernel) (by decide +kernel), by decide +kernel, fun _ => rfl⟩
  · exact ⟨trivial, by decide +kernel, shown_ok (by decide +kernel) (by decide +kernel), by decide +kernel, fun z => by cases z⟩
  · exact ⟨trivial, by decide +kernel, shown_ok (by decide +kernel) (by decide +kernel), by decide +kernel, fun z => by cases z⟩
  · refine ⟨trivial, rfl, shown_ok (by show (PyData.leavesShort 100 (.str x) && true) = true; rw [lx]; rfl) ?_, by show 1 ≤ 50; decide, fun z => by cases z⟩
    show x.length + 1 + 0 ≤ 100000
    omega
  · refine ⟨trivial, (by show (true && decide ((1 : Int).natAbs.log2 < 1920) && true) = true; decide +kernel), shown_ok (by show (PyData.leavesShort 100 (.str x) && PyData.leavesShort 100 (.int 1) && true) = true; rw [lx]; decide +kernel) ?_, by show 1 ≤ 50; decide, fun _ => rfl⟩
    show x.length + 1 + 2 + 0 ≤ 100000
    omega
  · refine ⟨trivial, rfl, shown_ok (by show (PyData.leavesShort 100 (.str x) && true) = true; rw [lx]; rfl) ?_, by show 1 ≤ 50; decide, fun z => by cases z⟩
    show x.length + 1 + 0 ≤ 100000
    omega
  · exact ⟨trivial, by decide +kernel, shown_ok (by decide +kernel) (by decide +kernel), by decide +kernel, fun z => by cases z⟩
end Kk

namespace Kk
open PySem PySem.Spec PyProof.Rows L2 FA
def spLaw (K : PySem.W.Frag) : Sp := fun vs H Q _ => ∃ (a : Addr) (ns : List Int), vs = [.ref a] ∧ SqL K H a (ns.map V.int) ∧ ns.length ≤ 63 ∧ ∀ H', Q (.bl true) H'
abbrev s_law : Stmt := top 19
abbrev N_law : List Str := ["_law_script", "_law_bag_here", "_law_kinds", "_law_turn", "_law_name", "_law_thing", "_law_looked", "_law_part", "_law_kind"]
theorem sc_law : FnScope N_law ["_law_script"] (defScope s_law) := ⟨rfl, rfl, rfl, by decide +kernel, rfl, by decide +kernel, by decide +kernel⟩
theorem shown_bool (a : Bool) : (PyData.bool a).shown.length ≤ sizeLine := by
  cases a <;> decide +kernel
theorem kinds_at {r : Int} (h0 : 0 ≤ r) (h1 : r < 3) : ∃ x : Str, atI (kinds.map V.str) r = some (.str x) := by
  rcases (show r = 0 ∨ r = 1 ∨ r = 2 by omega) with rfl | rfl | rfl
  · exact ⟨"plain", rfl⟩
  · exact ⟨"high", rfl⟩
  · exact ⟨"low", rfl⟩
section
variable {P : Program} {w : World} {K : PySem.W.Frag} {mg : Str → Option Value} {base : Heap}
theorem ok_law {f : Addr} {fd : FuncData} (F : Fun K "law" "law" s_law f fd) (T : Blt mg) (CB : Cl P w K mg base 1 "_law_bag" ["_law_script"] (spBag K)) (CT : Cl P w K mg base 1 "_law_take" ["_law_bag_here", "_law_many"] spTake)
    (CN : Cl P w K mg base 2 "_law_names" ["_law_bag_here", "_law_many"] spNames) (CO : Cl P w K mg base 2 "_law_odd" ["_law_bag_here", "_law_name"] (spOdd K)) (CX : Cl P w K mg base 2 "_law_text" ["_law_bag_here"] spText)
    (CR : Cl P w K mg base 3 "_law_right" ["_law_thing"] (spRight K)) (CA : Cl P w K mg base 1 "_law_alike" ["_law_found", "_law_due"] (spAlike K)) (CF : Cl P w K mg base 1 "fits" ["part", "kind"] spFits) :
    FnG P w K mg base CX0 4 f fd ["_law_script"] (spLaw K) := by
  refine okG F sc_law (fun vs H Q E h => ?_) (fun cdv A outer s H vs Q E hr hG h => ?_)
  · obtain ⟨a, ns, rfl, _⟩ := h
    rfl
  obtain ⟨a, ns, rfl, hS, hl, k⟩ := h
  have hr1 := hr.mono (j := 1) (by decide)
  have hr2 := hr.mono (j := 2) (by decide)
  refine wss (ps_set (i := 1) sc_law.nd rfl (Or.inl rfl) (pe_cl CB hr1 hG (pa_cons (pv 0) pa_nil))) ?_
  refine ⟨_, rfl, a, ns, rfl, hS, hl, fun b c H1 nb bag1 s1 => ?_⟩
  refine wss (ps_set (i := 2) sc_law.nd rfl (Or.inl rfl) (pe_lst (pa_cons pe_str (pa_cons pe_str (pa_cons pe_str pa_nil))))) ?_
  refine ⟨(by show 3 ≤ sizeLine; decide), fun pk hpk => ?_⟩
  have npk := bag1.neb hpk
  have bag2 := bag1.keep (same_new (o := .lst (kinds.map V.str)) hpk)
  refine wcut (ps_for PassesOwn.never rfl (pi_range1 (by rfl) T.range (pa_cons pe_int pa_nil)) (pg_name (i := 3) sc_law.nd rfl (Or.inl rfl)) pss_w) (fun _ _ => True) ?_ ?_
  · refine ⟨40, rfl, by decide, by decide, for_range (lo := 0) (n := 40) (fun i σ' H' => ∃ x3 x4 x5 x6 x7 x8, σ' = [some (.ref a), some (.ref b), some (.ref pk), x3, x4, x5, x6, x7, x8] ∧ BagAt H' b c ∧ H' pk = some (.lst (kinds.map V.str))) ?_ ?_ ?_⟩
    · exact ⟨none, none, none, none, none, none, rfl, bag2, upd_same⟩
    · rintro i σ' H3 hi ⟨x3, x4, x5, x6, x7, x8, rfl, bag3, hk3⟩
      -- a name
      refine wss (ps_set (i := 4) sc_law.nd rfl (Or.inl rfl) (pe_ix ix_list (pe_cl CN hr2 hG (pa_cons (pv 1) (pa_cons pe_int pa_nil))) pe_int (fun _ _ => rfl))) ?_
      refine ⟨_, rfl, b, c, 1, rfl, by decide, bag3, fun p ys H4 hn np bag4 sb4 hp4 => ?_⟩
      obtain ⟨x, rfl⟩ : ∃ x, ys = [x] := List.length_eq_one_iff.mp hn.len
      have hx : isNm x = true := hn.nm x (List.mem_singleton.mpr rfl)
      have hk4 := sb4 _ _ hk3 npk.1
      refine ⟨p, _, 0, .str x, rfl, rfl, SqL.of hp4, rfl, ?_⟩
      -- a thing
      refine wcut (ps_set (i := 5) sc_law.nd rfl (Or.inl rfl) (pe_ix ix_list (pe_lst (pa_cons (pe_cl CO hr2 hG (pa_cons (pv 1) (pa_cons (pv 4) pa_nil))) (pa_cons (pe_cl CX hr2 hG (pa_cons (pv 1) pa_nil)) (pa_cons (pe_slice sl_str (pe_cl CX hr2 hG (pa_cons (pv 1) pa_nil)) po_none (po_some pe_int)) (pa_cons (pv 4) pa_nil))))) (pe_cl CT hr1 hG (pa_cons (pv 1) (pa_cons pe_int pa_nil))) (fun _ _ => rfl)))
        (fun σ' H' => ∃ v d, σ' = [some (.ref a), some (.ref b), some (.ref pk), some (.int (0 + (i : Int))), some (.str x), some v, x6, x7, x8] ∧ BagAt H' b c ∧ H' pk = some (.lst (kinds.map V.str)) ∧ Dt K H' v d ∧ Thing d) ?_ ?_
      · refine ⟨_, rfl, _, rfl, b, c, x, rfl, ?_, bag4, fun v0 d0 w0 H5 hw0 hd0 dt0 bag5 sb5 => ?_⟩
        · have := (nm_sml hx).len
          omega
        refine ⟨_, rfl, b, c, rfl, bag5, fun z1 H6 hz1 bag6 sb6 => ?_⟩
        refine ⟨_, rfl, b, c, rfl, bag6, fun z2 H7 hz2 bag7 sb7 => ?_⟩
        have hz2l := hz2.len
        refine ⟨_, rfl, _, rfl, sz5 (by omega), _, rfl, (by show 4 ≤ sizeLine; decide), fun q hq => ?_⟩
        have nq := bag7.neb hq
        have bag8 := bag7.keep (same_new (o := .lst [v0, .str z1, .str (cutS z2 none (some 2)), .str x]) hq)
        refine ⟨_, rfl, b, c, 4, rfl, bag8, by decide, by decide +kernel, fun r H9 r0 r1 bag9 but9 => ?_⟩
        have hq9 : H9 q = some (.lst [v0, .str z1, .str (cutS z2 none (some 2)), .str x]) := (but9 q nq.1).trans upd_same
        have sb9 : Sb b H5 H9 := sb6.trans (sb7.trans ((Same.sb (same_new hq)).trans but9.sb))
        have hk9 : H9 pk = some (.lst (kinds.map V.str)) := sb9 _ _ (sb5 _ _ hk4 npk.1) npk.1
        have dt9 : Dt K H9 v0 d0 := (dt0.keep sb9.same).keep hb_sub
        obtain ⟨v, d, hat, hd, ht⟩ : ∃ v d, atI [v0, .str z1, .str (cutS z2 none (some 2)), .str x] r = some v ∧ Dt K H9 v d ∧ Thing d := by
          rcases (show r = 0 ∨ r = 1 ∨ r = 2 ∨ r = 3 by omega) with rfl | rfl | rfl | rfl
          · exact ⟨v0, d0, rfl, dt9, thing_odd hx hw0 hd0⟩
          · exact ⟨_, _, rfl, .str _, thing_str hz1 (by decide)⟩
          · exact ⟨_, _, rfl, .str _, thing_str (hz2.cut none (some 2)) (by decide)⟩
          · exact ⟨_, _, rfl, .str _, thing_str (nm_sml hx) (by decide)⟩
        exact ⟨q, _, r, v, rfl, rfl, SqL.of hq9, hat, v, d, rfl, bag9, hk9, hd, ht⟩
      rintro σ' H5 ⟨v, d, rfl, bag5, hk5, hd, ht⟩
      have hm : ∀ H' : Hp, d.hasDict = true → H' sysModules = none ∨ flatD d = true := fun H' e => .inr (ht.dic e)
      have hdep : d.depth ≤ 60 := by have := ht.dep; omega
      refine wss (ps_set (i := 6) sc_law.nd rfl (Or.inl rfl) (pe_callB (call_repr hG hr.units) (by rfl) T.repr (by decide +kernel) (pa_cons (pv 5) pa_nil))) ?_
      refine ⟨_, rfl, v, d, rfl, hd, ht.sh, ht.len, hdep, hm _, ?_⟩
      refine wss (ps_if (PW.pt (pw_or (pt_not (pt_val (pe_cl CR hr hG (pa_cons (pv 5) pa_nil)))) (pw_or (pt_not (pt_val (pe_cl CR hr hG (pa_cons (pe_lst (pa_cons (pv 5) pa_nil)) pa_nil)))) (pw_or (pt_not (pt_val (pe_cl CR hr hG (pa_cons (pv 5) pa_nil)))) (pw_or1 (pt_cmpR op_ne (pe_callB (call_repr hG hr.units) (by rfl) T.repr (by decide +kernel) (pa_cons (pv 5) pa_nil)) (pv 6) (by rfl))))))) pss_w pss_w) ?_
      refine ⟨_, rfl, v, d, rfl, hd, ht.fit, fun H6 s6 => ⟨_, rfl, iteF ?_⟩⟩
      have hd6 := hd.keep s6
      refine ⟨_, rfl, (by show 1 ≤ sizeLine; decide), fun q hq => ?_⟩
      have s7 := same_new (o := .lst [v]) hq
      refine ⟨.ref q, .list [d], rfl, .lst (.inl upd_same) (.cons (hd6.keep s7) .nil), trivial, fun H8 s8 => ⟨_, rfl, iteF ?_⟩⟩
      have hd8 := (hd6.keep s7).keep s8
      refine ⟨_, rfl, v, d, rfl, hd8, ht.fit, fun H9 s9 => ⟨_, rfl, iteF ?_⟩⟩
      have hd9 := hd8.keep s9
      refine ⟨_, rfl, v, d, rfl, hd9, ht.sh, ht.len, hdep, hm _, _, rfl, rfl, _, rfl, ?_⟩
      refine iteNS rfl ?_
      refine wss_end ?_
      have s59 : Same H5 H9 := ((s6.trans s7).trans s8).trans s9
      have bag9 := bag5.keep s59
      have hk9 := s59 _ _ hk5
      -- two kinds
      refine wss (ps_par (i := 7) (j := 8) rfl sc_law.nd rfl rfl (by decide) rfl rfl (pa_cons (pe_ix ix_list (pv 2) (pe_cl CT hr1 hG (pa_cons (pv 1) (pa_cons pe_int pa_nil))) (fun _ _ => rfl)) (pa_cons (pe_ix ix_list (pv 2) (pe_cl CT hr1 hG (pa_cons (pv 1) (pa_cons pe_int pa_nil))) (fun _ _ => rfl)) pa_nil)) (by rfl)) ?_
      refine ⟨_, rfl, _, rfl, b, c, 3, rfl, bag9, by decide, by decide +kernel, fun r H10 r0 r1 bag10 but10 => ?_⟩
      have hk10 := (but10 pk npk.1).trans hk9
      obtain ⟨k1, e1⟩ := kinds_at r0 r1
      refine ⟨pk, _, r, _, rfl, rfl, SqL.of hk10, e1, _, rfl, _, rfl, b, c, 3, rfl, bag10, by decide, by decide +kernel, fun u H11 u0 u1 bag11 but11 => ?_⟩
      have hk11 := (but11 pk npk.1).trans hk10
      obtain ⟨k2, e2⟩ := kinds_at u0 u1
      refine ⟨pk, _, u, _, rfl, rfl, SqL.of hk11, e2, _, _, rfl, ?_⟩
      refine wss (ps_if (pt_not (pt_val (pe_cl CA hr1 hG (pa_cons (pe_cl CF hr1 hG (pa_cons (pv 7) (pa_cons (pv 8) pa_nil))) (pa_cons (pe_or (pe_cmpR op_eq (pv 7) pe_str (by rfl)) (pe_one (pe_cmpR op_eq (pv 7) (pv 8) (by rfl)))) pa_nil))))) pss_w pss_w) ?_
      refine ⟨_, rfl, _, rfl, k1, k2, rfl, fun H12 s12 => ?_⟩
      refine ⟨_, rfl, rfl, _, rfl, ?_⟩
      refine ite2 (fun h => ?_) (fun h => ?_)
      · have eb : decide (k1 = "plain" ∨ k1 = k2) = true := decide_eq_true (.inl (by have := of_decide_eq_true h; injection this))
        refine ⟨_, _, .bool true, rfl, ?_, .bl _, rfl, shown_bool _, (by show 0 ≤ 30; decide), rfl, _, rfl, iteF (wss_end (wss_end ⟨_, _, _, _, _, _, rfl, bag11.keep s12, s12 _ _ hk11⟩))⟩
        rw [eb]
        exact .bl _
      · have h1 : ¬ k1 = "plain" := fun z => h (decide_eq_true (by rw [z]))
        have eb : decide (k1 = "plain" ∨ k1 = k2) = decide (V.str k1 = V.str k2) := by
          rw [Bool.eq_iff_iff, decide_eq_true_iff, decide_eq_true_iff]
          exact ⟨fun z => z.elim (fun y => absurd y h1) fun y => by rw [y], fun z => .inr (by injection z)⟩
        refine ⟨_, rfl, _, rfl, rfl, _, _, .bool (decide (V.str k1 = V.str k2)), rfl, ?_, .bl _, rfl, shown_bool _, (by show 0 ≤ 30; decide), rfl, _, rfl, iteF (wss_end (wss_end ⟨_, _, _, _, _, _, rfl, bag11.keep s12, s12 _ _ hk11⟩))⟩
        rw [eb]
        exact .bl _
    · intro σ' H' _
      trivial
  · intro σ' H' _
    exact wss (ps_ret pe_bl) (k _)
end
end Kk

namespace Kk
open PySem PySem.Spec PyProof.Rows L2 FA
theorem all_mk {P : Program} {w : World} {K : PySem.W.Frag} {h : Heap} {mg : Str → Option Value} {fa : Addr} (X : K.In h) (G : h.Ns mainGlobals mg) (hfa : mg "law" = some (.ref fa))
    {f0 : Addr} {od0 an0 : Option Addr} {sl0 : Array (Option Value)} {oc0 kV0 dc0 pm0 cd0 ct0 : Value}
    (a0 : PySem.W.nsIn K mainGlobals "is_integer" = some (some (.ref f0))) (l0 : K.lookup f0 = some ⟨oc0, od0, .func (PySem.W.fnOf "is_integer" "is_integer" (defArgs s_is_integer) (defBody s_is_integer) (defScope s_is_integer) .none kV0 dc0 pm0 an0 cd0 ct0), sl0⟩) (c0 : PySem.W.codeIn K cd0 "is_integer" = true) (k0 : PySem.W.keepIn K (.ref f0) = true)
    {f1 : Addr} {od1 an1 : Option Addr} {sl1 : Array (Option Value)} {oc1 kV1 dc1 pm1 cd1 ct1 : Value}
    (a1 : PySem.W.nsIn K mainGlobals "is_name" = some (some (.ref f1))) (l1 : K.lookup f1 = some ⟨oc1, od1, .func (PySem.W.fnOf "is_name" "is_name" (defArgs s_is_name) (defBody s_is_name) (defScope s_is_name) .none kV1 dc1 pm1 an1 cd1 ct1), sl1⟩) (c1 : PySem.W.codeIn K cd1 "is_name" = true) (k1 : PySem.W.keepIn K (.ref f1) = true)
    {f2 : Addr} {od2 an2 : Option Addr} {sl2 : Array (Option Value)} {oc2 kV2 dc2 pm2 cd2 ct2 : Value}
    (a2 : PySem.W.nsIn K mainGlobals "is_source" = some (some (.ref f2))) (l2 : K.lookup f2 = some ⟨oc2, od2, .func (PySem.W.fnOf "is_source" "is_source" (defArgs s_is_source) (defBody s_is_source) (defScope s_is_source) .none kV2 dc2 pm2 an2 cd2 ct2), sl2⟩) (c2 : PySem.W.codeIn K cd2 "is_source" = true) (k2 : PySem.W.keepIn K (.ref f2) = true)
    {f3 : Addr} {od3 an3 : Option Addr} {sl3 : Array (Option Value)} {oc3 kV3 dc3 pm3 cd3 ct3 : Value}
    (a3 : PySem.W.nsIn K mainGlobals "is_kind" = some (some (.ref f3))) (l3 : K.lookup f3 = some ⟨oc3, od3, .func (PySem.W.fnOf "is_kind" "is_kind" (defArgs s_is_kind) (defBody s_is_kind) (defScope s_is_kind) .none kV3 dc3 pm3 an3 cd3 ct3), sl3⟩) (c3 : PySem.W.codeIn K cd3 "is_kind" = true) (k3 : PySem.W.keepIn K (.ref f3) = true)
    {f4 : Addr} {od4 an4 : Option Addr} {sl4 : Array (Option Value)} {oc4 kV4 dc4 pm4 cd4 ct4 : Value}
    (a4 : PySem.W.nsIn K mainGlobals "fits" = some (some (.ref f4))) (l4 : K.lookup f4 = some ⟨oc4, od4, .func (PySem.W.fnOf "fits" "fits" (defArgs s_fits) (defBody s_fits) (defScope s_fits) .none kV4 dc4 pm4 an4 cd4 ct4), sl4⟩) (c4 : PySem.W.codeIn K cd4 "fits" = true) (k4 : PySem.W.keepIn K (.ref f4) = true)
    {f5 : Addr} {od5 an5 : Option Addr} {sl5 : Array (Option Value)} {oc5 kV5 dc5 pm5 cd5 ct5 : Value}
    (a5 : PySem.W.nsIn K mainGlobals "_law_bag" = some (some (.ref f5))) (l5 : K.lookup f5 = some ⟨oc5, od5, .func (PySem.W.fnOf "_law_bag" "_law_bag" (defArgs s_law_bag) (defBody s_law_bag) (defScope s_law_bag) .none kV5 dc5 pm5 an5 cd5 ct5), sl5⟩) (c5 : PySem.W.codeIn K cd5 "_law_bag" = true) (k5 : PySem.W.keepIn K (.ref f5) = true)
    {f6 : Addr} {od6 an6 : Option Addr} {sl6 : Array (Option Value)} {oc6 kV6 dc6 pm6 cd6 ct6 : Value}
    (a6 : PySem.W.nsIn K mainGlobals "_law_take" = some (some (.ref f6))) (l6 : K.lookup f6 = some ⟨oc6, od6, .func (PySem.W.fnOf "_law_take" "_law_take" (defArgs s_law_take) (defBody s_law_take) (defScope s_law_take) .none kV6 dc6 pm6 an6 cd6 ct6), sl6⟩) (c6 : PySem.W.codeIn K cd6 "_law_take" = true) (k6 : PySem.W.keepIn K (.ref f6) = true)
    {f7 : Addr} {od7 an7 : Option Addr} {sl7 : Array (Option Value)} {oc7 kV7 dc7 pm7 cd7 ct7 : Value}
    (a7 : PySem.W.nsIn K mainGlobals "_law_alike" = some (some (.ref f7))) (l7 : K.lookup f7 = some ⟨oc7, od7, .func (PySem.W.fnOf "_law_alike" "_law_alike" (defArgs s_law_alike) (defBody s_law_alike) (defScope s_law_alike) .none kV7 dc7 pm7 an7 cd7 ct7), sl7⟩) (c7 : PySem.W.codeIn K cd7 "_law_alike" = true) (k7 : PySem.W.keepIn K (.ref f7) = true)
    {f8 : Addr} {od8 an8 : Option Addr} {sl8 : Array (Option Value)} {oc8 kV8 dc8 pm8 cd8 ct8 : Value}
    (a8 : PySem.W.nsIn K mainGlobals "_law_names" = some (some (.ref f8))) (l8 : K.lookup f8 = some ⟨oc8, od8, .func (PySem.W.fnOf "_law_names" "_law_names" (defArgs s_law_names) (defBody s_law_names) (defScope s_law_names) .none kV8 dc8 pm8 an8 cd8 ct8), sl8⟩) (c8 : PySem.W.codeIn K cd8 "_law_names" = true) (k8 : PySem.W.keepIn K (.ref f8) = true)
    {f9 : Addr} {od9 an9 : Option Addr} {sl9 : Array (Option Value)} {oc9 kV9 dc9 pm9 cd9 ct9 : Value}
    (a9 : PySem.W.nsIn K mainGlobals "_law_odd" = some (some (.ref f9))) (l9 : K.lookup f9 = some ⟨oc9, od9, .func (PySem.W.fnOf "_law_odd" "_law_odd" (defArgs s_law_odd) (defBody s_law_odd) (defScope s_law_odd) .none kV9 dc9 pm9 an9 cd9 ct9), sl9⟩) (c9 : PySem.W.codeIn K cd9 "_law_odd" = true) (k9 : PySem.W.keepIn K (.ref f9) = true)
    {f10 : Addr} {od10 an10 : Option Addr} {sl10 : Array (Option Value)} {oc10 kV10 dc10 pm10 cd10 ct10 : Value}
    (a10 : PySem.W.nsIn K mainGlobals "_law_is_name" = some (some (.ref f10))) (l10 : K.lookup f10 = some ⟨oc10, od10, .func (PySem.W.fnOf "_law_is_name" "_law_is_name" (defArgs s_law_is_name) (defBody s_law_is_name) (defScope s_law_is_name) .none kV10 dc10 pm10 an10 cd10 ct10), sl10⟩) (c10 : PySem.W.codeIn K cd10 "_law_is_name" = true) (k10 : PySem.W.keepIn K (.ref f10) = true)
    {f11 : Addr} {od11 an11 : Option Addr} {sl11 : Array (Option Value)} {oc11 kV11 dc11 pm11 cd11 ct11 : Value}
    (a11 : PySem.W.nsIn K mainGlobals "_law_text" = some (some (.ref f11))) (l11 : K.lookup f11 = some ⟨oc11, od11, .func (PySem.W.fnOf "_law_text" "_law_text" (defArgs s_law_text) (defBody s_law_text) (defScope s_law_text) .none kV11 dc11 pm11 an11 cd11 ct11), sl11⟩) (c11 : PySem.W.codeIn K cd11 "_law_text" = true) (k11 : PySem.W.keepIn K (.ref f11) = true)
    {f12 : Addr} {od12 an12 : Option Addr} {sl12 : Array (Option Value)} {oc12 kV12 dc12 pm12 cd12 ct12 : Value}
    (a12 : PySem.W.nsIn K mainGlobals "_law_right" = some (some (.ref f12))) (l12 : K.lookup f12 = some ⟨oc12, od12, .func (PySem.W.fnOf "_law_right" "_law_right" (defArgs s_law_right) (defBody s_law_right) (defScope s_law_right) .none kV12 dc12 pm12 an12 cd12 ct12), sl12⟩) (c12 : PySem.W.codeIn K cd12 "_law_right" = true) (k12 : PySem.W.keepIn K (.ref f12) = true)
    {f13 : Addr} {od13 an13 : Option Addr} {sl13 : Array (Option Value)} {oc13 kV13 dc13 pm13 cd13 ct13 : Value}
    (a13 : PySem.W.nsIn K mainGlobals "law" = some (some (.ref f13))) (l13 : K.lookup f13 = some ⟨oc13, od13, .func (PySem.W.fnOf "law" "law" (defArgs s_law) (defBody s_law) (defScope s_law) .none kV13 dc13 pm13 an13 cd13 ct13), sl13⟩) (c13 : PySem.W.codeIn K cd13 "law" = true) (k13 : PySem.W.keepIn K (.ref f13) = true)
    (z_len : PySem.W.nsIn K mainGlobals "len" = some none)
    (z_int : PySem.W.nsIn K mainGlobals "int" = some none)
    (z_abs : PySem.W.nsIn K mainGlobals "abs" = some none)
    (z_range : PySem.W.nsIn K mainGlobals "range" = some none)
    (z_repr : PySem.W.nsIn K mainGlobals "repr" = some none)
    (z_isinstance : PySem.W.nsIn K mainGlobals "isinstance" = some none)
    (z_str : PySem.W.nsIn K mainGlobals "str" = some none)
    (z_bool : PySem.W.nsIn K mainGlobals "bool" = some none)
    (z_all : PySem.W.nsIn K mainGlobals "all" = some none)
    {tl : Tok} (u1 : PySem.W.nsIn K mainGlobals "LETTERS" = some (some (.str "abcdefghijklmnopqrstuvwxyz" tl)))
    {tn : Tok} (u2 : PySem.W.nsIn K mainGlobals "LONGEST" = some (some (.int 8 tn)))
    {tz : Tok} (u3 : PySem.W.nsIn K mainGlobals "ZERO" = some (some (.str "" tz)))
    {tk : Addr} {dK : Option Addr} {nK : Nat} {slK : Array (Option Value)} {t1 t2 t3 : Tok} (u4 : PySem.W.nsIn K mainGlobals "KINDS" = some (some (.ref tk))) (u5 : K.lookup tk = some ⟨.type "tuple", dK, .seq #[.str "plain" t1, .str "high" t2, .str "low" t3] nK, slK⟩)
    : ∃ fd : FuncData, (∀ (s : Shared) (v : Value), BindsTo s fd ⟨[v], []⟩ [("_law_script", v)]) ∧ ∀ base : Heap, K.In base → base.Ns mainGlobals mg → FnG P w K mg base CX0 4 fa fd ["_law_script"] (spLaw K) := by
  have g_is_integer := PySem.W.mg_of X G a0
  have F_is_integer := fun_mk (st := s_is_integer) l0 c0 k0
  have b_is_integer := F_is_integer.binds (ps := ["thing"]) fun _ _ _ _ _ _ us hl => match us, hl with | [_], _ => rfl
  have g_is_name := PySem.W.mg_of X G a1
  have F_is_name := fun_mk (st := s_is_name) l1 c1 k1
  have b_is_name := F_is_name.binds (ps := ["thing"]) fun _ _ _ _ _ _ us hl => match us, hl with | [_], _ => rfl
  have g_is_source := PySem.W.mg_of X G a2
  have F_is_source := fun_mk (st := s_is_source) l2 c2 k2
  have b_is_source := F_is_source.binds (ps := ["thing"]) fun _ _ _ _ _ _ us hl => match us, hl with | [_], _ => rfl
  have g_is_kind := PySem.W.mg_of X G a3
  have F_is_kind := fun_mk (st := s_is_kind) l3 c3 k3
  have b_is_kind := F_is_kind.binds (ps := ["thing"]) fun _ _ _ _ _ _ us hl => match us, hl with | [_], _ => rfl
  have g_fits := PySem.W.mg_of X G a4
  have F_fits := fun_mk (st := s_fits) l4 c4 k4
  have b_fits := F_fits.binds (ps := ["part", "kind"]) fun _ _ _ _ _ _ us hl => match us, hl with | [_, _], _ => rfl
  have g_law_bag := PySem.W.mg_of X G a5
  have F_law_bag := fun_mk (st := s_law_bag) l5 c5 k5
  have b_law_bag := F_law_bag.binds (ps := ["_law_script"]) fun _ _ _ _ _ _ us hl => match us, hl with | [_], _ => rfl
  have g_law_take := PySem.W.mg_of X G a6
  have F_law_take := fun_mk (st := s_law_take) l6 c6 k6
  have b_law_take := F_law_take.binds (ps := ["_law_bag_here", "_law_many"]) fun _ _ _ _ _ _ us hl => match us, hl with | [_, _], _ => rfl
  have g_law_alike := PySem.W.mg_of X G a7
  have F_law_alike := fun_mk (st := s_law_alike) l7 c7 k7
  have b_law_alike := F_law_alike.binds (ps := ["_law_found", "_law_due"]) fun _ _ _ _ _ _ us hl => match us, hl with | [_, _], _ => rfl
  have g_law_names := PySem.W.mg_of X G a8
  have F_law_names := fun_mk (st := s_law_names) l8 c8 k8
  have b_law_names := F_law_names.binds (ps := ["_law_bag_here", "_law_many"]) fun _ _ _ _ _ _ us hl => match us, hl with | [_, _], _ => rfl
  have g_law_odd := PySem.W.mg_of X G a9
  have F_law_odd := fun_mk (st := s_law_odd) l9 c9 k9
  have b_law_odd := F_law_odd.binds (ps := ["_law_bag_here", "_law_name"]) fun _ _ _ _ _ _ us hl => match us, hl with | [_, _], _ => rfl
  have g_law_is_name := PySem.W.mg_of X G a10
  have F_law_is_name := fun_mk (st := s_law_is_name) l10 c10 k10
  have b_law_is_name := F_law_is_name.binds (ps := ["_law_thing"]) fun _ _ _ _ _ _ us hl => match us, hl with | [_], _ => rfl
  have g_law_text := PySem.W.mg_of X G a11
  have F_law_text := fun_mk (st := s_law_text) l11 c11 k11
  have b_law_text := F_law_text.binds (ps := ["_law_bag_here"]) fun _ _ _ _ _ _ us hl => match us, hl with | [_], _ => rfl
  have g_law_right := PySem.W.mg_of X G a12
  have F_law_right := fun_mk (st := s_law_right) l12 c12 k12
  have b_law_right := F_law_right.binds (ps := ["_law_thing"]) fun _ _ _ _ _ _ us hl => match us, hl with | [_], _ => rfl
  have g_law := PySem.W.mg_of X G a13
  have F_law := fun_mk (st := s_law) l13 c13 k13
  have b_law := F_law.binds (ps := ["_law_script"]) fun _ _ _ _ _ _ us hl => match us, hl with | [_], _ => rfl
  have e := hfa.symm.trans g_law
  cases e
  have B : Blt mg := ⟨PySem.W.mg_none_of X G z_len, PySem.W.mg_none_of X G z_int, PySem.W.mg_none_of X G z_abs, PySem.W.mg_none_of X G z_range, PySem.W.mg_none_of X G z_repr, PySem.W.mg_none_of X G z_isinstance, PySem.W.mg_none_of X G z_str, PySem.W.mg_none_of X G z_bool, PySem.W.mg_none_of X G z_all⟩
  have gL := PySem.W.mg_of X G u1
  have gN := PySem.W.mg_of X G u2
  have gZ := PySem.W.mg_of X G u3
  have gK := PySem.W.mg_of X G u4
  have hK : ∀ H, SqT K H tk (kinds.map V.str) := fun H => .inr ⟨_, _, _, u5, rfl, rfl, (by show 3 ≤ sizeLine; decide), .cons ⟨_, rfl⟩ (.cons ⟨_, rfl⟩ (.cons ⟨_, rfl⟩ .nil))⟩
  refine ⟨PySem.W.fnOf "law" "law" (defArgs s_law) (defBody s_law) (defScope s_law) .none kV13 dc13 pm13 an13 cd13 ct13, fun s v => .of_eq rfl, fun base _ _ => ?_⟩
  have C_int : Cl P w K mg base 1 "is_integer" ["thing"] (spPred K isInt) := ⟨_, _, FnG.of (ok_is_integer F_is_integer B), g_is_integer, k0, b_is_integer⟩
  have C_name : Cl P w K mg base 1 "is_name" ["thing"] (spPred K isName) := ⟨_, _, FnG.of (ok_is_name F_is_name B gL gN), g_is_name, k1, b_is_name⟩
  have C_src : Cl P w K mg base 2 "is_source" ["thing"] (spPred K isSource) := ⟨_, _, ok_is_source F_is_source B gZ C_name, g_is_source, k2, b_is_source⟩
  have C_kind : Cl P w K mg base 1 "is_kind" ["thing"] (spPred K isKind) := ⟨_, _, ok_is_kind F_is_kind B gK hK, g_is_kind, k3, b_is_kind⟩
  have C_fits : Cl P w K mg base 1 "fits" ["part", "kind"] spFits := ⟨_, _, ok_fits F_fits, g_fits, k4, b_fits⟩
  have C_bag : Cl P w K mg base 1 "_law_bag" ["_law_script"] (spBag K) := ⟨_, _, ok_law_bag F_law_bag B, g_law_bag, k5, b_law_bag⟩
  have C_take : Cl P w K mg base 1 "_law_take" ["_law_bag_here", "_law_many"] spTake := ⟨_, _, FnG.of (ok_take F_law_take B), g_law_take, k6, b_law_take⟩
  have C_alike : Cl P w K mg base 1 "_law_alike" ["_law_found", "_law_due"] (Kk.spAlike K) := ⟨_, _, ok_law_alike F_law_alike B, g_law_alike, k7, b_law_alike⟩
  have C_names : Cl P w K mg base 2 "_law_names" ["_law_bag_here", "_law_many"] spNames := ⟨_, _, ok_law_names F_law_names B C_take, g_law_names, k8, b_law_names⟩
  have C_odd : Cl P w K mg base 2 "_law_odd" ["_law_bag_here", "_law_name"] (spOdd K) := ⟨_, _, ok_law_odd F_law_odd B C_take, g_law_odd, k9, b_law_odd⟩
  have C_lnm : Cl P w K mg base 1 "_law_is_name" ["_law_thing"] (spPred K isName) := ⟨_, _, ok_law_is_name F_law_is_name B, g_law_is_name, k10, b_law_is_name⟩
  have C_text : Cl P w K mg base 2 "_law_text" ["_law_bag_here"] spText := ⟨_, _, ok_law_text F_law_text B C_take, g_law_text, k11, b_law_text⟩
  have C_right : Cl P w K mg base 3 "_law_right" ["_law_thing"] (spRight K) := ⟨_, _, ok_law_right F_law_right B C_lnm C_int C_name C_src C_kind C_alike, g_law_right, k12, b_law_right⟩
  exact ok_law F_law B C_bag C_take C_names C_odd C_text C_right C_alike C_fits
theorem walk {l : PySem.W.OpenLaw} {q : Program} {loose : List Str} {XP : (Str → Option Value) → Heap → Prop} {YP : World → Heap → Prop} {d : DefRec} {K : Params → PySem.W.Frag} (hn : l.most = some 63) (hdf : d.params.defaults = [])
    (hY : ∀ (w : World) (h : Heap), YP w h → (K w.params).In h)
    (F : ∀ (w : World) (mg : Str → Option Value) (fa : Addr) (h : Heap), (K w.params).In h → h.Ns mainGlobals mg → mg d.name = some (.ref fa) →
      ∃ fd : FuncData, (∀ (s : Shared) (u : Value), BindsTo s fd ⟨[u], []⟩ [("_law_script", u)]) ∧ ∀ base : Heap, (K w.params).In base → base.Ns mainGlobals mg → FnG l.prog w (K w.params) mg base CX0 4 fa fd ["_law_script"] (spLaw (K w.params))) :
    PySem.W.WalkO q loose XP YP l.row.toRowW d [] (fun f vs => PySem.call f vs) :=
  walk_g (n := 63) (k := 4) (x := "_law_script") (sp := fun w => spLaw (K w.params)) hn (by decide) hdf ⟨rfl, by decide, by decide⟩ hY F fun _ _ a ns hl _ _ hS => ⟨a, ns, rfl, hS, hl, fun _ => rfl⟩
end Kk
open PySem PySem.W PyProof.Rows
set_option maxRecDepth 100000 in
set_option maxHeartbeats 0 in
theorem PySem.Challenge.cw_farapart_k11_kinds_holds : PySem.Challenge.rw_farapart_k11_kinds.Holds := by
  w_on; o_law; k_head; (case hw => w_witness2)
  k_fill
  refine Kk.walk (l := PySem.Challenge.rw_farapart_k11_kinds) rfl rfl (fun w h Y => PySem.W.kIn_of Y) ?F
  case F =>
    intro w mg fa h KX G hmg
    refine' Kk.all_mk KX G hmg ?a0 ?l0 ?c0 ?k0 ?a1 ?l1 ?c1 ?k1 ?a2 ?l2 ?c2 ?k2 ?a3 ?l3 ?c3 ?k3 ?a4 ?l4 ?c4 ?k4 ?a5 ?l5 ?c5 ?k5 ?a6 ?l6 ?c6 ?k6 ?a7 ?l7 ?c7 ?k7 ?a8 ?l8 ?c8 ?k8 ?a9 ?l9 ?c9 ?k9 ?a10 ?l10 ?c10 ?k10 ?a11 ?l11 ?c11 ?k11 ?a12 ?l12 ?c12 ?k12 ?a13 ?l13 ?c13 ?k13 ?z_len ?z_int ?z_abs ?z_range ?z_repr ?z_isinstance ?z_str ?z_bool ?z_all ?u1 ?u2 ?u3 ?u4 ?u5
    (case a0 => k_is)
    (case l0 => k_is)
    (case c0 => k_is)
    (case k0 => k_is)
    (case a1 => k_is)
    (case l1 => k_is)
    (case c1 => k_is)
    (case k1 => k_is)
    (case a2 => k_is)
    (case l2 => k_is)
    (case c2 => k_is)
    (case k2 => k_is)
    (case a3 => k_is)
    (case l3 => k_is)
    (case c3 => k_is)
    (case k3 => k_is)
    (case a4 => k_is)
    (case l4 => k_is)
    (case c4 => k_is)
    (case k4 => k_is)
    (case a5 => k_is)
    (case l5 => k_is)
    (case c5 => k_is)
    (case k5 => k_is)
    (case a6 => k_is)
    (case l6 => k_is)
    (case c6 => k_is)
    (case k6 => k_is)
    (case a7 => k_is)
    (case l7 => k_is)
    (case c7 => k_is)
    (case k7 => k_is)
    (case a8 => k_is)
    (case l8 => k_is)
    (case c8 => k_is)
    (case k8 => k_is)
    (case a9 => k_is)
    (case l9 => k_is)
    (case c9 => k_is)
    (case k9 => k_is)
    (case a10 => k_is)
    (case l10 => k_is)
    (case c10 => k_is)
    (case k10 => k_is)
    (case a11 => k_is)
    (case l11 => k_is)
    (case c11 => k_is)
    (case k11 => k_is)
    (case a12 => k_is)
    (case l12 => k_is)
    (case c12 => k_is)
    (case k12 => k_is)
    (case a13 => k_is)
    (case l13 => k_is)
    (case c13 => k_is)
    (case k13 => k_is)
    (case z_len => k_is)
    (case z_int => k_is)
    (case z_abs => k_is)
    (case z_range => k_is)
    (case z_repr => k_is)
    (case z_isinstance => k_is)
    (case z_str => k_is)
    (case z_bool => k_is)
    (case z_all => k_is)
    (case u1 => k_is)
    (case u2 => k_is)
    (case u3 => k_is)
    (case u4 => k_is)
    (case u5 => k_is)
#print axioms PySem.Challenge.cw_farapart_k11_kinds_holds

