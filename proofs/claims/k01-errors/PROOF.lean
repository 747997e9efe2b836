import PyProof.Rows.All
import Wide.All
import OpenK.AllK
import Wide.FinOn
import HandS.ForMost
import HandS.Codes
import HandS.ExcInit
import HandS.ExcField
import HandS.ExcIs
import HandS.ExcValue
import KE.KExcSuper
import HandS.IsInst
import HandS.ExcOwn
import HandS.HotCalls
import KE.KExcIs
import PyProof.ReprRoads
import PyProof.CallFns
import HandS.RaiseMore
import PySem.Challenge.RW_frametongue_k01_errors_each_of_its_own
import HandS.Wide
import HandS.NoneIn
import HandS.WordsExc
import HandS.TupLe
set_option Elab.async false
set_option linter.all false
set_option maxRecDepth 100000
set_option maxHeartbeats 4000000
/-! DL0: defs that run where no repr is under way (guards = some []): their promise, their body, their call, the law's end. -/
namespace DL
open PySem PySem.Spec L2
open PyProof.Rows hiding St

/-- what a def keeps where no repr is under way -/
structure FnG (P : Program) (w : World) (K : PySem.W.Frag) (mg : Str → Option Value) (base : Heap) (k : Nat) (f : Addr) (fd : FuncData) (ps : List Str) (sp : Sp) : Prop where
  size : ∀ vs H Q E, sp vs H Q E → vs.length = ps.length
  goes : ∀ (A : Around) (outer : List Env) (s : Shared) (H : Hp) (args : Args) (us : List Value) (vs : List V) (Q : VK) (E : XK), Room k A → A.guards = some [] → Env0 P w K mg base A outer s H →
    BindsTo s fd args (ps.zip us) → Vals vs us → sp vs H Q E → codeAny (model P w) A (.call (.ref f) args) (CR CX0 outer P w H s Q E) s

section
variable {P : Program} {w : World} {K : PySem.W.Frag} {mg : Str → Option Value} {base : Heap}
/-- a def by its body -/
theorem fnG_mk {x qual : Str} {st : Stmt} {f : Addr} {fd : FuncData} {N ps : List Str} {k : Nat} {sp : Sp} (F : Fun K x qual st f fd) (S : FnScope N ps (defScope st)) (len : ∀ vs H Q E, sp vs H Q E → vs.length = ps.length)
    (body : ∀ (cdv : Value) (A : Around) (outer : List Env) (s : Shared) (H : Hp) (vs : List V) (Q : VK) (E : XK), Room k (A.deeper (envOfC qual (defScope st) s.heap.objs.size f cdv)) → (A.deeper (envOfC qual (defScope st) s.heap.objs.size f cdv)).guards = some [] → sp vs H Q E →
      ∃ t, PSs (cxOf CX0 P w K mg base N qual (defScope st) f cdv A outer s H E).nox (defBody st) t ∧ t { nx := fun _ H' => Q .non H', rt := Q } (start N vs) H) : FnG P w K mg base (k + 1) f fd ps sp := by
  obtain ⟨oc, od, kV, doc, pm, an, cdv, ct, osl, rfl, look, code⟩ := F.ex
  refine ⟨len, fun A outer s H args us vs Q E room gd e0 bnd vals told => ?_⟩
  have lens := len _ _ _ _ told
  have inK : K.In s.heap := e0.mod.kin.keeps fun b o e => (e0.bs b o e).1
  have nol : s.heap.NoLimit := e0.mod.nolimit.keeps fun b o e => (e0.bs b o e).1
  have kinds : ∀ y ∈ ps.zip us, (defScope st).names.lookup y.1 = some .local ∨ ((defScope st).names.lookup y.1 = some .cell ∧ ((cellsFrom (s.heap.objs.size + 1) (defScope st).names []).lookup y.1).isSome = true) := by
    rintro ⟨n, v⟩ hy
    cases S.par n (List.of_mem_zip hy).1 with
    | inl q => exact .inl q
    | inr q => exact .inr ⟨q, PySem.W.cellsFrom_some _ _ _ (.inl q)⟩
  refine codeAny_call_function room.depth (inK _ _ look) rfl S.co S.gen rfl (PySem.W.codeRec_of inK code) ?_
  refine bnd _ _ _ _ (wpAny_newFunctionEnv_cells S.kind kinds fun env he s1 x => ?_)
  subst he
  refine ⟨nol.keeps x.toInCall.keep, codeAny_func ?_⟩
  obtain ⟨t, ht, hq⟩ := body cdv A outer s H vs Q E (room.deeper _) gd told
  have I : Inv (cxOf CX0 P w K mg base N qual (defScope st) f cdv A outer s H E) [] (start N vs) H s1 := inv_start S room.hd e0 lens vals x
  refine wpAny_mono (ht.nox.run [] s1 (start N vs) H _ I hq) (fun fl s' hs => ?_) fun _ _ hs => hs
  cases fl with
  | ret u =>
    obtain ⟨v, σ', H', J, rv, q⟩ := hs
    exact ⟨v, H', J.os, J.bare, J.base, J.hok, rv, q⟩
  | next =>
    obtain ⟨σ', H', J, q⟩ := hs
    exact ⟨V.non, H', J.os, J.bare, J.base, J.hok, rfl, q⟩
  | brk =>
    obtain ⟨_, _, _, q⟩ := hs
    exact q.elim
  | cont =>
    obtain ⟨_, _, _, q⟩ := hs
    exact q.elim
theorem FnG.up {j k : Nat} {f : Addr} {fd : FuncData} {ps : List Str} {sp : Sp} (F : FnG P w K mg base j f fd ps sp) (h : j ≤ k) : FnG P w K mg base k f fd ps sp :=
  ⟨F.size, fun A outer s H args us vs Q E hr => F.goes A outer s H args us vs Q E (hr.mono h)⟩
end

section
variable {X : Cx} {k : Nat} {f : Addr} {fd : FuncData} {ps : List Str} {sp : Sp} {dvs : List V} {ds : List Value} {x : Str} {p pos : Pos} {e : Expr} {es : List Expr} {t : TA}
theorem runG {pins : List (Addr × Obj)} {σ : St} {H : Hp} {s : Shared} {Q : VK} {us : List Value} {vs : List V} (F : FnG X.prog X.w X.K X.mg X.base k f fd ps sp) (room : Room k X.A) (gd : X.A.guards = some []) (bnd : Binds X.K fd ps ds) (dv : Vals dvs ds)
    (I : Inv X pins σ H s) (r : Vals vs us) (h : sp (vs ++ dvs) H Q E0) : wpAny (model X.prog X.w) X.A (call (.ref f) us) (EP X pins σ Q) X.xe s := by
  have both : Vals (vs ++ dvs) (us ++ ds) := r.append dv
  have lens : (us ++ ds).length = ps.length := both.length.symm.trans (F.size _ _ _ _ h)
  refine wpAny_call (codeAny_mono (F.goes X.A X.stack s H ⟨us, []⟩ (us ++ ds) (vs ++ dvs) Q E0 room gd I.env0 (bnd s us I.kIn lens) both h) fun res s' hq => ?_)
  match res, hq with
  | .error e, hq => exact hq.elim
  | .ok (.ret u), hq => exact I.after hq
theorem pe_cG (F : FnG X.prog X.w X.K X.mg X.base k f fd ps sp) (room : Room k X.A) (gd : X.A.guards = some []) (hg : Gl X x) (hm : X.mg x = some (.ref f)) (hk : PySem.W.keepIn X.K (.ref f) = true) (bnd : Binds X.K fd ps ds) (dv : Vals dvs ds)
    (ha : PA X (e :: es) t) (hdb : (x == ("__debug__" : Str)) = false := by decide) (he : starEach (e :: es) X.env = (false, eval e X.env) :: starEach es X.env := by rfl) (hpl : (backTo pos (starEach es X.env)).any (·.1) = false := by rfl) :
    PE X (.Call (.Name x p) (e :: es) [] pos) (tCall sp dvs E0 t) := ⟨fun pins s σ H Q I h => wpAny_Call_Name_kw (ld_glob I hg hm
    (PySem.W.callWith_K (h₀ := X.base) I.ok.mod.kin hk (thn (ha.run pos pins s σ H _ I h) fun us s1 ⟨vs, H1, I1, r, q⟩ => ⟨I1.kIn, runG F room gd bnd dv I1 r q⟩) he hpl) hdb)⟩
theorem pe_cG0 (F : FnG X.prog X.w X.K X.mg X.base k f fd ps sp) (room : Room k X.A) (gd : X.A.guards = some []) (hg : Gl X x) (hm : X.mg x = some (.ref f)) (hk : PySem.W.keepIn X.K (.ref f) = true) (bnd : Binds X.K fd ps ds) (dv : Vals dvs ds)
    (hdb : (x == ("__debug__" : Str)) = false := by decide) : PE X (.Call (.Name x p) [] [] pos) (tCall sp dvs E0 tNil) := ⟨fun pins s σ H Q I h => wpAny_Call_Name_kw (ld_glob I hg hm (PySem.W.callWith_K0 I.kIn hk (runG (us := []) F room gd bnd dv I .nil h)) hdb)⟩
/-- a def of the module, ready to be called by its name: the values of the defaults that the call leaves out -/
structure Clb (P : Program) (w : World) (K : PySem.W.Frag) (mg : Str → Option Value) (base : Heap) (k : Nat) (x : Str) (sp : Sp) (dvs : List V) : Prop where
  ex : ∃ (f : Addr) (fd : FuncData) (ps : List Str) (ds : List Value), FnG P w K mg base k f fd ps sp ∧ mg x = some (.ref f) ∧ PySem.W.keepIn K (.ref f) = true ∧ Binds K fd ps ds ∧ Vals dvs ds
theorem pe_clb {j : Nat} (c : Clb X.prog X.w X.K X.mg X.base k x sp dvs) (room : Room j X.A) (hk : k ≤ j) (gd : X.A.guards = some []) (hg : Gl X x)
    (ha : PA X (e :: es) t) (hdb : (x == ("__debug__" : Str)) = false := by decide) (he : starEach (e :: es) X.env = (false, eval e X.env) :: starEach es X.env := by rfl) (hpl : (backTo pos (starEach es X.env)).any (·.1) = false := by rfl) :
    PE X (.Call (.Name x p) (e :: es) [] pos) (tCall sp dvs E0 t) := by
  obtain ⟨f, fd, ps, ds, F, hm, kp, b, d⟩ := c.ex
  exact pe_cG F (room.mono hk) gd hg hm kp b d ha hdb he hpl
theorem pe_clb0 {j : Nat} (c : Clb X.prog X.w X.K X.mg X.base k x sp dvs) (room : Room j X.A) (hk : k ≤ j) (gd : X.A.guards = some []) (hg : Gl X x)
    (hdb : (x == ("__debug__" : Str)) = false := by decide) : PE X (.Call (.Name x p) [] [] pos) (tCall sp dvs E0 tNil) := by
  obtain ⟨f, fd, ps, ds, F, hm, kp, b, d⟩ := c.ex
  exact pe_cG0 F (room.mono hk) gd hg hm kp b d hdb
end

/-! ### the law's end -/
section
variable {P : Program} {w : World} {K : PySem.W.Frag} {mg mb : Str → Option Value} {k : Nat} {fa a : Addr} {fd : FuncData} {x : Str} {sp : Sp} {s₁ : Shared} {vs : List Value} {ns : List Int}
/-- from a heap H in which nothing but the script is tracked -/
theorem law_at (H : Hp) (KX : K.In s₁.heap) (hns : s₁.heap.Ns mainGlobals mg) (hb : s₁.heap.Ns builtinsNs mb) (hbb : ∀ x : Str, x ≠ "__name__" → mb x = bootBuiltins x) (hlim : s₁.heap.NoLimit) (hg : s₁.gens = #[])
    (room : Room k callerA) (F : ∀ base : Heap, K.In base → base.Ns mainGlobals mg → FnG P w K mg base k fa fd [x] sp) (hbind : ∀ (s : Shared) (u : Value), BindsTo s fd ⟨[u], []⟩ [(x, u)])
    (told : sp [.ref a] H (fun v _ => v = .bl true) fun _ _ _ => False) (ok : HOk P w H s₁.heap)
    (only : ∀ b, H b = none ∨ ∃ o xs, H b = some (.frz o (.lst xs))) (nod : ∀ b o es ep, s₁.heap.get? b = some o → o.data = .dict es ep → H b = none) (noK : ∀ b o, K.lookup b = some o → H b = none) :
    codeAny (model P w) callerA (.call (.ref fa) ⟨[.ref a], []⟩) (fun r s' => r = .ok (.ret (.bool true)) ∧ OldK s₁.heap s'.heap ∧ s'.os = s₁.os ∧ AllBare s'.gens) s₁ := by
  have space : ∀ {b : Addr} {m : Str → Option Value}, s₁.heap.Ns b m → (hidT s₁.heap H).Ns b m := by
    rintro b m ⟨o, es, ep, e, d, r⟩
    exact ⟨o, es, ep, hidT_get e (nod b o es ep e d), d, r⟩
  have inB : K.In (hidT s₁.heap H) := fun b o e => hidT_get (KX b o e) (noK b o e)
  obtain ⟨mc, c1, c2⟩ := id hlim
  have e0 : Env0 P w K mg (hidT s₁.heap H) callerA [] s₁ H := {
    frames := rfl
    mod := ⟨inB, space hns, ⟨mb, space hb, hbb⟩, ⟨mc, space c1, c2⟩⟩
    bs := fun b o e => of_hidT e
    bsz := Nat.le_of_eq (hidT_size _ _)
    funs := trivial
    frf := fun b z => nomatch (show b ∈ ([] : List Addr) from z)
    hok := ok
    bare := .of_eq hg }
  refine codeAny_mono ((F _ inB (space hns)).goes callerA [] s₁ H ⟨[.ref a], []⟩ [.ref a] [.ref a] _ _ room rfl e0 (hbind s₁ (.ref a)) (.cons rfl .nil) told) fun res s' h => ?_
  match res, h with
  | .error e, h => exact h.elim
  | .ok (.ret u), ⟨v, H', os, bare, un, hok', r', q⟩ =>
    obtain rfl : v = .bl true := q
    obtain rfl : u = Value.bool true := r'
    refine ⟨rfl, OldK.of_keep fun b o e => ?_, os, bare⟩
    rcases only b with z | ⟨ob, xs, z⟩
    · exact un.keep b o e z (fun y => nomatch (show b ∈ ([] : List Addr) from y)) (fun y => nomatch y)
    · obtain ⟨e1, _⟩ := ok b _ z
      obtain ⟨e2, _⟩ := hok' b _ (un.frzs b ob _ z)
      rw [e] at e1
      cases e1
      exact e2
theorem law_G (KX : K.In s₁.heap) (hns : s₁.heap.Ns mainGlobals mg) (hb : s₁.heap.Ns builtinsNs mb) (hbb : ∀ x : Str, x ≠ "__name__" → mb x = bootBuiltins x) (hlim : s₁.heap.NoLimit) (hg : s₁.gens = #[])
    (ha : s₁.heap.get? a = some { cls := .type "list", data := .seq vs.toArray }) (hi : IntsAre vs ns) (hl : ns.length ≤ sizeLine) (room : Room k callerA)
    (F : ∀ base : Heap, K.In base → base.Ns mainGlobals mg → FnG P w K mg base k fa fd [x] sp) (hbind : ∀ (s : Shared) (u : Value), BindsTo s fd ⟨[u], []⟩ [(x, u)])
    (hsp : ∀ H : Hp, SqL K H a (ns.map V.int) → sp [.ref a] H (fun v _ => v = .bl true) fun _ _ _ => False) :
    codeAny (model P w) callerA (.call (.ref fa) ⟨[.ref a], []⟩) (fun r s' => r = .ok (.ret (.bool true)) ∧ OldK s₁.heap s'.heap ∧ s'.os = s₁.os ∧ AllBare s'.gens) s₁ := by
  have rv := vals_ints hi
  by_cases hk : ∃ o, K.lookup a = some o
  · obtain ⟨o, hk⟩ := hk
    have e := KX a o hk
    rw [ha] at e
    cases e
    refine law_at (fun _ => none) KX hns hb hbb hlim hg room F hbind (hsp _ (.inr ⟨_, vs.toArray, _, hk, rfl, rfl, rfl, ?_, by simpa using rv⟩)) (fun b u z => nomatch z) (fun _ => .inl rfl) (fun _ _ _ _ _ _ => rfl) (fun _ _ _ => rfl)
    rw [List.size_toArray, hi.length]
    exact hl
  · have nk : K.lookup a = none := by
      cases e : K.lookup a with
      | none => rfl
      | some o => exact absurd ⟨o, e⟩ hk
    let H : Hp := upd (fun _ => none) a (.frz { cls := .type "list", data := .seq vs.toArray } (.lst (ns.map V.int)))
    have at_ : ∀ b, (b = a ∧ H b = some (.frz { cls := .type "list", data := .seq vs.toArray } (.lst (ns.map V.int)))) ∨ (b ≠ a ∧ H b = none) := fun b => by
      by_cases q : b = a
      · exact .inl ⟨q, by rw [q]; exact upd_same⟩
      · exact .inr ⟨q, upd_ne q⟩
    refine law_at H KX hns hb hbb hlim hg room F hbind (hsp H (.inl (.inr ⟨_, upd_same⟩))) (fun b u z => ?_) (fun b => ?_) (fun b o es ep e d => ?_) (fun b o e => ?_)
    · rcases at_ b with ⟨rfl, q⟩ | ⟨_, q⟩
      · rw [q] at z
        cases z
        exact ⟨ha, by rw [List.length_map]; exact hl, vs, _, rv, ha⟩
      · rw [q] at z
        cases z
    · rcases at_ b with ⟨_, q⟩ | ⟨_, q⟩
      · exact .inr ⟨_, _, q⟩
      · exact .inl q
    · rcases at_ b with ⟨rfl, q⟩ | ⟨_, q⟩
      · rw [ha] at e
        cases e
        have d' : Data.seq vs.toArray _ = Data.dict es ep := d
        cases d'
      · exact q
    · rcases at_ b with ⟨rfl, q⟩ | ⟨_, q⟩
      · rw [nk] at e
        cases e
      · exact q
end
/-- the goal that k_head leaves, from the law's promise -/
theorem walkG {l : PySem.W.OpenLaw} {n k : Nat} {q : Program} {loose : List Str} {XP : (Str → Option Value) → Heap → Prop} {YP : World → Heap → Prop} {d : DefRec} {K : Params → PySem.W.Frag} {sp : PySem.W.Frag → Sp} {x : Str}
    (hn : l.most = some n) (hn2 : n ≤ sizeLine) (hdf : d.params.defaults = []) (room : Room k callerA) (hY : ∀ (w : World) (h : Heap), YP w h → (K w.params).In h)
    (F : ∀ (w : World) (mg : Str → Option Value) (fa : Addr) (h : Heap), (K w.params).In h → h.Ns mainGlobals mg → mg d.name = some (.ref fa) →
      ∃ fd : FuncData, (∀ (s : Shared) (u : Value), BindsTo s fd ⟨[u], []⟩ [(x, u)]) ∧ ∀ base : Heap, (K w.params).In base → base.Ns mainGlobals mg → FnG l.prog w (K w.params) mg base k fa fd [x] (sp (K w.params)))
    (hsp : ∀ (K : PySem.W.Frag) (H : Hp) (a : Addr) (ns : List Int), ns.length ≤ n → SqL K H a (ns.map V.int) → sp K [.ref a] H (fun v _ => v = .bl true) fun _ _ _ => False) :
    PySem.W.WalkO q loose XP YP l.row.toRowW d [] (fun f vs => PySem.call f vs) := by
  refine Att.attach_call hn hdf fun w s₀ s₁ mg mb fa o pm cd doc a vs ns G Y ho hd hcd hmg hobj hints hlen hg => ?_
  obtain ⟨fd, hb, hF⟩ := F w mg fa _ (hY w _ Y) G.T.g hmg
  exact law_G (hY w _ Y) G.T.g G.T.b G.T.builtins G.T.nolimit hg hobj hints (Nat.le_trans hlen hn2) room hF hb fun H hS => hsp (K w.params) H a ns hlen hS
end DL
/-! E1: own exceptions whose __init__ says super().__init__(p, ..); self.p = p; ..: how they are made. -/
namespace DL
open PySem PySem.Spec PySem.W PySem.Calls L2
open PyProof.Rows hiding St wpAt

section
variable {prog : Program} {w : World} {A : Around} {E : Value → Shared → Prop} {s : Shared} {K : Frag} {mg mb m : Str → Option Value} {x C L f cda cc : Addr}

/-- Exception's __init__ by the wrapper, called -/
theorem su_call {u t0 : Addr} {us : List Value} {h : Heap} {g : Array GenState} {d : Drawn} {tk : Nat} {os : OsState} {Q : Value → Shared → Prop} (X : K.In h) (q : excInitIn K C [.type "ValueError", .type "Exception", .type "BaseException", .type "object"] "ValueError.__new__" = true)
    (hu : h.get? u = some (kxs_mw "ValueError.__init__" x)) (hx : h.get? x = some (HandSPX.excO C t0)) (hz : us.length ≤ sizeLine)
    (hq : ∀ h' t1, (∀ b o, b ≠ x → h.get? b = some o → h'.get? b = some o) → h'.get? x = some (HandSPX.excO C t1) → Q .none ⟨h', g, d, tk, os⟩) :
    wpAny (model prog w) A (call (.ref u) us) Q E ⟨h, g, d, tk, os⟩ := by
  have FB := F.excBase_ValueError
  obtain ⟨nm, N', qn, bs, bm, hdct, sn, sub, ab, col, dd, k0, k1, k2, k3, k5, hC, hT⟩ := excInit_of X q
  refine wpAny_call (codeAny_of_tree ?_)
  show wpAny _ A.in1 (callAny (.ref u) ⟨us, []⟩) _ _ _
  simp only [callAny]
  refine wpAny_bind (wpAny_load hu ?_)
  simp only [kxs_mw, show (Value.type "method-wrapper" == Value.type "method" || Value.type "method-wrapper" == Value.type "builtin_function_or_method" || Value.type "method-wrapper" == Value.type "method-wrapper") = true by decide, if_true]
  refine KFB.if_so (by decide) ?_
  refine wpAny_bind (check_bound_init FB.toExcCallFacts hC hx rfl ?_)
  refine wpAny_bind (wpAny_pure (wpAny_pure ?_))
  refine ⟨plainId_quiet FB.init.plain _, codeAny_builtin FB.initEntry ?_⟩
  exact exc_init_tree (cls := .ref C) (t0 := t0) (dv := none) (c2 := .none) (c3 := .none) (b4 := .bool false) hx hz fun h' k e' _ => hq h' _ k e'

theorem su_super {body : List Stmt} {q : Str} {scope : Scope} {p0 p1 p2 p3 p4 : Pos} {fd : FuncData} {ar : Arg} {vs : Array Value} {file : Str} {tf : Tok} {oc ccl cl : Value} {od cdd cld : Option Addr} {osl ccs csl : Array (Option Value)} {t0 : Addr} {e : Expr} {es : List Expr} {us : List Value} {Q : Flow → Shared → Prop}
    (X : K.In s.heap) (hg : s.heap.Ns mainGlobals mg) (hmg : mg "super" = none) (hb : s.heap.Ns builtinsNs mb) (hbs : mb "super" = some (.type "super")) (hn : s.heap.Ns L m) (hx : s.heap.get? x = some (HandSPX.excO C t0)) (hxC : x ≠ C)
    (hf : K.lookup f = some ⟨oc, od, .func fd, osl⟩) (hp : (fd.params.posonlyargs ++ fd.params.args).head? = some ar) (hv : m ar.arg = some (.ref x))
    (hcode : K.lookup cda = some ⟨ccl, cdd, .fields vs, ccs⟩) (hvs : vs[2]? = some (.str file tf)) (hfile : ((prog.main.file : Str) == file) = true)
    (hcell : K.lookup cc = some ⟨cl, cld, .cell (some (.ref C)), csl⟩) {cdC : ClassData} (hcls : clsIn K C = some cdC) (hsub : mroIn K C (.ref C) = some true)
    (hks : scope.names.lookup ("super" : Str) = some .globalImplicit) (hkc : scope.names.lookup ("__class__" : Str) = some .free) (hka : scope.names.lookup ar.arg = some .local) (hk : scope.kind = .function)
    (htop : (prog.main.scope.names.lookup ("super" : Str)).isSome = false) (hsup : ks_superIn K C C "__init__" = some (some (.builtin "ValueError.__init__"))) (hB : subIn K (.ref C) (.type "ValueError") = some true)
    (hop : nsIn K cStatics "thirdparty.any" = some none) (qx : excInitIn K C [.type "ValueError", .type "Exception", .type "BaseException", .type "object"] "ValueError.__new__" = true) (hz : us.length ≤ sizeLine)
    (hi : interactive (ksEnv q scope L f (.ref cda) cc) = false) {pl : Sem Bool}
    (hev : eval (.Call (.Attribute (.Call (.Name "super" p0) [] [] p1) "__init__" p2) (e :: es) [] p3) (ksEnv q scope L f (.ref cda) cc) = (do
      let ov ← attributeBase (.Call (.Name "super" p0) [] [] p1) "__init__" (ksEnv q scope L f (.ref cda) cc) (eval (.Call (.Name "super" p0) [] [] p1) (ksEnv q scope L f (.ref cda) cc))
      standAt p2.atName
      let (f', first) ← holding [ov] (getMethod ov "__init__" pl)
      callWith p3 f' first (backTo p3 (starEach (e :: es) (ksEnv q scope L f (.ref cda) cc))) []))
    (he : starEach (e :: es) (ksEnv q scope L f (.ref cda) cc) = (false, eval e (ksEnv q scope L f (.ref cda) cc)) :: starEach es (ksEnv q scope L f (.ref cda) cc)) (hpl : (backTo p3 (starEach es (ksEnv q scope L f (.ref cda) cc))).any (·.1) = false)
    (ha : ∀ s' : Shared, (∀ b o, s.heap.get? b = some o → s'.heap.get? b = some o) → wpAny (model prog w) A (spliced (backTo p3 (starEach (e :: es) (ksEnv q scope L f (.ref cda) cc)))) (fun vs s'' => s'' = s' ∧ vs = us) E s')
    (hq : ∀ h' tk t1, (∀ b o, b ≠ x → s.heap.get? b = some o → h'.get? b = some o) → h'.get? x = some (HandSPX.excO C t1) → Q .next { s with heap := h', toks := tk }) :
    wpAt (model prog w) A (.func body (ksEnv q scope L f (.ref cda) cc)) (exec (.Expr (.Call (.Attribute (.Call (.Name "super" p0) [] [] p1) "__init__" p2) (e :: es) [] p3) p4) (ksEnv q scope L f (.ref cda) cc)) Q E s := by
  obtain ⟨hh, g, d, t, os⟩ := s
  obtain ⟨oD, hD1, hD2⟩ : ∃ oD, hh.get? C = some oD ∧ oD.data = .cls cdC := by
    unfold clsIn at hcls
    split at hcls
    · rename_i c d cd' sl ho
      cases hcls
      exact ⟨_, X _ _ ho, rfl⟩
    · cases hcls
  refine ks_wpAt_Expr_any (ks_wpAt_MethodCall (pl := pl) ?_ hev) hi
  refine ks_wpAt_super_base (env := ksEnv q scope L f (.ref cda) cc) hks hkc (by decide) rfl (X _ _ hf) rfl hp rfl (X _ _ hcode) rfl hvs hfile htop ?_
  refine ks_loadName_global hk hks (loadGlobal_builtin (env := ksEnv q scope L f (.ref cda) cc) hg hmg hb hbs ⟨rfl, ?_⟩)
  refine wpAny_loadName_free hk hkc rfl ⟨_, X _ _ hcell, rfl⟩ ?_
  refine wpAny_loadName_local hk hka hn hv ?_
  refine ks_wpAny_isType_cls hD1 hD2 ⟨rfl, ?_⟩
  have I : InstAt hh x (HandSPX.excO C t0) C none := ⟨hx, rfl, rfl, trivial⟩
  refine ks_wpAny_call_super hD1 hD2 I.at_ I.cls (fun c e => ?_) (looks_mroIn X hsub) (fun h1 e1 k1 => ?_)
  · have := I.no
    unfold notCls at this
    rw [e] at this
    exact Bool.noConfusion this
  have X1 : K.In h1 := X.keeps k1
  have I1 : InstAt h1 x (HandSPX.excO C t0) C none := ⟨k1 _ _ hx, rfl, rfl, trivial⟩
  have hI : Looks (model prog w) h1 (isInstance (.ref x) (.type "ValueError")) true := I1.type.andThen (looks_subIn X1 hB)
  have hm : alongIn K "__init__" ((cdC.mro.dropWhile (· != .ref C)).drop 1) = some (some (.builtin "ValueError.__init__")) := by
    unfold ks_superIn at hsup
    rw [hcls] at hsup
    exact hsup
  refine kxs_getMethod kxs_ValueError e1 (looks_opaque X1 hop) (l₀ := cdC.mro) (fun A Q E s k q => wpAny_bind ((looks_clsIn X1 hcls) A _ E s k (wpAny_pure q))) rfl X1 hm hI hxC (by decide) ?_
  dsimp only
  have k2 : ∀ b o, hh.get? b = some o → (h1.push (kxs_mw "ValueError.__init__" x)).get? b = some o := fun b o z => Heap.get?_push_of_some _ (k1 b o z)
  have hu : (h1.push (kxs_mw "ValueError.__init__" x)).get? h1.objs.size = some (kxs_mw "ValueError.__init__" x) := Heap.get?_push_size h1 rfl
  have ha' := ha ⟨h1.push (kxs_mw "ValueError.__init__" x), g, d, t + 1, os⟩ k2
  rw [he] at ha' ⊢
  refine kxs_callWith (i := "ValueError.__init__") (x := x) (by show (false || (backTo p3 (starEach es (ksEnv q scope L f (.ref cda) cc))).any (·.1)) = false; rw [hpl]; rfl) ?_
  refine evalArgs_plain (wpAny_mono ha' (fun vs s2 hs => ?_) fun _ _ z => z)
  obtain ⟨rfl, rfl⟩ := hs
  refine ⟨hu, ?_⟩
  show wpAny _ _ (call (.ref h1.objs.size) vs) _ _ _
  refine su_call (X.keeps k2) qx hu (k2 _ _ hx) hz fun h' t1 k3 e3 => ?_
  exact hq h' _ t1 (fun b o hb z => k3 b o hb (k2 b o z)) e3

/-- what stands for the class C and its __init__, the def st at fI, whose parameters behind self are ps -/
structure SuC (K : Frag) (prog : Program) (C fI : Addr) (ps : List Str) (st : Stmt) : Prop where
  cls : ∃ nm q N bs bm sn sub ab col dd k0 k1 k2 k3 k5, K.lookup C = some (excClassObj nm q C N bs bm true sn sub ab col dd k0 k1 k2 k3 k5 "ValueError.__new__") ∧ HandSPX.refsVE bm = true
  qx : excInitIn K C [.type "ValueError", .type "Exception", .type "BaseException", .type "object"] "ValueError.__new__" = true
  sa : findIn K (.ref C) "__setattr__" = some (some (.builtin "object.__setattr__"))
  no : ∀ n ∈ ps, findIn K (.ref C) n = some none
  iC : findIn K (.ref C) "__init__" = some (some (.ref fI))
  tI : typeIn K (.ref fI) = some (.type "function")
  sup : ks_superIn K C C "__init__" = some (some (.builtin "ValueError.__init__"))
  hB : subIn K (.ref C) (.type "ValueError") = some true
  hsub : mroIn K C (.ref C) = some true
  hop : nsIn K cStatics "thirdparty.any" = some none
  fn : ∃ (qual : Str) (oc : Value) (od : Option Addr) (kV doc pm : Value) (an : Option Addr) (cda : Addr) (ct : Value) (osl : Array (Option Value)) (cc : Addr) (ccl : Value) (cdd : Option Addr) (vs : Array Value) (ccs : Array (Option Value)) (file : Str) (tf : Tok) (cl : Value) (cld : Option Addr) (csl : Array (Option Value)),
    K.lookup fI = some ⟨oc, od, .func (fnX "__init__" qual (defArgs st) (defBody st) (defScope st) [("__class__", cc)] .none kV doc pm an (.ref cda) ct), osl⟩ ∧ codeIn K (.ref cda) qual = true ∧ K.lookup cda = some ⟨ccl, cdd, .fields vs, ccs⟩ ∧
    vs[2]? = some (.str file tf) ∧ ((prog.main.file : Str) == file) = true ∧ K.lookup cc = some ⟨cl, cld, .cell (some (.ref C)), csl⟩
  top : (prog.main.scope.names.lookup ("super" : Str)).isSome = false
/-- what an __init__ leaves of a new exception at x -/
structure SuEnd (h h' : Heap) (x C dx t1 : Addr) (mA : Str → Option Value) : Prop where
  keep : ∀ b o, b ≠ x → h.get? b = some o → h'.get? b = some o
  obj : h'.get? x = some { cls := .ref C, dict := some dx, data := .fields #[.ref t1, .none, .none, .none, .bool false, .none] }
  dbig : h.objs.size ≤ dx
  dne : dx ≠ x
  ns : h'.Ns1 dx mA
/-- the module's names that super() asks -/
structure SuMod (mg : Str → Option Value) (h : Heap) : Prop where
  g : h.Ns mainGlobals mg
  no : mg "super" = none
  b : ∃ mb, h.Ns builtinsNs mb ∧ mb "super" = some (.type "super")
  lim : h.NoLimit
theorem SuMod.keeps {h h' : Heap} (M : SuMod mg h) (k : ∀ b o, h.get? b = some o → h'.get? b = some o) : SuMod mg h' :=
  ⟨M.g.keeps k, M.no, let ⟨mb, a, b⟩ := M.b; ⟨mb, a.keeps k, b⟩, M.lim.keeps k⟩
theorem su_init1 {R : Result → Shared → Prop} {fI : Addr} {n : Str} {st : Stmt} {p0 p1 p2 p3 p4 q0 q1 q2 q3 q4 : Pos} {pars : Arguments} (T : SuC K prog C fI [n] st) {t0 : Addr} {v : Value} {args : Args} (X : K.In s.heap) (Md : SuMod mg s.heap) (hx : s.heap.get? x = some (HandSPX.excO C t0)) (hxC : x ≠ C) (hnx : K.lookup x = none)
    (hroom : A.depth < recursionLimit) (hbody : defBody st = [.Expr (.Call (.Attribute (.Call (.Name "super" p0) [] [] p1) "__init__" p2) [.Name n q0] [] p3) p4, .Assign [.Attribute (.Name "self" q1) n q2] (.Name n q3) q4])
    (hk : (defScope st).kind = .function) (hks : (defScope st).names.lookup ("super" : Str) = some .globalImplicit) (hkc : (defScope st).names.lookup ("__class__" : Str) = some .free) (hls : (defScope st).names.lookup ("self" : Str) = some .local) (hln : (defScope st).names.lookup n = some .local)
    (hcell : ∀ y ∈ (defScope st).names, y.2 ≠ .cell) (hco : (defScope st).isCoroutine = false) (hgen : (defScope st).isGenerator = false) {ar : Arg} (hp : ((defArgs st).posonlyargs ++ (defArgs st).args).head? = some ar) (har : ar.arg = "self") (hn0 : (n == ("__debug__" : Str)) = false) (hns : (n == ("self" : Str)) = false)
    (hbind : ∀ (qual : Str) (kV doc pm : Value) (an : Option Addr) (cdv ct : Value) (cc : Addr), BindsTo s (fnX "__init__" qual (defArgs st) (defBody st) (defScope st) [("__class__", cc)] .none kV doc pm an cdv ct) args [("self", .ref x), (n, v)])
    (hi : ∀ q L f cda cc, interactive (ksEnv q (defScope st) L f cda cc) = false) (pl : Str → Addr → Addr → Value → Addr → Sem Bool)
    (hev : ∀ q L f cda cc, eval (.Call (.Attribute (.Call (.Name "super" p0) [] [] p1) "__init__" p2) [.Name n q0] [] p3) (ksEnv q (defScope st) L f cda cc) = (do
      let ov ← attributeBase (.Call (.Name "super" p0) [] [] p1) "__init__" (ksEnv q (defScope st) L f cda cc) (eval (.Call (.Name "super" p0) [] [] p1) (ksEnv q (defScope st) L f cda cc))
      standAt p2.atName
      let (f', first) ← holding [ov] (getMethod ov "__init__" (pl q L f cda cc))
      callWith p3 f' first (backTo p3 (starEach [.Name n q0] (ksEnv q (defScope st) L f cda cc))) []))
    (hsw : ∀ q L f cda cc, swapsWith (.Name n q3) (some (.Attribute (.Name "self" q1) n q2)) q4.line (ksEnv q (defScope st) L f cda cc) = pure false)
    (hq : ∀ h' tk dx t1, SuEnd s.heap h' x C dx t1 (fun y => if y = n then some v else none) → R (.ok (.ret .none)) { s with heap := h', toks := tk }) :
    codeAny (model prog w) A (.call (.ref fI) args) R s := by
  obtain ⟨qual, oc, od, kV, doc, pm, an, cda, ct, osl, cc, ccl, cdd, vs, ccs, file, tf, cl, cld, csl, ho, hcd, hcode, hvs, hfile, hcellK⟩ := T.fn
  obtain ⟨nm, qn, N, bs, bm, sn, sub, ab, col, dd, k0, k1, k2, k3, k5, hC, hbm⟩ := T.cls
  have hcl : clsIn K C = some { name := nm, bases := bs, mro := .ref C :: bm, ns := N, qualname := qn, hasDict := true, slotNames := sn, subclasses := sub, abstract := ab, collection := col, hasDel := false } := by unfold clsIn; rw [hC] <;> rfl
  refine ks_codeAny_call_defAt (body := defBody st) (binds := [("self", .ref x), (n, v)]) hroom (X _ _ ho) rfl Md.lim (codeRec_of X hcd) rfl (hbind qual kV doc pm an (.ref cda) ct cc) hcell ?_ (fun h0 hn0' k0' => ?_) hco hgen hk
  · intro y hy
    simp only [List.mem_cons, List.not_mem_nil, or_false] at hy
    rcases hy with rfl | rfl
    · exact hls
    · exact hln
  have M0 := Md.keeps k0'
  obtain ⟨mb, b1, b2⟩ := M0.b
  have X0 : K.In h0 := X.keeps k0'
  have hx0 := k0' _ _ hx
  have vself : (fun y : Str => List.lookup y [(n, v), (("self" : Str), Value.ref x)]) "self" = some (.ref x) := by
    show (match (("self" : Str) == n) with | true => some v | false => List.lookup ("self" : Str) [(("self" : Str), Value.ref x)]) = _
    have z : (("self" : Str) == n) = false := by
      rw [← hns]
      exact Bool.beq_comm ..
    rw [z]
    simp
  have vn : (fun y : Str => List.lookup y [(n, v), (("self" : Str), Value.ref x)]) n = some v := by simp
  show wpAt _ _ (.func (defBody st) (ksEnv qual (defScope st) s.heap.objs.size fI (.ref cda) cc)) (execs (defBody st) (ksEnv qual (defScope st) s.heap.objs.size fI (.ref cda) cc)) _ _ _
  rw [show execs (defBody st) (ksEnv qual (defScope st) s.heap.objs.size fI (.ref cda) cc) = execs [.Expr (.Call (.Attribute (.Call (.Name "super" p0) [] [] p1) "__init__" p2) [.Name n q0] [] p3) p4, .Assign [.Attribute (.Name "self" q1) n q2] (.Name n q3) q4] (ksEnv qual (defScope st) s.heap.objs.size fI (.ref cda) cc) by rw [hbody]]
  refine ks_wpAt_execs_cons ?_
  refine su_super (K := K) (mg := mg) (mb := mb) (x := x) (C := C) (L := s.heap.objs.size) (us := [v]) X0 M0.g M0.no b1 b2 hn0' hx0 hxC ho hp (by rw [har]; exact vself) hcode hvs hfile hcellK hcl T.hsub hks hkc (by rw [har]; exact hls) hk T.top T.sup T.hB T.hop T.qx (by rw [sizeLine_eq]; show 1 ≤ 16777216; decide)
    (hi _ _ _ _ _) (hev _ _ _ _ _) rfl rfl (fun s' ks => ?_) fun h1 tk1 t1 k1 hx1 => ?_
  · refine spliced_cons ?_
    refine wpAny_Name (wpAny_loadName_local hk hln (hn0'.keeps ks) vn ?_) hn0
    exact spliced_nil ⟨rfl, rfl⟩
  · have hnL : h1.Ns s.heap.objs.size (fun y : Str => List.lookup y [(n, v), (("self" : Str), Value.ref x)]) := by
      obtain ⟨o, es, ep, e1, r⟩ := hn0'
      exact ⟨o, es, ep, k1 _ _ (Nat.ne_of_gt (Heap.lt_size hx)) e1, r⟩
    refine wpAt_of_wpAny ?_
    refine wpAny_execs_cons (plainObj_wpAny_Assign_Attribute ?_ (hsw _ _ _ _ _))
    refine wpAny_Name (wpAny_loadName_local hk hln hnL vn ?_) hn0
    refine wpAny_Name (wpAny_loadName_local hk hls hnL vself ?_) (by decide)
    have XC : x ≠ C := hxC
    have X1 : K.In h1 := fun b o e => k1 b o (fun z => by rw [z, hnx] at e; cases e) (X0 b o e)
    refine set_plain X1 (ox := HandSPX.excO C t1) (od := none) ⟨hx1, rfl, rfl, trivial⟩ T.sa ?_
    refine HandSPX.exc_osa X1 hx1 hcl (show HandSPX.refsVE (.ref C :: bm) = true from hbm) rfl (T.no n (by simp)) (fun h3 tk3 dx k3 dn dne hx3 hn3 => ?_)
    show wpAny _ _ (execs _ _) _ _ _
    refine wpAny_execs_nil (hq h3 tk3 dx t1 ⟨fun b o hb e => k3 b o hb (k1 b o hb (k0' b o e)), hx3, ?_, dne, hn3⟩)
    have z2 : s.heap.objs.size < h1.objs.size := hnL.lt
    exact Nat.le_of_lt (Nat.lt_of_lt_of_le z2 dn)

theorem su_init2 {R : Result → Shared → Prop} {fI : Addr} {st : Stmt} {p0 p1 p2 p3 p4 q0 q0' q1 q2 q3 q4 r1 r2 r3 r4 : Pos} (T : SuC K prog C fI ["row", "word"] st) {t0 : Addr} {v u : Value} {args : Args} (X : K.In s.heap) (Md : SuMod mg s.heap) (hx : s.heap.get? x = some (HandSPX.excO C t0)) (hxC : x ≠ C) (hnx : K.lookup x = none)
    (hroom : A.depth < recursionLimit) (hbody : defBody st = [.Expr (.Call (.Attribute (.Call (.Name "super" p0) [] [] p1) "__init__" p2) [.Name "row" q0, .Name "word" q0'] [] p3) p4, .Assign [.Attribute (.Name "self" q1) "row" q2] (.Name "row" q3) q4, .Assign [.Attribute (.Name "self" r1) "word" r2] (.Name "word" r3) r4])
    (hk : (defScope st).kind = .function) (hks : (defScope st).names.lookup ("super" : Str) = some .globalImplicit) (hkc : (defScope st).names.lookup ("__class__" : Str) = some .free) (hls : (defScope st).names.lookup ("self" : Str) = some .local) (hln : (defScope st).names.lookup ("row" : Str) = some .local) (hlw : (defScope st).names.lookup ("word" : Str) = some .local)
    (hcell : ∀ y ∈ (defScope st).names, y.2 ≠ .cell) (hco : (defScope st).isCoroutine = false) (hgen : (defScope st).isGenerator = false) {ar : Arg} (hp : ((defArgs st).posonlyargs ++ (defArgs st).args).head? = some ar) (har : ar.arg = "self")
    (hbind : ∀ (qual : Str) (kV doc pm : Value) (an : Option Addr) (cdv ct : Value) (cc : Addr), BindsTo s (fnX "__init__" qual (defArgs st) (defBody st) (defScope st) [("__class__", cc)] .none kV doc pm an cdv ct) args [("self", .ref x), ("row", v), ("word", u)])
    (hi : ∀ q L f cda cc, interactive (ksEnv q (defScope st) L f cda cc) = false) (pl : Str → Addr → Addr → Value → Addr → Sem Bool)
    (hev : ∀ q L f cda cc, eval (.Call (.Attribute (.Call (.Name "super" p0) [] [] p1) "__init__" p2) [.Name "row" q0, .Name "word" q0'] [] p3) (ksEnv q (defScope st) L f cda cc) = (do
      let ov ← attributeBase (.Call (.Name "super" p0) [] [] p1) "__init__" (ksEnv q (defScope st) L f cda cc) (eval (.Call (.Name "super" p0) [] [] p1) (ksEnv q (defScope st) L f cda cc))
      standAt p2.atName
      let (f', first) ← holding [ov] (getMethod ov "__init__" (pl q L f cda cc))
      callWith p3 f' first (backTo p3 (starEach [.Name "row" q0, .Name "word" q0'] (ksEnv q (defScope st) L f cda cc))) []))
    (hsw : ∀ q L f cda cc, swapsWith (.Name "row" q3) (some (.Attribute (.Name "self" q1) "row" q2)) q4.line (ksEnv q (defScope st) L f cda cc) = pure false)
    (hsw' : ∀ q L f cda cc, swapsWith (.Name "word" r3) (some (.Attribute (.Name "self" r1) "word" r2)) r4.line (ksEnv q (defScope st) L f cda cc) = pure false)
    (hq : ∀ h' tk dx t1, SuEnd s.heap h' x C dx t1 (fun y => if y = "word" then some u else if y = "row" then some v else none) → R (.ok (.ret .none)) { s with heap := h', toks := tk }) :
    codeAny (model prog w) A (.call (.ref fI) args) R s := by
  obtain ⟨qual, oc, od, kV, doc, pm, an, cda, ct, osl, cc, ccl, cdd, vs, ccs, file, tf, cl, cld, csl, ho, hcd, hcode, hvs, hfile, hcellK⟩ := T.fn
  obtain ⟨nm, qn, N, bs, bm, sn, sub, ab, col, dd, k0, k1, k2, k3, k5, hC, hbm⟩ := T.cls
  have hcl : clsIn K C = some { name := nm, bases := bs, mro := .ref C :: bm, ns := N, qualname := qn, hasDict := true, slotNames := sn, subclasses := sub, abstract := ab, collection := col, hasDel := false } := by unfold clsIn; rw [hC] <;> rfl
  refine ks_codeAny_call_defAt (body := defBody st) (binds := [("self", .ref x), ("row", v), ("word", u)]) hroom (X _ _ ho) rfl Md.lim (codeRec_of X hcd) rfl (hbind qual kV doc pm an (.ref cda) ct cc) hcell ?_ (fun h0 hn0' k0' => ?_) hco hgen hk
  · intro y hy
    simp only [List.mem_cons, List.not_mem_nil, or_false] at hy
    rcases hy with rfl | rfl | rfl
    · exact hls
    · exact hln
    · exact hlw
  have M0 := Md.keeps k0'
  obtain ⟨mb, b1, b2⟩ := M0.b
  have X0 : K.In h0 := X.keeps k0'
  have hx0 := k0' _ _ hx
  have vself : (fun y : Str => List.lookup y [(("word" : Str), u), (("row" : Str), v), (("self" : Str), Value.ref x)]) "self" = some (.ref x) := rfl
  have vn : (fun y : Str => List.lookup y [(("word" : Str), u), (("row" : Str), v), (("self" : Str), Value.ref x)]) "row" = some v := rfl
  have vw : (fun y : Str => List.lookup y [(("word" : Str), u), (("row" : Str), v), (("self" : Str), Value.ref x)]) "word" = some u := rfl
  show wpAt _ _ (.func (defBody st) (ksEnv qual (defScope st) s.heap.objs.size fI (.ref cda) cc)) (execs (defBody st) (ksEnv qual (defScope st) s.heap.objs.size fI (.ref cda) cc)) _ _ _
  rw [show execs (defBody st) (ksEnv qual (defScope st) s.heap.objs.size fI (.ref cda) cc) = execs [.Expr (.Call (.Attribute (.Call (.Name "super" p0) [] [] p1) "__init__" p2) [.Name "row" q0, .Name "word" q0'] [] p3) p4, .Assign [.Attribute (.Name "self" q1) "row" q2] (.Name "row" q3) q4, .Assign [.Attribute (.Name "self" r1) "word" r2] (.Name "word" r3) r4] (ksEnv qual (defScope st) s.heap.objs.size fI (.ref cda) cc) by rw [hbody]]
  refine ks_wpAt_execs_cons ?_
  refine su_super (K := K) (mg := mg) (mb := mb) (x := x) (C := C) (L := s.heap.objs.size) (us := [v, u]) X0 M0.g M0.no b1 b2 hn0' hx0 hxC ho hp (by rw [har]; exact vself) hcode hvs hfile hcellK hcl T.hsub hks hkc (by rw [har]; exact hls) hk T.top T.sup T.hB T.hop T.qx (by rw [sizeLine_eq]; show 2 ≤ 16777216; decide)
    (hi _ _ _ _ _) (hev _ _ _ _ _) rfl rfl (fun s' ks => ?_) fun h1 tk1 t1 k1 hx1 => ?_
  · refine spliced_cons ?_
    refine wpAny_Name (wpAny_loadName_local hk hln (hn0'.keeps ks) vn ?_) (by decide)
    refine spliced_cons ?_
    refine wpAny_Name (wpAny_loadName_local hk hlw (hn0'.keeps ks) vw ?_) (by decide)
    exact spliced_nil ⟨rfl, rfl⟩
  · have nLx : s.heap.objs.size ≠ x := Nat.ne_of_gt (Heap.lt_size hx)
    have hnL : h1.Ns s.heap.objs.size (fun y : Str => List.lookup y [(("word" : Str), u), (("row" : Str), v), (("self" : Str), Value.ref x)]) := by
      obtain ⟨o, es, ep, e1, r⟩ := hn0'
      exact ⟨o, es, ep, k1 _ _ nLx e1, r⟩
    refine wpAt_of_wpAny ?_
    refine wpAny_execs_cons (plainObj_wpAny_Assign_Attribute ?_ (hsw _ _ _ _ _))
    refine wpAny_Name (wpAny_loadName_local hk hln hnL vn ?_) (by decide)
    refine wpAny_Name (wpAny_loadName_local hk hls hnL vself ?_) (by decide)
    have X1 : K.In h1 := fun b o e => k1 b o (fun z => by rw [z, hnx] at e; cases e) (X0 b o e)
    refine set_plain X1 (ox := HandSPX.excO C t1) (od := none) ⟨hx1, rfl, rfl, trivial⟩ T.sa ?_
    refine HandSPX.exc_osa X1 hx1 hcl (show HandSPX.refsVE (.ref C :: bm) = true from hbm) rfl (T.no "row" (by decide)) (fun h3 tk3 dx k3 dn dne hx3 hn3 => ?_)
    show wpAny _ _ (execs _ _) _ _ _
    have hnL3 : h3.Ns s.heap.objs.size (fun y : Str => List.lookup y [(("word" : Str), u), (("row" : Str), v), (("self" : Str), Value.ref x)]) := by
      obtain ⟨o, es, ep, e1, r⟩ := hnL
      exact ⟨o, es, ep, k3 _ _ nLx e1, r⟩
    have X3 : K.In h3 := fun b o e => k3 b o (fun z => by rw [z, hnx] at e; cases e) (X1 b o e)
    obtain ⟨oD, esD, epD, hoD, hdD, _⟩ := hn3.count (Within.cons "row" v Within.nil)
    refine wpAny_execs_cons (plainObj_wpAny_Assign_Attribute ?_ (hsw' _ _ _ _ _))
    refine wpAny_Name (wpAny_loadName_local hk hlw hnL3 vw ?_) (by decide)
    refine wpAny_Name (wpAny_loadName_local hk hls hnL3 vself ?_) (by decide)
    refine set_plain X3 (ox := { cls := .ref C, dict := some dx, data := .fields #[.ref t1, .none, .none, .none, .bool false, .none] }) (od := some oD) ⟨hx3, rfl, rfl, hoD⟩ T.sa ?_
    have z2 : s.heap.objs.size < h1.objs.size := hnL.lt
    have ndx : ∀ b o, s.heap.get? b = some o → b ≠ dx := fun b o e => Nat.ne_of_lt (Nat.lt_trans (Heap.lt_size e) (Nat.lt_of_lt_of_le z2 dn))
    refine OEX.osa_old X3 hx3 hn3 (Within.cons "row" v Within.nil) (by decide) hcl (show HandSPX.refsVE (.ref C :: bm) = true from hbm) rfl (T.no "word" (by decide)) (fun h4 tk4 k4 hn4 => ?_)
    show wpAny _ _ (execs _ _) _ _ _
    exact wpAny_execs_nil (hq h4 tk4 dx t1 ⟨fun b o hb e => k4 b o (ndx b o e) (k3 b o hb (k1 b o hb (k0' b o e))), k4 _ _ (Ne.symm dne) hx3, Nat.le_of_lt (Nat.lt_of_lt_of_le z2 dn), dne, hn4⟩)
end
end DL
/-! E2: making own exceptions, by place and by name. -/
namespace DL
open PySem PySem.Spec PySem.W PySem.Calls L2
open PyProof.Rows hiding St wpAt wpAt_bind wpAt_stack wpAt_mono

section
variable {M : Model} {A : Around} {E : Value → Shared → Prop} {h : Heap} {g : Array GenState} {d : Drawn} {t : Nat} {os : OsState}
variable {nm q : Str} {C N : Addr} {bs bm bmB : List Value} {hdct : Bool} {sn : List Str} {sub : List Value} {ab : Bool} {col : Option Bool} {dd : Option Addr} {k0 k1 k2 k3 k5 : Option Value} {B newId initId : String}

theorem kw_check_new (F : ExcBaseFacts B newId initId bmB) (hT : ∀ X : String, bm.contains (.type X) = bmB.contains (.type X)) {rest : List Value} {kw : List (Str × Value)} {Q : Unit → Shared → Prop}
    (hC : h.get? C = some (excClassObj nm q C N bs bm hdct sn sub ab col dd k0 k1 k2 k3 k5 newId)) (hq : Q () ⟨h, g, d, t, os⟩) : wpAny M A (checkBuiltinCall newId ⟨.ref C :: rest, kw⟩) Q E ⟨h, g, d, t, os⟩ := by
  have hcont : (Value.ref C :: bm).contains (.type B) = true := by rw [List.contains_cons, hT, F.hasB, Bool.or_true]
  have hstar := F.noStar
  simp only [checkBuiltinCall, F.newKind, F.newSplit, F.newRow]
  repeat (first | refine wpAny_loadPart_at hC ?_ | (refine wpAny_isSubtype_exc hC ?_; rw [hcont]) | refine wpAny_staticBase_exc hC ?_ | refine wpAny_madeBy_exc hC ?_ | simp only [bne_self_eq_false, Bool.false_eq_true, if_false] | wp_step)
  exact hq
end
section
variable {prog : Program} {w : World} {A : Around} {E : Value → Shared → Prop} {R : Result → Shared → Prop} {h : Heap} {g : Array GenState} {d : Drawn} {t : Nat} {os : OsState}
variable {nm q : Str} {C N : Addr} {bs bm bmB : List Value} {hdct : Bool} {sn : List Str} {sub : List Value} {ab : Bool} {col : Option Bool} {dd : Option Addr} {k0 k1 k2 k3 k5 : Option Value} {B newId initId : String}

theorem kw_new (F : ExcBaseFacts B newId initId bmB) (hT : ∀ X : String, bm.contains (.type X) = bmB.contains (.type X)) {rest : List Value} {kw : List (Str × Value)}
    (hC : h.get? C = some (excClassObj nm q C N bs bm hdct sn sub ab col dd k0 k1 k2 k3 k5 newId))
    (hq : R (.ok (.ret (.ref (h.objs.size + 1)))) ⟨(h.push { cls := .type "tuple", data := .seq rest.toArray }).push
      { cls := .ref C, data := .fields #[.ref h.objs.size, .none, .none, .none, .bool false, .none] }, g, d, t, os⟩) (hrest : rest.length ≤ sizeLine) :
    codeAny (model prog w) A (.builtin newId ⟨.ref C :: rest, kw⟩) R ⟨h, g, d, t, os⟩ := by
  have hends := F.ends
  have hcB : (Value.ref C :: bm).contains (.type B) = true := by rw [List.contains_cons, hT, F.hasB, Bool.or_true]
  have hcA : (Value.ref C :: bm).contains (.type "AttributeError") = false := by rw [List.contains_cons, hT, F.noAttr]; rfl
  have hcN : (Value.ref C :: bm).contains (.type "NameError") = false := by rw [List.contains_cons, hT, F.noName]; rfl
  refine codeAny_builtinAt F.entry ?_
  unfold Builtin.«BaseException.__new__»
  refine wpAt_bind ?_
  show wpAt _ _ _ (stack >>= _) _ _ _
  refine wpAt_bind (wpAt_stack fun p below => wpAt_of_wpAny ?_)
  wp_walk
  refine wpAt_of_wpAny ?_
  rw [F.owner]
  repeat (first | with_reducible refine wpAny_madeHere_exc F.canon hC ?_ | with_reducible refine wpAny_loadPart_at hC ?_ | (with_reducible refine wpAny_isSubtype_exc hC ?_; first | rw [hcB] | rw [hcA] | rw [hcN]) | wp_step)
  show R _ _
  rw [Heap.size_push]
  exact hq

theorem kw_type_call (F : ExcBaseFacts B newId initId bmB) (hT : ∀ X : String, bm.contains (.type X) = bmB.contains (.type X)) {rest : List Value} {kw : List (Str × Value)} {fI : Addr} {Q : Fin → Shared → Prop}
    (hC : h.get? C = some (excClassObj nm q C N bs bm hdct sn sub ab col dd k0 k1 k2 k3 k5 newId))
    (hi : W.Looks (model prog w) h (typeLookup (.ref C) "__init__") (some (.ref fI))) (hb : ∀ self, W.Looks (model prog w) h (bindSpecial (.ref fI) self) (.ref fI, [self])) (hrest : rest.length ≤ sizeLine)
    (hq : codeAny (model prog w) A (.call (.ref fI) ⟨.ref (h.objs.size + 1) :: rest, kw⟩)
      (fun r s' => match r with | .ok (.ret v) => v = .none ∧ Q (.done (.ret (.ref (h.objs.size + 1)))) s' | .ok _ => False | .error e => E e s')
      ⟨(h.push (W.kdv_tup rest)).push (HandSPX.excO C h.objs.size), g, d, t, os⟩) :
    wpAny (model prog w) A (Builtin.«type.__call__» ⟨.ref C :: rest, kw⟩) Q E ⟨h, g, d, t, os⟩ := by
  repeat (first | with_reducible refine wpAny_loadPart_at hC ?_ | with_reducible refine wpAny_madeBy_exc hC ?_ | wp_step)
  refine codeAny_call_builtin_code (Code.quiet_builtin _ F.quiet) (kw_check_new F hT hC ?_)
  refine kw_new F hT hC ?_ hrest
  show wpAny _ _ _ _ _ _
  have k : ∀ b o, h.get? b = some o → ((h.push (W.kdv_tup rest)).push (HandSPX.excO C h.objs.size)).get? b = some o := fun b o e => Heap.get?_push_of_some _ (Heap.get?_push_of_some _ e)
  have hC₁ := k _ _ hC
  have hget : ((h.push (W.kdv_tup rest)).push (HandSPX.excO C h.objs.size)).get? (h.objs.size + 1) = some (HandSPX.excO C h.objs.size) := by heap_get
  have hcC : (Value.ref C :: bm).contains (.ref C) = true := by simp
  have i1 := hi.keeps k
  have b1 := (hb (.ref (h.objs.size + 1))).keeps k
  unfold isInstance
  repeat (first | with_reducible refine wpAny_loadPart_at hget ?_ | (with_reducible refine wpAny_isSubtype_exc hC₁ ?_; rw [hcC]) | wp_step)
  show wpAny _ _ (typeLookup (.ref C) _) _ _ _
  refine i1.at ?_
  refine wpAny_holding (wpAny_bind (b1.at ?_))
  refine wpAny_bind (wpAny_call (codeAny_mono hq fun r s' z => ?_))
  rcases r with e | (v | _ | _ | _) <;> first | exact z | exact z.elim | skip
  obtain ⟨rfl, z⟩ := z
  first
    | exact wpAny_pure (wpAny_pure z)
    | (wp_walk; exact z)

theorem kw_call_own (F : ExcBaseFacts B newId initId bmB) (hT : ∀ X : String, bm.contains (.type X) = bmB.contains (.type X)) {rest : List Value} {kw : List (Str × Value)} {fI : Addr}
    (hC : h.get? C = some (excClassObj nm q C N bs bm hdct sn sub ab col dd k0 k1 k2 k3 k5 newId))
    (hi : W.Looks (model prog w) h (typeLookup (.ref C) "__init__") (some (.ref fI))) (hb : ∀ self, W.Looks (model prog w) h (bindSpecial (.ref fI) self) (.ref fI, [self])) (hrest : rest.length ≤ sizeLine)
    (hq : codeAny (model prog w) (A.under (.builtin "type.__call__" ⟨.ref C :: rest, kw⟩)) (.call (.ref fI) ⟨.ref (h.objs.size + 1) :: rest, kw⟩) (W.InitBack (h.objs.size + 1) R)
      ⟨(h.push (W.kdv_tup rest)).push (HandSPX.excO C h.objs.size), g, d, t, os⟩) :
    codeAny (model prog w) A (.call (.ref C) ⟨rest, kw⟩) R ⟨h, g, d, t, os⟩ := by
  have f1 := tc_lookup
  have f2 := tc_bind (.ref C)
  have hTy : (⟨h, g, d, t, os⟩ : Shared).TypeIs (.ref C) "type" := ⟨_, hC, rfl⟩
  refine codeAny_of_tree ?_
  show wpAny _ _ (callAny (.ref C) _) _ _ _
  repeat (any_goals (first | assumption | with_reducible refine wpAny_loadPart_at hC ?_ | wp_step))
  refine ⟨rfl, ?_⟩
  refine codeAny_call_builtin_at (Code.quiet_builtin _ (by decide +kernel)) entry_typeCall (wpAny_check_type_call_sub hC (kw_type_call F hT hC hi hb hrest ?_))
  refine codeAny_mono hq fun r s' z => ?_
  rcases r with e | (v | _ | _ | _) <;> exact z
end

/-! ### what a call of such a class leaves -/
structure SuMade (h h' : Heap) (e C d : Addr) (mA : Str → Option Value) : Prop where
  keep : ∀ b o, h.get? b = some o → h'.get? b = some o
  new : h.objs.size ≤ e
  obj : ∃ t1, h'.get? e = some { cls := .ref C, dict := some d, data := .fields #[.ref t1, .none, .none, .none, .bool false, .none] }
  dbig : h.objs.size ≤ d
  dne : d ≠ e
  ns : h'.Ns1 d mA
/-- the class C, called with such arguments, makes an exception whose attributes are mA -/
def MkC (prog : Program) (w : World) (K : Frag) (mg : Str → Option Value) (C : Addr) (pos : List Value) (kw : List (Str × Value)) (mA : Str → Option Value) : Prop :=
  ∀ (A : Around) (s : Shared) (R : Result → Shared → Prop), K.In s.heap → SuMod mg s.heap → A.depth + 1 < recursionLimit →
    (∀ h' tk e d, SuMade s.heap h' e C d mA → R (.ok (.ret (.ref e))) { s with heap := h', toks := tk }) → codeAny (model prog w) A (.call (.ref C) ⟨pos, kw⟩) R s
section
variable {prog : Program} {w : World} {K : Frag} {mg : Str → Option Value} {C fI : Addr} {ps : List Str} {st : Stmt} {pos : List Value} {kw : List (Str × Value)} {mA : Str → Option Value}
theorem mkC_of (T : SuC K prog C fI ps st) (hz : pos.length ≤ sizeLine)
    (hinit : ∀ (A : Around) (s : Shared) (x t0 : Addr) (R : Result → Shared → Prop), K.In s.heap → SuMod mg s.heap → s.heap.get? x = some (HandSPX.excO C t0) → x ≠ C → K.lookup x = none → A.depth < recursionLimit →
      (∀ h' tk dx t1, SuEnd s.heap h' x C dx t1 mA → R (.ok (.ret .none)) { s with heap := h', toks := tk }) → codeAny (model prog w) A (.call (.ref fI) ⟨.ref x :: pos, kw⟩) R s) : MkC prog w K mg C pos kw mA := by
  intro A s R X Md hroom hq
  obtain ⟨nm, q, N, bs, bm, sn, sub, ab, col, dd, k0, k1, k2, k3, k5, hC, hbm⟩ := T.cls
  obtain ⟨hp, g, dr, tk, os⟩ := s
  have k : ∀ b o, hp.get? b = some o → ((hp.push (kdv_tup pos)).push (HandSPX.excO C hp.objs.size)).get? b = some o := fun b o e => Heap.get?_push_of_some _ (Heap.get?_push_of_some _ e)
  have hget : ((hp.push (kdv_tup pos)).push (HandSPX.excO C hp.objs.size)).get? (hp.objs.size + 1) = some (HandSPX.excO C hp.objs.size) := by heap_get
  have lt : ∀ {b : Addr} {o : Obj}, hp.get? b = some o → b ≠ hp.objs.size + 1 := fun e => Nat.ne_of_lt (Nat.lt_succ_of_lt (Heap.lt_size e))
  have hnx : K.lookup (hp.objs.size + 1) = none := by
    cases e : K.lookup (hp.objs.size + 1) with
    | none => rfl
    | some o => exact absurd rfl (lt (X _ _ e))
  refine kw_call_own F.excBase_ValueError (fun X => HandSPX.refsVE_contains X bm hbm) (X _ _ hC) (looks_findIn X T.iC) (fun self => bind_fn X self T.tI) hz ?_
  refine hinit _ ⟨(hp.push (kdv_tup pos)).push (HandSPX.excO C hp.objs.size), g, dr, tk, os⟩ _ hp.objs.size _ (X.keeps k) (Md.keeps k) hget (Ne.symm (lt (X _ _ hC))) hnx ?_ fun h' tk' dx t1 E => ?_
  · show A.depth + 1 < recursionLimit
    exact hroom
  · have z : hp.objs.size + 1 + 1 ≤ dx := by
      have q := E.dbig
      first
        | exact q
        | (simpa only [Heap.size_push] using q)
        | (rw [Heap.size_push, Heap.size_push] at q; exact q)
    exact ⟨rfl, hq h' tk' _ dx ⟨fun b o e => E.keep b o (lt e) (k b o e), Nat.le_succ _, ⟨t1, E.obj⟩, Nat.le_trans (Nat.le_trans (Nat.le_succ _) (Nat.le_succ _)) z, E.dne, E.ns⟩⟩
end
end DL
/-! E3: own exceptions as values: made, asked, read, raised. -/
namespace DL
open PySem PySem.Spec PySem.W PySem.Calls L2
open PyProof.Rows hiding St wpAt wpAt_bind wpAt_stack wpAt_mono

/-- an object that stands as it stands -/
def ExF (oe : Obj) (a : Addr) : HO := .ext fun h => h.get? a = some oe
theorem exF_ok {P : Program} {w : World} {H : Hp} {h : Heap} {a : Addr} {oe : Obj} (e : h.get? a = some oe) : ObjOk P w H h a (ExF oe a) := ⟨e, ⟨oe, e⟩, fun _ _ q k => k _ q⟩
theorem exF_at {P : Program} {w : World} {H : Hp} {h : Heap} {a : Addr} {oe : Obj} (x : HOk P w H h) (e : H a = some (ExF oe a)) : h.get? a = some oe := (x a _ e).1
/-- at a stands an exception of the class at C that never flew, its attributes fs -/
structure ExI (H : Hp) (C a : Addr) (fs : List (Str × V)) : Prop where
  ex : ∃ (oe : Obj) (vs : Array Value), H a = some (ExF oe a) ∧ oe.cls = .ref C ∧ oe.data = .fields vs ∧ vs[1]? = some .none ∧ ((oe.dict = none ∧ fs = []) ∨ ∃ d, oe.dict = some d ∧ H d = some (.xd fs))
theorem ExI.mono {H H' : Hp} {C a : Addr} {fs : List (Str × V)} (x : ExI H C a fs) (e : ∀ b o, (∀ xs, o ≠ .lst xs) → H b = some o → H' b = some o) : ExI H' C a fs := by
  obtain ⟨oe, vs, h1, h2, h3, h4, h5⟩ := x.ex
  refine ⟨oe, vs, e _ _ (fun _ z => nomatch z) h1, h2, h3, h4, ?_⟩
  rcases h5 with h5 | ⟨d, h5, h6⟩
  · exact .inl h5
  · exact .inr ⟨d, h5, e _ _ (fun _ z => nomatch z) h6⟩
theorem ExI.same {H H' : Hp} {C a : Addr} {fs : List (Str × V)} (x : ExI H C a fs) (e : Same H H') : ExI H' C a fs := x.mono fun b o _ h => e b o h

section
variable {X : Cx} {pins : List (Addr × Obj)} {σ : St} {H : Hp} {s : Shared}
/-- two new objects laid and tracked -/
theorem inv_laid2 {h' : Heap} {a d : Addr} {o u : HO} {t' : Nat} (I : Inv X pins σ H s) (k : ∀ b v, s.heap.get? b = some v → h'.get? b = some v) (ha : s.heap.objs.size ≤ a) (hd : s.heap.objs.size ≤ d) (hne : d ≠ a)
    (nu : ObjOk X.prog X.w (upd (upd H d u) a o) h' d u) (no : ObjOk X.prog X.w (upd (upd H d u) a o) h' a o) : Inv X pins σ (upd (upd H d u) a o) { s with heap := h', toks := t' } := by
  have na : H a = none := I.hok.fresh ha
  have nd : H d = none := I.hok.fresh hd
  have old : ∀ {b : Addr} {v : Obj}, s.heap.get? b = some v → b ≠ a ∧ b ≠ d := fun e => ⟨Nat.ne_of_lt (Nat.lt_of_lt_of_le (Heap.lt_size e) ha), Nat.ne_of_lt (Nat.lt_of_lt_of_le (Heap.lt_size e) hd)⟩
  have at_ : ∀ {b : Addr}, b ≠ a → b ≠ d → upd (upd H d u) a o b = H b := fun h1 h2 => by rw [upd_ne h1, upd_ne h2]
  have st : ∀ {b : Addr} {v : HO}, H b = some v → upd (upd H d u) a o b = some v := fun e => by
    rw [at_ (ne_of_none e na) (ne_of_none e nd)]
    exact e
  refine I.un ⟨fun b v e _ _ _ => k b v e, fun b v e _ _ _ => ⟨v.slots, k b v e⟩, fun b v e n _ => ?_, fun b v e _ => ⟨v, k b v e⟩, fun b xs e => st e, fun b v xs e => st e, fun b ps e => ⟨#[], by rw [st e]; simp⟩⟩ fun b v e => ?_
  · rw [at_ (old e).1 (old e).2]
    exact n
  · by_cases hb : b = a
    · subst hb
      rw [upd_same] at e
      cases e
      exact no
    · by_cases hb2 : b = d
      · subst hb2
        rw [upd_ne hb, upd_same] at e
        cases e
        exact nu
      · rw [at_ hb hb2] at e
        exact (I.hok b v e).stay (fun c v _ q => k c v q) (fun c q => st q) fun c xs q => st q
theorem suMod (I : Inv X pins σ H s) (hn : X.mg "super" = none) : SuMod X.mg s.heap := by
  obtain ⟨mb, b1, b2⟩ := I.mod.blt
  exact ⟨I.mod.glob.keeps I.bk, hn, ⟨mb, b1.keeps I.bk, (b2 "super" (by decide)).trans (by decide +kernel)⟩, I.nolimit⟩
/-- what a making leaves, tracked -/
theorem made_inv {h' : Heap} {tk : Nat} {e C d : Addr} {mA : Str → Option Value} {fs : List (Str × V)} (I : Inv X pins σ H s) (M : SuMade s.heap h' e C d mA) (hr : ∀ f, RelO (fs.lookup f) (mA f)) :
    ∃ H', Inv X pins σ H' { s with heap := h', toks := tk } ∧ Same H H' ∧ H e = none ∧ ExI H' C e fs := by
  obtain ⟨t1, ho⟩ := M.obj
  have na : H e = none := I.hok.fresh M.new
  have nd : H d = none := I.hok.fresh M.dbig
  refine ⟨upd (upd H d (.xd fs)) e (ExF _ e), inv_laid2 I M.keep M.new M.dbig M.dne ⟨mA, M.ns, hr⟩ (exF_ok ho), fun b o q => ?_, na, ⟨_, _, upd_same, rfl, rfl, rfl, .inr ⟨d, rfl, by rw [upd_ne M.dne, upd_same]⟩⟩⟩
  rw [upd_ne (ne_of_none q na), upd_ne (ne_of_none q nd)]
  exact q
end

/-- the reading of a making: the new exception's attributes by the arguments -/
def tSu (C : Addr) (fsOf : List V → Option (List (Str × V))) (ta : TA) : TE := fun σ H Q => ta σ H fun vs H1 => ∃ fs, fsOf vs = some fs ∧ ∀ a H2, Same H1 H2 → H1 a = none → ExI H2 C a fs → Q (.ref a) H2
/-- what a class must keep so that its call with such arguments is known: kw: the names of the arguments by name -/
structure SuK (P : Program) (w : World) (K : Frag) (mg : Str → Option Value) (C : Addr) (kw : List Str) (fsOf : List V → Option (List (Str × V))) : Prop where
  kC : keepIn K (.ref C) = true
  no : mg "super" = none
  mks : ∀ (vs : List V) (us : List Value) (fs : List (Str × V)), Vals vs us → fsOf vs = some fs → ∃ mA, MkC P w K mg C (us.take (us.length - kw.length)) (kw.zip (us.drop (us.length - kw.length))) mA ∧ ∀ f, RelO (fs.lookup f) (mA f)
section
variable {X : Cx} {C : Addr} {k : Nat} {fsOf : List V → Option (List (Str × V))} {x : Str} {e : Expr} {es : List Expr} {kws : List Keyword} {ta : TA} {p pos : Pos} {ks : List Str}
theorem pe_su (S : SuK X.prog X.w X.K X.mg C [] fsOf) (hr : X.A.depth + 1 < recursionLimit) (hg : Gl X x) (hm : X.mg x = some (.ref C)) (ha : PA X (e :: es) ta)
    (hdb : (x == ("__debug__" : Str)) = false := by decide) (he : starEach (e :: es) X.env = (false, eval e X.env) :: starEach es X.env := by rfl) (hpl : (backTo pos (starEach es X.env)).any (·.1) = false := by rfl) :
    PE X (.Call (.Name x p) (e :: es) [] pos) (tSu C fsOf ta) := by
  refine ⟨fun pins s σ H Q I h => ?_⟩
  refine wpAny_Call_Name_kw (ld_glob I hg hm ?_ hdb)
  refine PySem.W.callWith_K (h₀ := X.base) I.ok.mod.kin S.kC (thn (ha.run pos pins s σ H _ I h) fun us s1 ⟨vs, H1, I1, r1, fs, hf, q⟩ => ⟨I1.kIn, ?_⟩) he hpl
  obtain ⟨mA, M, hA⟩ := S.mks vs us fs r1 hf
  have M' : MkC X.prog X.w X.K X.mg C us [] mA := by simpa using M
  refine wpAny_call (M' _ _ _ I1.kIn (suMod I1 S.no) hr fun h' tk e d Md => ?_)
  obtain ⟨H', I', sm, ne, xi⟩ := made_inv (tk := tk) I1 Md hA
  exact ⟨.ref e, H', I', rfl, q _ _ sm ne xi⟩
theorem pe_suK (S : SuK X.prog X.w X.K X.mg C ks fsOf) (hr : X.A.depth + 1 < recursionLimit) (hg : Gl X x) (hm : X.mg x = some (.ref C)) (ha : PK X kws ta) (hl : ∀ vs fs, fsOf vs = some fs → vs.length = ks.length)
    (hall : (backToKw pos (keywordEach kws X.env)).all (·.1.isSome) = true := by rfl) (hks : (backToKw pos (keywordEach kws X.env)).filterMap (·.1) = ks := by rfl) (hdb : (x == ("__debug__" : Str)) = false := by decide)
    (hpl : ((backTo pos (starEach [] X.env)).any (·.1) || (backToKw pos (keywordEach kws X.env)).any (·.1.isNone)) = false := by rfl) :
    PE X (.Call (.Name x p) [] kws pos) (tSu C fsOf ta) := by
  refine ⟨fun pins s σ H Q I h => ?_⟩
  refine wpAny_Call_Name_kw (ld_glob I hg hm ?_ hdb)
  refine PySem.W.callWith_KW0 (h₀ := X.base) I.ok.mod.kin S.kC hall (thn (ha.run pos pins s σ H _ I h) fun us s1 ⟨vs, H1, I1, r1, fs, hf, q⟩ => ⟨I1.kIn, ?_⟩) hpl
  rw [hks]
  obtain ⟨mA, M, hA⟩ := S.mks vs us fs r1 hf
  have hlen : us.length = ks.length := r1.length.symm.trans (hl vs fs hf)
  have M' : MkC X.prog X.w X.K X.mg C [] (ks.zip us) mA := by simpa [hlen] using M
  refine wpAny_call (M' _ _ _ I1.kIn (suMod I1 S.no) hr fun h' tk e d Md => ?_)
  obtain ⟨H', I', sm, ne, xi⟩ := made_inv (tk := tk) I1 Md hA
  exact ⟨.ref e, H', I', rfl, q _ _ sm ne xi⟩
end
end DL
/-! E4: own exceptions raised; without __init__; asked by isinstance; read. -/
namespace DL
open PySem PySem.Spec PySem.W PySem.Calls L2
open PyProof.Rows hiding St wpAt wpAt_bind wpAt_stack wpAt_mono

/-! ### raised -/
section
variable {X : Cx} {pins : List (Addr × Obj)} {σ : St} {H : Hp} {s : Shared}
theorem made_mk {h' : Heap} {tk : Nat} {e C d : Addr} {mA : Str → Option Value} {fs : List (Str × V)} {Q : XK} (I : Inv X pins σ H s) (M : SuMade s.heap h' e C d mA) (hr : ∀ f, RelO (fs.lookup f) (mA f)) (R : Raises X (.ref C))
    (q : ∀ d, H d = none → Q (.ref C) (some d) (upd H d (.xd fs))) : MkP X pins σ Q (.ref e) { s with heap := h', toks := tk } := by
  obtain ⟨t1, ho⟩ := M.obj
  obtain ⟨G, g1, g2⟩ := restrict h' fun b => decide (b ≠ e)
  have gk : ∀ b, b ≠ e → G.get? b = h'.get? b := fun b hb => g1 b (decide_eq_true hb)
  have ge : G.get? e = none := g2 e (by simp)
  have nd : H d = none := I.hok.fresh M.dbig
  have ne : H e = none := I.hok.fresh M.new
  have old : ∀ {b : Addr} {o : Obj}, s.heap.get? b = some o → b ≠ e := fun z => Nat.ne_of_lt (Nat.lt_of_lt_of_le (Heap.lt_size z) M.new)
  have J : Inv X pins σ (upd H d (.xd fs)) { s with heap := G, toks := tk } := I.laidN (t' := tk) (fun b o z => by rw [gk b (old z)]; exact M.keep b o z) (Heap.get?_none_of_le M.dbig) nd
    ⟨mA, M.ns.at fun o y => (gk d M.dne).trans y, hr⟩
  refine ⟨e, _, _, { s with heap := G, toks := tk }, _, .ref C, some d, rfl, J, fun b o z => ?_, ge, ho, ⟨rfl, rfl⟩, rfl, rfl, ?_, rfl, I.bare, R, q d nd⟩
  · by_cases hb : b = e
    · have z' : G.get? b = some o := z
      rw [hb, ge] at z'
      cases z'
    · exact (gk b hb).symm.trans z
  · rw [upd_ne (Ne.symm M.dne)]
    exact ne
end
def tSuR (C : Addr) (fsOf : List V → Option (List (Str × V))) (ta : TA) : St → Hp → XK → Prop := fun σ H Q => ta σ H fun vs H1 => ∃ fs, fsOf vs = some fs ∧ ∀ d, H1 d = none → Q (.ref C) (some d) (upd H1 d (.xd fs))
section
variable {X : Cx} {C : Addr} {k : Nat} {fsOf : List V → Option (List (Str × V))} {x : Str} {e : Expr} {es : List Expr} {kws : List Keyword} {ta : TA} {p pos : Pos} {ks : List Str}
theorem pmk_su (S : SuK X.prog X.w X.K X.mg C [] fsOf) (hr : X.A.depth + 1 < recursionLimit) (hg : Gl X x) (hm : X.mg x = some (.ref C)) (R : Raises X (.ref C)) (ha : PA X (e :: es) ta)
    (hdb : (x == ("__debug__" : Str)) = false := by decide) (he : starEach (e :: es) X.env = (false, eval e X.env) :: starEach es X.env := by rfl) (hpl : (backTo pos (starEach es X.env)).any (·.1) = false := by rfl) :
    PMk X (.Call (.Name x p) (e :: es) [] pos) (tSuR C fsOf ta) := by
  intro pins s σ H Q I h
  refine wpAny_Call_Name_kw (ld_glob I hg hm ?_ hdb)
  refine PySem.W.callWith_K (h₀ := X.base) I.ok.mod.kin S.kC (thn (ha.run pos pins s σ H _ I h) fun us s1 ⟨vs, H1, I1, r1, fs, hf, q⟩ => ⟨I1.kIn, ?_⟩) he hpl
  obtain ⟨mA, M, hA⟩ := S.mks vs us fs r1 hf
  have M' : MkC X.prog X.w X.K X.mg C us [] mA := by simpa using M
  exact wpAny_call (M' _ _ _ I1.kIn (suMod I1 S.no) hr fun h' tk e d Md => made_mk (tk := tk) I1 Md hA R q)
theorem pmk_suK (S : SuK X.prog X.w X.K X.mg C ks fsOf) (hr : X.A.depth + 1 < recursionLimit) (hg : Gl X x) (hm : X.mg x = some (.ref C)) (R : Raises X (.ref C)) (ha : PK X kws ta) (hl : ∀ vs fs, fsOf vs = some fs → vs.length = ks.length)
    (hall : (backToKw pos (keywordEach kws X.env)).all (·.1.isSome) = true := by rfl) (hks : (backToKw pos (keywordEach kws X.env)).filterMap (·.1) = ks := by rfl) (hdb : (x == ("__debug__" : Str)) = false := by decide)
    (hpl : ((backTo pos (starEach [] X.env)).any (·.1) || (backToKw pos (keywordEach kws X.env)).any (·.1.isNone)) = false := by rfl) :
    PMk X (.Call (.Name x p) [] kws pos) (tSuR C fsOf ta) := by
  intro pins s σ H Q I h
  refine wpAny_Call_Name_kw (ld_glob I hg hm ?_ hdb)
  refine PySem.W.callWith_KW0 (h₀ := X.base) I.ok.mod.kin S.kC hall (thn (ha.run pos pins s σ H _ I h) fun us s1 ⟨vs, H1, I1, r1, fs, hf, q⟩ => ⟨I1.kIn, ?_⟩) hpl
  rw [hks]
  obtain ⟨mA, M, hA⟩ := S.mks vs us fs r1 hf
  have hlen : us.length = ks.length := r1.length.symm.trans (hl vs fs hf)
  have M' : MkC X.prog X.w X.K X.mg C [] (ks.zip us) mA := by simpa [hlen] using M
  exact wpAny_call (M' _ _ _ I1.kIn (suMod I1 S.no) hr fun h' tk e d Md => made_mk (tk := tk) I1 Md hA R q)

/-! ### a class without __init__, called without arguments -/
theorem pe_ex0 (q : excIn X.K C [.type "ValueError", .type "Exception", .type "BaseException", .type "object"] "ValueError.__new__" = true) (kC : keepIn X.K (.ref C) = true) (hg : Gl X x) (hm : X.mg x = some (.ref C))
    (hdb : (x == ("__debug__" : Str)) = false := by decide) : PE X (.Call (.Name x p) [] [] pos) (fun _ H Q => ∀ a H2, Same H H2 → H a = none → ExI H2 C a [] → Q (.ref a) H2) := by
  refine ⟨fun pins s σ H Q I h => ?_⟩
  refine wpAny_Call_Name_kw (ld_glob I hg hm ?_ hdb)
  refine PySem.W.callWith_K0 I.kIn kC ?_
  show wpAny _ _ (call (.ref C) []) _ _ _
  obtain ⟨bm, N, nm, qn, bs, hdct, sn, sub, ab, col, dd, k0, k1, k2, k3, k5, mN, hC, hN, hni, T⟩ := exc_obj I.kIn q
  refine wpAny_call_exc_subT F.excBase_ValueError T hC hN hni (fun h' a hm => ?_) (by show 0 ≤ sizeLine; omega)
  have hn : H a = none := I.hok.gone hm.new
  obtain ⟨t, ht, _, _⟩ := hm.there
  exact ⟨.ref a, upd H a (ExF _ a), I.laidN hm.keeps hm.new hn (exF_ok ht), rfl, h _ _ (fun b o e => by rw [upd_ne (ne_of_none e hn)]; exact e) hn ⟨_, _, upd_same, rfl, rfl, rfl, .inl ⟨rfl, rfl⟩⟩⟩
theorem pmk_ex0 (q : excIn X.K C [.type "ValueError", .type "Exception", .type "BaseException", .type "object"] "ValueError.__new__" = true) (kC : keepIn X.K (.ref C) = true) (hg : Gl X x) (hm : X.mg x = some (.ref C)) (R : Raises X (.ref C))
    (hdb : (x == ("__debug__" : Str)) = false := by decide) : PMk X (.Call (.Name x p) [] [] pos) (fun _ H Q => Q (.ref C) none H) := by
  intro pins s σ H Q I h
  refine wpAny_Call_Name_kw (ld_glob I hg hm ?_ hdb)
  refine PySem.W.callWith_K0 I.kIn kC ?_
  show wpAny _ _ (call (.ref C) []) _ _ _
  obtain ⟨bm, N, nm, qn, bs, hdct, sn, sub, ab, col, dd, k0, k1, k2, k3, k5, mN, hC, hN, hni, T⟩ := exc_obj I.kIn q
  refine wpAny_call_exc_subT F.excBase_ValueError T hC hN hni (fun h' a hm => ?_) (by show 0 ≤ sizeLine; omega)
  exact mk_of I hm R h (I.hok.gone hm.new)
end

/-! ### asked, read -/
/-- what a class must say so that its instances can be asked and read -/
structure EiC (K : Frag) (C : Addr) : Prop where
  ga : findIn K (.ref C) "__getattribute__" = some (some (.builtin "BaseException.__getattribute__"))
  gg : findIn K (.ref C) "__getattr__" = some none
  ex : subIn K (.ref C) (.type "BaseException") = some true
  hd : hasDictIn K C = true
  ca : findIn K (.ref C) "__class__" = some (some (.builtin "object.__class__"))
  hn : specialIn K (.builtin "object.__class__") "__get__" = some (some (.builtin "getset_descriptor.__get__"))
  ht : takesIn K (.builtin "object.__class__") = some true
  mo : mroIn K C (.type "object") = some true
  ty : typeIn K (.ref C) = some (.type "type")
/-- at a stands an exception of the class at C, whatever befell it, its attributes fs -/
structure ExJ (H : Hp) (C a : Addr) (fs : List (Str × V)) : Prop where
  ex : ∃ (oe : Obj) (vs : Array Value), H a = some (ExF oe a) ∧ oe.cls = .ref C ∧ oe.data = .fields vs ∧ ((oe.dict = none ∧ fs = []) ∨ ∃ d, oe.dict = some d ∧ H d = some (.xd fs))
theorem ExI.j {H : Hp} {C a : Addr} {fs : List (Str × V)} (x : ExI H C a fs) : ExJ H C a fs := by
  obtain ⟨oe, vs, h1, h2, h3, _, h5⟩ := x.ex
  exact ⟨oe, vs, h1, h2, h3, h5⟩
theorem ExJ.mono {H H' : Hp} {C a : Addr} {fs : List (Str × V)} (x : ExJ H C a fs) (e : ∀ b o, (∀ xs, o ≠ .lst xs) → H b = some o → H' b = some o) : ExJ H' C a fs := by
  obtain ⟨oe, vs, h1, h2, h3, h5⟩ := x.ex
  refine ⟨oe, vs, e _ _ (fun _ z => nomatch z) h1, h2, h3, ?_⟩
  rcases h5 with h5 | ⟨d, h5, h6⟩
  · exact .inl h5
  · exact .inr ⟨d, h5, e _ _ (fun _ z => nomatch z) h6⟩
theorem ExJ.same {H H' : Hp} {C a : Addr} {fs : List (Str × V)} (x : ExJ H C a fs) (e : Same H H') : ExJ H' C a fs := x.mono fun b o _ h => e b o h
/-- as the model's instance -/
theorem ExJ.inst {P : Program} {w : World} {H : Hp} {h : Heap} {C a : Addr} {fs : List (Str × V)} (x : ExJ H C a fs) (ok : HOk P w H h) : ∃ ox od, InstAt h a ox C od ∧
    ((od = none ∧ fs = []) ∨ ∃ (o : Obj) (mA : Str → Option Value), od = some o ∧ (∀ n, lookIn n o = some (mA n)) ∧ ∀ f, RelO (fs.lookup f) (mA f)) := by
  obtain ⟨oe, vs, h1, h2, h3, h5⟩ := x.ex
  have e := exF_at ok h1
  have nc : notCls oe = true := by unfold notCls; rw [h3] <;> rfl
  rcases h5 with ⟨h5, h6⟩ | ⟨d, h5, h6⟩
  · refine ⟨oe, none, ⟨e, h2, nc, ?_⟩, .inl ⟨rfl, h6⟩⟩
    rw [h5]
    trivial
  · obtain ⟨mA, hns, hr⟩ := (show ObjOk P w H h d (.xd fs) from ok d _ h6)
    obtain ⟨od, ho, hl⟩ := lookIn_ns hns
    refine ⟨oe, some od, ⟨e, h2, nc, ?_⟩, .inr ⟨od, mA, rfl, hl, hr⟩⟩
    rw [h5]
    exact ho
/-- isinstance(e, c) -/
def rIsX (K : Frag) : List V → Hp → VK → Prop := fun xs H Q => ∃ (a C : Addr) (fs : List (Str × V)) (c : V) (u : Value) (b : Bool), xs = [.ref a, c] ∧ ExJ H C a fs ∧ EiC K C ∧ ClsV c u ∧ kitOne K (.ref C) u = some b ∧ Q (.bl b) H
/-- isinstance(e, (c1, c2, ..)) -/
def rIsXT (K : Frag) : List V → Hp → VK → Prop := fun xs H Q => ∃ (a C tp : Addr) (fs : List (Str × V)) (cs : List V) (us : List Value) (b : Bool), xs = [.ref a, .ref tp] ∧ ExJ H C a fs ∧ EiC K C ∧ H tp = some (.tup cs) ∧ Paired ClsV cs us ∧ kitAny K (.ref C) us = some b ∧ Q (.bl b) H
section
variable {X : Cx}
theorem EiC.kit {K : Frag} {C a : Addr} {ox : Obj} {od : Option Obj} (T : EiC K C) : KitX K (.ref a) (.ref C) (fun h => InstAt h a ox C od) :=
  kitx_exc (by obtain ⟨cd, hc, _⟩ := any_some T.hd; rw [hc]; rfl) T.ga T.gg T.ex T.ca T.hn T.ht T.mo
theorem call_isX : CallR X (.builtin "isinstance") (rIsX X.K) := by
  intro pins s σ H xs us Q I r h
  obtain ⟨a, C, fs, c, u, b, rfl, xj, T, k, e, q⟩ := h
  obtain ⟨u1, u2, rfl, r1, r2⟩ := vals2 r
  cases (show u1 = Value.ref a from r1)
  have e2 := k.eq r2
  subst e2
  obtain ⟨ox, od, J, _⟩ := xj.inst I.hok
  exact kia_one T.kit I.kIn J e (fun z => nomatch z) fun tk => ⟨.bl b, H, I.tok tk, rfl, q⟩
theorem call_isXT : CallR X (.builtin "isinstance") (rIsXT X.K) := by
  intro pins s σ H xs us Q I r h
  obtain ⟨a, C, tp, fs, cs, ws, b, rfl, xj, T, hT, k, e, q⟩ := h
  obtain ⟨u1, u2, rfl, r1, r2⟩ := vals2 r
  cases (show u1 = Value.ref a from r1)
  cases (show u2 = Value.ref tp from r2)
  obtain ⟨ox, od, J, _⟩ := xj.inst I.hok
  obtain ⟨_, its, rv, o, h1, h2, n, h3⟩ := (show ObjOk X.prog X.w H s.heap tp (.tup cs) from I.hok tp _ hT)
  have e3 := ClsV.all k rv
  subst e3
  obtain ⟨oc, od', dt, sl⟩ := o
  simp only at h2 h3
  subst h2 h3
  exact kia_tup T.kit I.kIn J h1 e (fun z => nomatch z) fun tk => ⟨.bl b, H, I.tok tk, rfl, q⟩
/-- e.f -/
def tXj (K : Frag) (f : Str) (te : TE) : TE := fun σ H Q => te σ H fun x H1 => ∃ (a C : Addr) (fs : List (Str × V)) (v : V), x = .ref a ∧ ExJ H1 C a fs ∧ EiC K C ∧ findIn K (.ref C) f = some none ∧ fs.lookup f = some v ∧ Q v H1
theorem pe_xj {e : Expr} {te : TE} {pos : Pos} {n : Str} (he : PE X e te) (hb : attributeBase e n X.env (eval e X.env) = eval e X.env := by rfl) : PE X (.Attribute e n pos) (tXj X.K n te) := by
  refine ⟨fun pins s σ H Q I h => ?_⟩
  refine attr_of hb (thn (he.run pins s σ H _ I h) fun u s1 ⟨x, H1, I1, rx, a, C, fs, v, ex, xj, T, hno, l, q⟩ => ?_)
  subst ex
  obtain rfl : u = Value.ref a := rx
  obtain ⟨ox, od, J, hod⟩ := xj.inst I1.hok
  rcases hod with ⟨_, e2⟩ | ⟨o, mA, rfl, hl, hr⟩
  · rw [e2] at l
    cases l
  · obtain ⟨u, hu, ru⟩ := RelO.some_of (v := v) (o := mA n) (by rw [← l]; exact hr n)
    exact HandSPX.exc_get I1.kIn J T.ga T.gg T.ex (findObj_own T.hd hno rfl (by rw [hl, hu])) (handed_of ru) ⟨v, H1, I1.tok _, ru, q⟩
theorem EiC.raises {C : Addr} (T : EiC X.K C) : Raises X (.ref C) := raises_own T.ex T.ty
end

/-! ### one attribute, two attributes -/
def fs1 (n : Str) : List V → Option (List (Str × V))
  | [v] => some [(n, v)]
  | _ => none
def fs2 : List V → Option (List (Str × V))
  | [r, x] => some [("word", x), ("row", r)]
  | _ => none
def mA1 (n : Str) (u : Value) : Str → Option Value := fun y => if y = n then some u else none
def mA2 (v u : Value) : Str → Option Value := fun y => if y = "word" then some u else if y = "row" then some v else none
theorem rel1 {n : Str} {v : V} {u : Value} (r : RelV v u) (f : Str) : RelO (List.lookup f [(n, v)]) (mA1 n u f) := by
  unfold mA1
  rw [List.lookup_cons]
  by_cases e : f = n
  · subst e
    simp only [beq_self_eq_true, if_true]
    exact r
  · have q : (f == n) = false := beq_eq_false_iff_ne.mpr e
    rw [q, if_neg e]
    trivial
theorem rel2 {r x : V} {v u : Value} (rr : RelV r v) (rx : RelV x u) (f : Str) : RelO (List.lookup f [(("word" : Str), x), ("row", r)]) (mA2 v u f) := by
  unfold mA2
  rw [List.lookup_cons, List.lookup_cons]
  by_cases e : f = "word"
  · subst e
    simp only [beq_self_eq_true, if_true]
    exact rx
  · have q : (f == ("word" : Str)) = false := beq_eq_false_iff_ne.mpr e
    rw [q, if_neg e]
    by_cases e2 : f = "row"
    · subst e2
      simp only [beq_self_eq_true, if_true]
      exact rr
    · have q2 : (f == ("row" : Str)) = false := beq_eq_false_iff_ne.mpr e2
      rw [q2, if_neg e2]
      trivial
section
variable {P : Program} {w : World} {K : Frag} {mg : Str → Option Value} {C : Addr}
theorem suK1 {n : Str} (kC : keepIn K (.ref C) = true) (no : mg "super" = none) (h : ∀ u, MkC P w K mg C [u] [] (mA1 n u)) : SuK P w K mg C [] (fs1 n) := ⟨kC, no, fun vs us fs r e => by
  match vs, r, e with
  | [v], .cons r1 .nil, e =>
    cases e
    rename_i u
    exact ⟨mA1 n u, h u, rel1 r1⟩⟩
theorem suK1k {n : Str} (kC : keepIn K (.ref C) = true) (no : mg "super" = none) (h : ∀ u, MkC P w K mg C [] [(n, u)] (mA1 n u)) : SuK P w K mg C [n] (fs1 n) := ⟨kC, no, fun vs us fs r e => by
  match vs, r, e with
  | [v], .cons r1 .nil, e =>
    cases e
    rename_i u
    exact ⟨mA1 n u, h u, rel1 r1⟩⟩
theorem suK2 (kC : keepIn K (.ref C) = true) (no : mg "super" = none) (h : ∀ v u, MkC P w K mg C [v, u] [] (mA2 v u)) : SuK P w K mg C [] fs2 := ⟨kC, no, fun vs us fs r e => by
  match vs, r, e with
  | [v, x], .cons r1 (.cons r2 .nil), e =>
    cases e
    exact ⟨_, h _ _, rel2 r1 r2⟩⟩
theorem suK2k (kC : keepIn K (.ref C) = true) (no : mg "super" = none) (h : ∀ v u, MkC P w K mg C [] [("row", v), ("word", u)] (mA2 v u)) : SuK P w K mg C ["row", "word"] fs2 := ⟨kC, no, fun vs us fs r e => by
  match vs, r, e with
  | [v, x], .cons r1 (.cons r2 .nil), e =>
    cases e
    exact ⟨_, h _ _, rel2 r1 r2⟩⟩
end
end DL
/-! E5: quiet defs (no raise, no loop over an iterator's end): called anywhere, within an except suite too. -/
namespace DL
open PySem PySem.Spec PySem.W PySem.Calls L2
open PyProof.Rows hiding St wpAt wpAt_bind wpAt_stack wpAt_mono
open L2H (RoomH roomH_of)

/-- what a quiet def keeps -/
structure FnQ (P : Program) (w : World) (K : Frag) (mg : Str → Option Value) (base : Heap) (k : Nat) (f : Addr) (fd : FuncData) (ps : List Str) (sp : Sp) : Prop where
  size : ∀ vs H Q E, sp vs H Q E → vs.length = ps.length
  goes : ∀ (A : Around) (outer : List Env) (s : Shared) (H : Hp) (args : Args) (us : List Value) (vs : List V) (Q : VK) (E : XK), RoomH k A → Env0 P w K mg base A outer s H →
    BindsTo s fd args (ps.zip us) → Vals vs us → sp vs H Q E → codeAny (model P w) A (.call (.ref f) args) (CR CX0 outer P w H s Q E) s
/-- the context of such a def's body -/
def cxQ (P : Program) (w : World) (K : Frag) (mg : Str → Option Value) (base : Heap) (N : List Str) (qual : Str) (scope : Scope) (f : Addr) (cd : Value) (A : Around) (outer : List Env) (s : Shared) (H : Hp) (E : XK) : Cx :=
  { cxOf CX0 P w K mg base N qual scope f cd A outer s H E with calm := false }
section
variable {P : Program} {w : World} {K : Frag} {mg : Str → Option Value} {base : Heap}
theorem inv_startQ {N ps : List Str} {qual : Str} {scope : Scope} {f : Addr} {cd : Value} {A : Around} {outer : List Env} {s s1 : Shared} {H : Hp} {E : XK} {us : List Value} {vs : List V}
    (S : FnScope N ps scope) (e0 : Env0 P w K mg base A outer s H) (hl : vs.length = ps.length) (r : Vals vs us)
    (x : InCallC s s.heap.objs.size (bindL (envOfC qual scope s.heap.objs.size f cd).kindOf (ps.zip us) fun _ => none) (cellsFrom (s.heap.objs.size + 1) scope.names []) (bindC (envOfC qual scope s.heap.objs.size f cd).kindOf (ps.zip us) fun _ => none) s1) :
    Inv (cxQ P w K mg base N qual scope f cd A outer s H E) [] (L2.start N vs) H s1 := by
  have hpl : ps.length ≤ N.length := by have := congrArg List.length S.pre; rw [List.length_take] at this; omega
  obtain ⟨h1, tk, rfl, hk⟩ := x.done
  have noA : ∀ b : Addr, b ∉ (cxQ P w K mg base N qual scope f cd A outer s H E).ex := fun b z => absurd (show b ∈ ([] : List Addr) from z) (by simp)
  refine ⟨⟨e0.mod, S.kind, rfl, rfl, Nat.le_refl _, fun y z c h1 h2 => ?_, fun y hy => ?_, fun y c _ h => ?_, (fun z => Bool.noConfusion (show false = true from z)), Around.frames_deeper e0.frames, .inr ⟨rfl, rfl⟩, fun b z => absurd z (noA b), e0.bs, e0.bsz, fun b _ _ => noA b, fun b z => absurd z (noA b), e0.funs, e0.frf⟩,
    rfl, e0.bare, Un.kept hk, ⟨_, x.toInCall.ns, fun i y v h1 h2 h3 => ?_⟩, fun y c h => ⟨_, x.cell y c h⟩, e0.hok.fresh (Nat.le_refl _), fun y c h => ?_, fun p hp => absurd (show p ∈ ([] : List (Addr × Obj)) from hp) (by simp), e0.hok.kept hk, ?_⟩
  · exact name_of_addr x.apart (PySem.mem_of_lookup h1) (PySem.mem_of_lookup h2)
  · have hy : scope.names.lookup y = some .cell ∨ scope.names.lookup y = some .free := hy
    rcases hy with hy | hy
    · exact cell_has hy
    · exact absurd rfl (S.nofree _ (PySem.mem_of_lookup hy))
  · exact Nat.le_of_lt (x.above y c (PySem.mem_of_lookup h))
  · have hi : i < vs.length := by
      unfold L2.start at h2
      by_cases hi : i < vs.length
      · exact hi
      · rw [List.getElem?_append_right (by simpa using hi)] at h2
        rw [List.getElem?_replicate] at h2
        split at h2 <;> cases h2
    have ha : vs[i]? = some v := by
      unfold L2.start at h2
      rw [List.getElem?_append_left (by simpa using hi), List.getElem?_map] at h2
      cases e : vs[i]? with
      | none => rw [e] at h2; cases h2
      | some a => rw [e] at h2; cases h2; rfl
    obtain ⟨u, hu, rv⟩ := r.get ha
    have hp : ps[i]? = some y := by
      rw [← S.pre, List.getElem?_take_of_lt (by omega)]; exact h1
    have ndP : ps.Nodup := by rw [← S.pre]; exact S.nd.sublist (List.take_sublist _ _)
    refine ⟨u, rv, ?_⟩
    rcases S.par y (List.mem_of_getElem? hp) with k | k
    · exact .inl ⟨k, bindL_get ndP hp hu k⟩
    · obtain ⟨c, e⟩ := cell_has (n := s.heap.objs.size + 1) k
      refine .inr ⟨.inl k, c, e, ?_⟩
      have q := x.cell y c e
      rw [bindC_get ndP hp hu (by show scope.names.lookup y ≠ _; rw [k]; decide)] at q
      exact q
  · exact e0.hok.fresh (Nat.le_of_lt (x.above y c (PySem.mem_of_lookup h)))
  · unfold L2.start
    show _ = N.length
    rw [List.length_append, List.length_map, List.length_replicate]
    omega
theorem fnQ_mk {x qual : Str} {st : Stmt} {f : Addr} {fd : FuncData} {N ps : List Str} {k : Nat} {sp : Sp} (F : Fun K x qual st f fd) (S : FnScope N ps (defScope st)) (len : ∀ vs H Q E, sp vs H Q E → vs.length = ps.length)
    (body : ∀ (cdv : Value) (A : Around) (outer : List Env) (s : Shared) (H : Hp) (vs : List V) (Q : VK) (E : XK), RoomH k (A.deeper (envOfC qual (defScope st) s.heap.objs.size f cdv)) → sp vs H Q E →
      ∃ t, PSs (cxQ P w K mg base N qual (defScope st) f cdv A outer s H E).nox (defBody st) t ∧ t { nx := fun _ H' => Q .non H', rt := Q } (L2.start N vs) H) : FnQ P w K mg base (k + 1) f fd ps sp := by
  obtain ⟨oc, od, kV, doc, pm, an, cdv, ct, osl, rfl, look, code⟩ := F.ex
  refine ⟨len, fun A outer s H args us vs Q E room e0 bnd vals told => ?_⟩
  have lens := len _ _ _ _ told
  have inK : K.In s.heap := e0.mod.kin.keeps fun b o e => (e0.bs b o e).1
  have nol : s.heap.NoLimit := e0.mod.nolimit.keeps fun b o e => (e0.bs b o e).1
  have kinds : ∀ y ∈ ps.zip us, (defScope st).names.lookup y.1 = some .local ∨ ((defScope st).names.lookup y.1 = some .cell ∧ ((cellsFrom (s.heap.objs.size + 1) (defScope st).names []).lookup y.1).isSome = true) := by
    rintro ⟨n, v⟩ hy
    cases S.par n (List.of_mem_zip hy).1 with
    | inl q => exact .inl q
    | inr q => exact .inr ⟨q, PySem.W.cellsFrom_some _ _ _ (.inl q)⟩
  refine codeAny_call_function room.depth (inK _ _ look) rfl S.co S.gen rfl (PySem.W.codeRec_of inK code) ?_
  refine bnd _ _ _ _ (wpAny_newFunctionEnv_cells S.kind kinds fun env he s1 x => ?_)
  subst he
  refine ⟨nol.keeps x.toInCall.keep, codeAny_func ?_⟩
  obtain ⟨t, ht, hq⟩ := body cdv A outer s H vs Q E (room.deeper _) told
  have I : Inv (cxQ P w K mg base N qual (defScope st) f cdv A outer s H E) [] (L2.start N vs) H s1 := inv_startQ S e0 lens vals x
  refine wpAny_mono (ht.nox.run [] s1 (L2.start N vs) H _ I hq) (fun fl s' hs => ?_) fun _ _ hs => hs
  cases fl with
  | ret u =>
    obtain ⟨v, σ', H', J, rv, q⟩ := hs
    exact ⟨v, H', J.os, J.bare, J.base, J.hok, rv, q⟩
  | next =>
    obtain ⟨σ', H', J, q⟩ := hs
    exact ⟨V.non, H', J.os, J.bare, J.base, J.hok, rfl, q⟩
  | brk =>
    obtain ⟨_, _, _, q⟩ := hs
    exact q.elim
  | cont =>
    obtain ⟨_, _, _, q⟩ := hs
    exact q.elim
theorem FnQ.g {k : Nat} {f : Addr} {fd : FuncData} {ps : List Str} {sp : Sp} (F : FnQ P w K mg base k f fd ps sp) : FnG P w K mg base k f fd ps sp :=
  ⟨F.size, fun A outer s H args us vs Q E r _ e0 b v t => F.goes A outer s H args us vs Q E (roomH_of r) e0 b v t⟩
end
/-- a quiet def of the module, over any ground -/
structure ClbQ (P : Program) (w : World) (K : Frag) (mg : Str → Option Value) (k : Nat) (x : Str) (sp : Sp) : Prop where
  ex : ∃ (f : Addr) (fd : FuncData) (ps : List Str), (∀ base : Heap, K.In base → base.Ns mainGlobals mg → FnQ P w K mg base k f fd ps sp) ∧ mg x = some (.ref f) ∧ keepIn K (.ref f) = true ∧ Binds K fd ps []
theorem ClbQ.clb {P : Program} {w : World} {K : Frag} {mg : Str → Option Value} {k : Nat} {x : Str} {sp : Sp} (c : ClbQ P w K mg k x sp) {base : Heap} (X : K.In base) (N : base.Ns mainGlobals mg) : Clb P w K mg base k x sp [] := by
  obtain ⟨f, fd, ps, F, hm, kp, b⟩ := c.ex
  exact ⟨f, fd, ps, [], (F base X N).g, hm, kp, b, .nil⟩

/-! ### called within an except suite, the caught exception among what is tracked -/
/-- no object of the written part is of the class at C -/
def noInst (K : Frag) (C : Addr) : Bool := K.all fun p => p.2.cls != .ref C
theorem noInst_lookup {K : Frag} {C a : Addr} {o : Obj} (h : noInst K C = true) (e : K.lookup a = some o) : o.cls ≠ .ref C := by
  have m : ∀ l : List (Addr × Obj), List.lookup a l = some o → (a, o) ∈ l := by
    intro l
    induction l with
    | nil => intro z; cases z
    | cons p r ih =>
      intro z
      rw [List.lookup_cons] at z
      cases q : a == p.1 with
      | true =>
        rw [q] at z
        cases z
        have y : a = p.1 := beq_iff_eq.mp q
        rw [y]
        exact List.mem_cons_self
      | false =>
        rw [q] at z
        exact List.mem_cons_of_mem _ (ih z)
  have q := List.all_eq_true.mp h _ (m _ e)
  simpa using q
/-- the reading -/
def tHot (K : Frag) (a : Addr) (cls : Value) (d : Option Addr) (sp : Sp) (t : TA) : TE := fun σ H Q => t σ H fun vs H1 => (∃ C, cls = .ref C ∧ noInst K C = true) ∧
  ∀ oe : Obj, Zc cls d oe → (∃ ws, oe.data = .fields ws) → sp vs (upd H1 a (ExF oe a)) (fun v H2 => H2 a = some (ExF oe a) ∧ Q v (delH H2 a)) E0
section
variable {X : Cx} {k : Nat} {x : Str} {sp : Sp} {p pos : Pos} {e : Expr} {es : List Expr} {t : TA} {a : Addr} {oe : Obj} {cls : Value} {d : Option Addr} {K : Frag}
theorem pe_hot (hK : X.K = K) (c : ClbQ X.prog X.w X.K X.mg k x sp) (hr : RoomH k X.A) (hp : (a, oe) ∈ X.pn) (hz : Zc cls d oe) (hf : ∃ vs, oe.data = .fields vs) (hg : Gl X x) (ha : PA X (e :: es) t)
    (hdb : (x == ("__debug__" : Str)) = false := by decide) (he : starEach (e :: es) X.env = (false, eval e X.env) :: starEach es X.env := by rfl) (hpl : (backTo pos (starEach es X.env)).any (·.1) = false := by rfl) :
    PE X (.Call (.Name x p) (e :: es) [] pos) (tHot K a cls d sp t) := by
  subst hK
  obtain ⟨f, fd, ps, F, hm, kp, bnd⟩ := c.ex
  refine ⟨fun pins s σ H Q I h => ?_⟩
  refine wpAny_Call_Name_kw (ld_glob I hg hm ?_ hdb)
  refine PySem.W.callWith_K (h₀ := X.base) I.ok.mod.kin kp (thn (ha.run pos pins s σ H _ I h) fun us s1 ⟨vs, H1, I1, r1, ⟨C, hC, hno⟩, q0⟩ => ⟨I1.kIn, ?_⟩) he hpl
  show wpAny _ _ (call (.ref f) us) _ _ _
  have hc : oe.cls = .ref C := hz.1.trans hC
  have q := q0 oe hz hf
  obtain ⟨P1, P2, P3, P4, P5⟩ := I1.pin (a, oe) (List.mem_append_left _ hp)
  obtain ⟨vo, hvo⟩ := hf
  -- the ground without a
  have na : ∀ {b : Addr} {o : Obj}, X.base.get? b = some o → (∀ w, o.data ≠ .fields w) → b ≠ a := fun z d y => by
    have q := (I1.bs _ _ z).1
    rw [y] at q
    have P1' : s1.heap.get? a = some oe := P1
    rw [P1'] at q
    cases q
    exact d _ hvo
  have hide : ∀ {b : Addr} {o : Obj}, X.base.get? b = some o → b ≠ a → (hideAll X.base [a]).get? b = some o := fun z y => hideAll_get _ z (by simpa using y)
  have inB : X.K.In (hideAll X.base [a]) := fun b o z => hide (I1.ok.mod.kin b o z) fun y => by
    have q := I1.kIn b o z
    have P1' : s1.heap.get? a = some oe := P1
    rw [y, P1'] at q
    cases q
    exact noInst_lookup hno z hc
  have space : ∀ {b : Addr} {m : Str → Option Value}, X.base.Ns b m → (hideAll X.base [a]).Ns b m := fun ⟨o, es, ep, z, d, r⟩ => ⟨o, es, ep, hide z (na z fun w y => by rw [d] at y; cases y), d, r⟩
  obtain ⟨mb, b1, b2⟩ := I1.ok.mod.blt
  obtain ⟨mc, c1, c2⟩ := id I1.ok.mod.nolimit
  have e1 := I1.env0
  have env' : Env0 X.prog X.w X.K X.mg (hideAll X.base [a]) X.A X.stack s1 (upd H1 a (ExF oe a)) := {
    frames := e1.frames
    mod := ⟨inB, space I1.ok.mod.glob, ⟨mb, space b1, b2⟩, ⟨mc, space c1, c2⟩⟩
    bs := fun b o z => by
      have z' := of_hideAll [a] z
      have nb : b ≠ a := fun y => by
        have q : (hideAll X.base [a]).get? a = none := hideAll_none [a] (by simp)
        rw [y, q] at z
        cases z
      have q := e1.bs b o z'
      exact ⟨q.1, by rw [upd_ne nb]; exact q.2⟩
    bsz := by rw [hideAll_size]; exact e1.bsz
    funs := funFrames_none e1.funs fun L hL => by
      cases q : (hideAll X.base [a]).get? L with
      | none => rfl
      | some o =>
        have z := of_hideAll [a] q
        obtain ⟨n, _⟩ := e1.funs.mem hL
        rw [n] at z
        cases z
    frf := fun b hb => by
      have nb : b ≠ a := fun y => by
        rw [y] at hb
        exact (List.mem_cons.mp (I1.stkSub a hb)).elim P3 P4
      rw [upd_ne nb]
      exact e1.frf b hb
    hok := fun b v z => by
      by_cases hb : b = a
      · subst hb
        rw [upd_same] at z
        cases z
        exact exF_ok P1
      · rw [upd_ne hb] at z
        exact (I1.hok b v z).stay (fun c v _ q => q) (fun c q => by rw [upd_ne (ne_of_none q P2)]; exact q) fun c xs q => by rw [upd_ne (ne_of_none q P2)]; exact q
    bare := e1.bare }
  have lens : us.length = ps.length := r1.length.symm.trans ((F _ inB (space I1.ok.mod.glob)).size _ _ _ _ q)
  have bn := bnd s1 us I1.kIn (by rw [List.append_nil]; exact lens)
  rw [List.append_nil] at bn
  refine wpAny_call (codeAny_mono ((F _ inB (space I1.ok.mod.glob)).goes X.A X.stack s1 _ ⟨us, []⟩ us vs _ E0 hr env' bn r1 q) fun res s' hq => ?_)
  match res, hq with
  | .error e, hq => exact hq.elim
  | .ok (.ret u), ⟨v, H2, os, bare, un, hok, rv, h2a, q2⟩ =>
    have at' : s'.heap.get? a = some oe := exF_at hok h2a
    refine I1.after ⟨v, delH H2 a, os, bare, ⟨fun b o z n hf hx => ?_, fun b o z n hf hx => ?_, fun b o z n hx => ?_, un.there, fun b xs z => ?_, fun b o u z => ?_, fun b ps z => ?_⟩, fun b v z => ?_, rv, q2⟩
    · by_cases hb : b = a
      · subst hb
        have P1' : s1.heap.get? b = some oe := P1
        rw [P1'] at z
        cases z
        exact at'
      · exact un.keep b o z (by rw [upd_ne hb]; exact n) hf hx
    · have hb : b ≠ a := fun y => by
        rw [y] at hf
        exact (List.mem_cons.mp (I1.stkSub a hf)).elim P3 P4
      exact un.slot b o z (by rw [upd_ne hb]; exact n) hf hx
    · by_cases hb : b = a
      · rw [hb]
        exact delH_same
      · rw [delH_ne hb]
        exact un.free b o z (by rw [upd_ne hb]; exact n) hx
    · have hb : b ≠ a := ne_of_none z P2
      rw [delH_ne hb]
      exact un.tups b xs (by rw [upd_ne hb]; exact z)
    · have hb : b ≠ a := ne_of_none z P2
      rw [delH_ne hb]
      exact un.frzs b o u (by rw [upd_ne hb]; exact z)
    · have hb : b ≠ a := ne_of_none z P2
      rw [delH_ne hb]
      exact un.tbls b ps (by rw [upd_ne hb]; exact z)
    · by_cases hb : b = a
      · rw [hb, delH_same] at z
        cases z
      · rw [delH_ne hb] at z
        exact (hok b v z).stay (fun c v _ q => q) (fun c q => by
            rw [delH_ne (fun y => by rw [y, h2a] at q; cases q)]
            exact q) fun c xs q => by
            rw [delH_ne (fun y => by rw [y, h2a] at q; cases q)]
            exact q
end
end DL
/-! E6: repr of data that is tracked (None, bools, ints, texts, lists, tuples, the empty dict). -/
namespace DL
open PySem PySem.Spec PySem.W PySem.Calls L2
open PyProof.Rows hiding St wpAt wpAt_bind wpAt_stack wpAt_mono

mutual
/-- what a value is, by what is tracked -/
inductive Rz (F : Hp) : V → PyData → Prop
  | non : Rz F .non .none
  | bl (b : Bool) : Rz F (.bl b) (.bool b)
  | int (i : Int) : Rz F (.int i) (.int i)
  | str (x : Str) : Rz F (.str x) (.str x)
  | lst {a : Addr} {vs : List V} {ds : List PyData} : F a = some (.lst vs) → a ≠ sysModules → RzAll F vs ds → Rz F (.ref a) (.list ds)
  | tup {a : Addr} {vs : List V} {ds : List PyData} : F a = some (.tup vs) → RzAll F vs ds → Rz F (.ref a) (.tuple ds)
  | emp {a : Addr} : F a = some (.dK []) → Rz F (.ref a) (.dict [])
inductive RzAll (F : Hp) : List V → List PyData → Prop
  | nil : RzAll F [] []
  | cons {v : V} {vs : List V} {d : PyData} {ds : List PyData} : Rz F v d → RzAll F vs ds → RzAll F (v :: vs) (d :: ds)
end
mutual
theorem Rz.mono {F F' : Hp} (e : Same F F') : ∀ {v : V} {d : PyData}, Rz F v d → Rz F' v d
  | _, _, .non => .non
  | _, _, .bl b => .bl b
  | _, _, .int i => .int i
  | _, _, .str x => .str x
  | _, _, .lst h n r => .lst (e _ _ h) n (RzAll.mono e r)
  | _, _, .tup h r => .tup (e _ _ h) (RzAll.mono e r)
  | _, _, .emp h => .emp (e _ _ h)
theorem RzAll.mono {F F' : Hp} (e : Same F F') : ∀ {vs : List V} {ds : List PyData}, RzAll F vs ds → RzAll F' vs ds
  | _, _, .nil => .nil
  | _, _, .cons h r => .cons (Rz.mono e h) (RzAll.mono e r)
end
mutual
theorem Rz.reads {P : Program} {w : World} {F : Hp} {h : Heap} (ok : HOk P w F h) : ∀ {v : V} {u : Value} {d : PyData}, Rz F v d → RelV v u → ∃ as, Reads h u d as ∧ sysModules ∉ as
  | _, _, _, .non, r => by
    cases (show _ = Value.none from r)
    exact ⟨[], .none, by simp⟩
  | _, _, _, .bl b, r => by
    cases (show _ = Value.bool b from r)
    exact ⟨[], .bool b, by simp⟩
  | _, _, _, .int i, r => by
    obtain ⟨t, rfl⟩ := (show ∃ t, _ = Value.int i t from r)
    exact ⟨[], .int i t, by simp⟩
  | _, _, _, .str x, r => by
    obtain ⟨t, rfl⟩ := (show ∃ t, _ = Value.str x t from r)
    exact ⟨[], .str x t, by simp⟩
  | _, _, _, .lst (a := a) e n rs, r => by
    cases (show _ = Value.ref a from r)
    obtain ⟨_, its, n2, rv, h1⟩ := ok a _ e
    obtain ⟨as, q1, q2⟩ := RzAll.reads ok rs rv
    exact ⟨a :: as, .list h1 rfl rfl q1, by simp only [List.mem_cons, not_or]; exact ⟨Ne.symm n, q2⟩⟩
  | _, _, _, .tup (a := a) e rs, r => by
    cases (show _ = Value.ref a from r)
    obtain ⟨_, its, rv, o, h1, h2, n2, h3⟩ := ok a _ e
    obtain ⟨as, q1, q2⟩ := RzAll.reads ok rs rv
    exact ⟨as, .tuple h1 h2 h3 q1, q2⟩
  | _, _, _, .emp (a := a) e, r => by
    cases (show _ = Value.ref a from r)
    obtain ⟨_, hs, vs, rk, o, es, ep, h1, h2, h3, h4, h5, _⟩ := ok a _ e
    cases rk
    have es0 : es.toList = [] := by
      generalize es.toList = l at h5
      cases h5
      rfl
    refine ⟨a :: [] ++ [], .dict (kvs := []) h1 h2.1 h3 (by rw [es0]; exact .nil) (by rw [es0]; exact .nil), ?_⟩
    have z : a ≠ sysModules := by simpa using hs
    simpa using Ne.symm z
theorem RzAll.reads {P : Program} {w : World} {F : Hp} {h : Heap} (ok : HOk P w F h) : ∀ {vs : List V} {us : List Value} {ds : List PyData}, RzAll F vs ds → Vals vs us → ∃ as, ReadsAll h us ds as ∧ sysModules ∉ as
  | _, _, _, .nil, r => by
    cases r
    exact ⟨[], .nil, by simp⟩
  | _, _, _, .cons q rs, r => by
    cases r with
    | cons r1 r2 =>
      obtain ⟨as, q1, q2⟩ := Rz.reads ok q r1
      obtain ⟨bs, q3, q4⟩ := RzAll.reads ok rs r2
      exact ⟨as ++ bs, .cons q1 q3, by simp only [List.mem_append, not_or]; exact ⟨q2, q4⟩⟩
end
/-- repr(x) -/
def rRepr : List V → Hp → VK → Prop := fun xs H Q => ∃ (v : V) (d : PyData), xs = [v] ∧ Rz H v d ∧ d.showable = true ∧ d.shown.length ≤ sizeLine ∧ d.depth ≤ 100 ∧ Q (.str d.shown) H
theorem call_reprZ {X : Cx} (gd : X.A.guards = some []) (hu : X.A.units + 200 < cLine) : CallR X (.builtin "repr") rRepr := by
  intro pins s σ H xs us Q I r h
  obtain ⟨v, d, rfl, rz, hs, hz, hd, q⟩ := h
  obtain ⟨u, rfl, ru⟩ := vals1 r
  have fin : ∀ (h' : Heap) (tk t : Nat), (∀ b o, s.heap.get? b = some o → h'.get? b = some o) → EP X pins σ Q (.str d.shown t) { s with heap := h', toks := tk } := fun h' tk t k => ⟨.str d.shown, H, I.kept (t' := tk) k, ⟨t, rfl⟩, q⟩
  have deep : ∀ a : Addr, u = .ref a → wpAny (model X.prog X.w) X.A (call (.builtin "repr") [u]) (EP X pins σ Q) X.xe s := fun a e => by
    obtain ⟨as, rd, ns⟩ := rz.reads I.hok ru
    subst e
    exact repr_of_reads' rd hs (fun _ => ns) gd (by omega) (fun b o z => z) (fun h' t tk k => fin h' tk t k) hz
  cases rz with
  | non =>
    cases (show u = Value.none from ru)
    exact PySem.P.repr_of_none (fin _ _ _ fun _ _ z => z)
  | bl b =>
    cases (show u = Value.bool b from ru)
    exact PySem.P.repr_of_bool (fin _ _ _ fun _ _ z => z)
  | int i =>
    obtain ⟨t, rfl⟩ := (show ∃ t, u = Value.int i t from ru)
    exact PySem.P.repr_of_int (by simpa [PyData.showable] using hs) (fin _ _ _ fun _ _ z => z)
  | str x =>
    obtain ⟨t, rfl⟩ := (show ∃ t, u = Value.str x t from ru)
    exact PySem.P.repr_of_str (fin _ _ _ fun _ _ z => z) (by simpa [PyData.shown] using hz)
  | lst e n rs => exact deep _ ru
  | tup e rs => exact deep _ ru
  | emp e => exact deep _ ru
/-- a list display, its place known not to be sys.modules' -/
def tLstB (t : TA) : TE := fun σ H Q => t σ H fun xs H1 => xs.length ≤ sizeLine ∧ ∀ p, H1 p = none → p ≠ sysModules → Q (.ref p) (upd H1 p (.lst xs))
theorem pe_lstB {X : Cx} {es : List Expr} {t : TA} {pos : Pos} (h : PA X es t) : PE X (.List es pos) (tLstB t) := by
  refine ⟨fun pins s σ H Q I hq => ?_⟩
  refine wpAny_List_spliced (thn (h.run pos pins s σ H _ I hq) fun us s1 ⟨xs, H1, I1, r, z, q⟩ => ⟨by rw [← r.length]; exact z, ?_⟩)
  have hf : H1 s1.heap.objs.size = none := I1.hok.fresh (Nat.le_refl _)
  refine ⟨.ref s1.heap.objs.size, upd H1 s1.heap.objs.size (.lst xs), I1.laid (t' := s1.toks) (fun b u e => Heap.get?_push_of_some _ e) (Nat.le_refl _) ?_, rfl, q _ hf (Nat.ne_of_gt I1.big)⟩
  exact ⟨z, us, 0, r, Heap.get?_push_size _ rfl⟩
end DL
namespace K1
open PySem PySem.Spec L2 DL
open PyProof.Rows hiding St wpAt wpAt_bind wpAt_stack wpAt_mono
abbrev prg : Program := PySem.Challenge.pw_frametongue_k01_errors_each_of_its_own
abbrev topS (j : Nat) : Stmt := prg.main.body.getD j (.Pass ⟨0, 0, 0, 0⟩)
end K1
namespace K1
open PySem PySem.Spec L2 DL
open PyProof.Rows hiding St wpAt wpAt_bind wpAt_stack wpAt_mono
/-- the built-in names that the law's defs use -/
structure Nms (mg : Str → Option Value) : Prop where
  n_len : mg "len" = none
  n_int : mg "int" = none
  n_abs : mg "abs" = none
  n_range : mg "range" = none
  n_max : mg "max" = none
  n_min : mg "min" = none
  n_all : mg "all" = none
  n_isinstance : mg "isinstance" = none
  n_repr : mg "repr" = none
  n_super : mg "super" = none
  n_ValueError : mg "ValueError" = none
  n_LookupError : mg "LookupError" = none
  n_ArithmeticError : mg "ArithmeticError" = none
  n_TypeError : mg "TypeError" = none
  n_AttributeError : mg "AttributeError" = none
  n_RuntimeError : mg "RuntimeError" = none
abbrev sPurse : Stmt := topS 23
abbrev sTake : Stmt := topS 24
abbrev sPick : Stmt := topS 25
abbrev sGiv : Stmt := topS 26
abbrev sIdx : Stmt := topS 27
abbrev sKinds : Stmt := topS 28
abbrev sKept : Stmt := topS 29
abbrev sPlain : Stmt := topS 30
abbrev sCau : Stmt := topS 31
abbrev sRight : Stmt := topS 32
abbrev sLaw : Stmt := topS 33
abbrev nPurse : List Str := ["cells", "at", "cell", "seed", "other"]
abbrev nTake : List Str := ["draws", "many", "figures", "seed", "turn"]
abbrev nPick : List Str := ["draws", "some"]
abbrev nGiv : List Str := ["thing"]
abbrev nKinds : List Str := ["e", "found"]
abbrev nKept : List Str := ["word", "e"]
abbrev nPlain : List Str := ["e"]
abbrev nCau : List Str := ["way", "thing", "e"]
abbrev nRight : List Str := ["draws", "plain", "thing", "spot", "word", "one", "two", "e", "row", "made", "way", "at"]
abbrev nLaw : List Str := ["cells", "at"]
theorem fsPurse : FnScope nPurse ["cells", "at"] (defScope sPurse) := ⟨rfl, rfl, rfl, by decide +kernel, rfl, by decide +kernel, by decide +kernel⟩
theorem fsTake : FnScope nTake ["draws", "many"] (defScope sTake) := ⟨rfl, rfl, rfl, by decide +kernel, rfl, by decide +kernel, by decide +kernel⟩
theorem fsPick : FnScope nPick ["draws", "some"] (defScope sPick) := ⟨rfl, rfl, rfl, by decide +kernel, rfl, by decide +kernel, by decide +kernel⟩
theorem fsGiv : FnScope nGiv ["thing"] (defScope sGiv) := ⟨rfl, rfl, rfl, by decide +kernel, rfl, by decide +kernel, by decide +kernel⟩
theorem fsIdx : FnScope nGiv ["thing"] (defScope sIdx) := ⟨rfl, rfl, rfl, by decide +kernel, rfl, by decide +kernel, by decide +kernel⟩
theorem fsKinds : FnScope nKinds ["e"] (defScope sKinds) := ⟨rfl, rfl, rfl, by decide +kernel, rfl, by decide +kernel, by decide +kernel⟩
theorem fsKept : FnScope nKept ["word", "e"] (defScope sKept) := ⟨rfl, rfl, rfl, by decide +kernel, rfl, by decide +kernel, by decide +kernel⟩
theorem fsPlain : FnScope nPlain ["e"] (defScope sPlain) := ⟨rfl, rfl, rfl, by decide +kernel, rfl, by decide +kernel, by decide +kernel⟩
theorem fsCau : FnScope nCau ["way", "thing"] (defScope sCau) := ⟨rfl, rfl, rfl, by decide +kernel, rfl, by decide +kernel, by decide +kernel⟩
theorem fsRight : FnScope nRight ["draws"] (defScope sRight) := ⟨rfl, rfl, rfl, by decide +kernel, rfl, by decide +kernel, by decide +kernel⟩
theorem fsLaw : FnScope nLaw ["cells"] (defScope sLaw) := ⟨rfl, rfl, rfl, by decide +kernel, rfl, by decide +kernel, by decide +kernel⟩
end K1
namespace K1
open PySem PySem.Spec L2 DL
open PyProof.Rows hiding St wpAt wpAt_bind wpAt_stack wpAt_mono
/-- at a: the draws, n of them taken -/
def Dr (H : Hp) (a : Addr) (n : Nat) : Prop := ∃ f s : Int, H a = some (.lst [.int f, .int s, .int n]) ∧ 0 ≤ s ∧ s < 2147483549
def spTake : Sp := fun vs H Q _ => ∃ (a : Addr) (m : Int) (n : Nat), vs = [.ref a, .int m] ∧ Dr H a n ∧ n ≤ 1000 ∧ 0 < m ∧ m < 1000000 ∧
  ∀ r f s : Int, 0 ≤ r → r < m → 0 ≤ s → s < 2147483549 → Q (.int r) (upd H a (.lst [.int f, .int s, .int (n + 1 : Nat)]))
section
variable {w : World} {K : PySem.W.Frag} {mg : Str → Option Value} {base : Heap} {f : Addr} {fd : FuncData}
theorem ok_take (F : Fun K "_law_take" "_law_take" sTake f fd) (T : Nms mg) : FnG prg w K mg base 1 f fd ["draws", "many"] spTake := by
  have S := fsTake
  refine fnG_mk F S (fun vs H Q E h => by obtain ⟨a, m, n, rfl, _⟩ := h; rfl) fun cdv A outer s H vs Q E hr gd hsp => ?_
  obtain ⟨a, m, n, rfl, ⟨fg, sd, hd, hs0, hs1⟩, hn, hm0, hm1, hq⟩ := hsp
  refine ⟨_, (pss_cons (ps_asg (pv 0) (pg_unl rfl (pgs_cons (pg_name (i := 2) S.nd rfl (Or.inl rfl)) (pgs_cons (pg_name (i := 3) S.nd rfl (Or.inl rfl)) (pgs_cons (pg_name (i := 4) S.nd rfl (Or.inl rfl)) pgs_nil)))))
    (pss_cons (ps_asg (pe_op op_modN (pe_callTy call_int1 (by rfl) T.n_int (by decide +kernel) (pa_cons (pe_op op_add (pe_op op_add (pe_op op_mul (pv 3) (pe_op op_add pe_int (pe_op op_mul pe_int (pv 4)))) (pe_op op_mul pe_int (pv 4))) pe_int) pa_nil)) pe_int) (pg_sub (pv 0) pe_int set_list))
    (pss_cons (ps_asg (pe_op op_add (pv 4) pe_int) (pg_sub (pv 0) pe_int set_list))
    (pss_cons (ps_if (pt_cmpR op_gt (pv 2) pe_int (nomark _)) (pss_cons (ps_asg (pe_op op_fdivN (pe_callTy call_int1 (by rfl) T.n_int (by decide +kernel) (pa_cons (pv 2) pa_nil)) (pv 1)) (pg_sub (pv 0) pe_int set_list))
    (pss_one (ps_ret (pe_op op_modN (pe_callTy call_int1 (by rfl) T.n_int (by decide +kernel) (pa_cons (pv 2) pa_nil)) (pv 1))))) pss_nil)
    (pss_one (ps_ret (pe_op op_modN (pe_callTy call_int1 (by rfl) T.n_int (by decide +kernel) (pa_cons (pe_op op_fdivN (pe_ix ix_list (pv 0) pe_int (fun _ _ => rfl)) pe_int) pa_nil)) (pv 1)))))))), ?_⟩
  refine ⟨_, rfl, a, _, rfl, SqL.of hd, rfl, _, _, rfl, _, _, rfl, _, _, rfl, rfl, ?_⟩
  -- draws[1] = ..
  refine ⟨_, rfl, _, rfl, _, _, rfl, rfl, .inl ⟨by decide, by decide⟩, _, _, rfl, rfl, _, _, rfl, rfl, .inl ⟨by omega, by omega⟩, ?_⟩
  refine ⟨_, rfl, _, _, rfl, rfl, .inl ⟨by decide, by decide⟩, _, _, rfl, rfl, _, _, rfl, rfl, .inl ⟨_, rfl, _, _, rfl, rfl, (by show (2147483549 : Int) ≠ 0; decide), ?_⟩⟩
  refine ⟨_, rfl, a, _, _, 1, rfl, rfl, hd, rfl, ?_⟩
  -- draws[2] = turn + 1
  refine ⟨_, rfl, _, _, rfl, rfl, _, rfl, a, _, _, 2, rfl, rfl, upd_same, rfl, ?_⟩
  -- if figures > 0
  refine ⟨_, rfl, _, _, rfl, rfl, _, rfl, ite2 (fun hp => ?_) fun hp => ?_⟩
  · refine ⟨_, rfl, .inl ⟨_, rfl, _, rfl, _, _, rfl, rfl, ⟨by omega, by omega⟩, ?_⟩⟩
    refine ⟨_, rfl, a, _, _, 0, rfl, rfl, upd_same, rfl, ?_⟩
    refine ⟨_, rfl, .inl ⟨_, rfl, _, rfl, _, _, rfl, rfl, by omega, ?_⟩⟩
    show Q (.int _) (upd (upd (upd H a _) a _) a _)
    rw [upd_upd, upd_upd]
    exact hq _ _ _ (Int.fmod_nonneg_of_pos _ hm0) (Int.fmod_lt_of_pos _ hm0) (Int.fmod_nonneg_of_pos _ (by decide)) (Int.fmod_lt_of_pos _ (by decide))
  · refine ⟨_, rfl, a, _, _, _, rfl, rfl, SqL.of upd_same, rfl, _, _, rfl, rfl, ⟨by decide, by decide⟩, .inl ⟨_, rfl, _, rfl, _, _, rfl, rfl, by omega, ?_⟩⟩
    show Q (.int _) (upd (upd H a _) a _)
    rw [upd_upd]
    exact hq _ _ _ (Int.fmod_nonneg_of_pos _ hm0) (Int.fmod_lt_of_pos _ hm0) (Int.fmod_nonneg_of_pos _ (by decide)) (Int.fmod_lt_of_pos _ (by decide))

def spPick : Sp := fun vs H Q _ => ∃ (a p : Addr) (n : Nat) (xs : List V), vs = [.ref a, .ref p] ∧ Dr H a n ∧ n ≤ 1000 ∧ H p = some (.tup xs) ∧ 0 < xs.length ∧ xs.length < 1000000 ∧
  ∀ (v : V) (f s : Int), v ∈ xs → 0 ≤ s → s < 2147483549 → Q v (upd H a (.lst [.int f, .int s, .int (n + 1 : Nat)]))
theorem ok_pick (F : Fun K "_law_pick" "_law_pick" sPick f fd) (T : Nms mg) (c_law_take : Clb prg w K mg base 1 "_law_take" spTake []) : FnG prg w K mg base 2 f fd ["draws", "some"] spPick := by
  have S := fsPick
  refine fnG_mk F S (fun vs H Q E h => by obtain ⟨a, p, n, xs, rfl, _⟩ := h; rfl) fun cdv A outer s H vs Q E hr gd hsp => ?_
  obtain ⟨a, p, n, xs, rfl, hd, hn, hp, hl0, hl1, hq⟩ := hsp
  refine ⟨_, (pss_one (ps_ret (pe_ix ix_tup (pv 1) (pe_clb c_law_take hr (by decide) gd rfl (pa_cons (pv 0) (pa_cons (pe_callB call_len_seq (by rfl) T.n_len (by decide +kernel) (pa_cons (pv 1) pa_nil)) pa_nil))) (fun _ _ => rfl)))), ?_⟩
  refine ⟨_, rfl, _, rfl, _, rfl, p, xs, rfl, .inr (SqT.of hp), a, _, n, rfl, hd, hn, by omega, by omega, fun r f s r0 r1 s0 s1 => ?_⟩
  have hap : p ≠ a := by
    obtain ⟨f', s', h, _⟩ := hd
    exact ne_of hp h (by intro z; cases z)
  obtain ⟨j, rfl⟩ := Int.eq_ofNat_of_zero_le r0
  have hj : j < xs.length := by omega
  refine ⟨p, xs, _, xs[j], rfl, rfl, SqT.of (by rw [upd_ne hap]; exact hp), atI_nat (by simp [hj]), ?_⟩
  exact hq _ _ _ (List.getElem_mem hj) s0 s1
/-- the seed that the draws begin with -/
def spPurse (K : PySem.W.Frag) : Sp := fun vs H Q _ => ∃ (a : Addr) (ns : List Int) (i : Nat), vs = [.ref a, .int i] ∧ SqL K H a (ns.map V.int) ∧ ns.length ≤ 63 ∧ i ≤ 2 ∧ ∀ H' p, Same H H' → H p = none → Dr H' p 0 → Q (.ref p) H'
theorem ok_purse (F : Fun K "_law_purse" "_law_purse" sPurse f fd) (T : Nms mg) : FnG prg w K mg base 1 f fd ["cells", "at"] (spPurse K) := by
  have S := fsPurse
  refine fnG_mk F S (fun vs H Q E h => by obtain ⟨a, ns, i, rfl, _⟩ := h; rfl) fun cdv A outer s H vs Q E hr gd hsp => ?_
  obtain ⟨a, ns, i, rfl, hL, hl, hi, hq⟩ := hsp
  refine ⟨_, (pss_cons (ps_set (i := 2) S.nd rfl (Or.inl rfl) (pe_ifExp (pt_cmpR op_lt (pv 1) (pe_callB call_len_seq (by rfl) T.n_len (by decide +kernel) (pa_cons (pv 0) pa_nil)) (nomark _)) (pe_ix ix_list (pv 0) (pv 1) (fun _ _ => rfl)) pe_int))
    (pss_cons (ps_set (i := 3) S.nd rfl (Or.inl rfl) (pe_op op_modN (pe_callTy call_int1 (by rfl) T.n_int (by decide +kernel) (pa_cons (pe_op op_add (pe_op op_add (pe_op op_mul (pv 2) pe_int) (pe_op op_mul (pv 1) pe_int)) pe_int) pa_nil)) pe_int))
    (pss_cons (ps_for PassesOwn.never rfl (pi_list (pe_ifExp (pt_cmpR op_ge (pv 1) (pe_callB call_len_seq (by rfl) T.n_len (by decide +kernel) (pa_cons (pv 0) pa_nil)) (nomark _)) (pe_slice sl_list (pv 0) po_none (po_some pe_int)) (pe_lst pa_nil))) (pg_name (i := 4) S.nd rfl (Or.inl rfl)) (pss_one (ps_set (i := 3) S.nd rfl (Or.inl rfl) (pe_op op_modN (pe_callTy call_int1 (by rfl) T.n_int (by decide +kernel) (pa_cons (pe_op op_add (pe_op op_mul (pv 3) pe_int) (pv 4)) pa_nil)) pe_int))))
    (pss_one (ps_ret (pe_lst (pa_cons (pe_ifExp (pt_cmpR op_ge (pe_callB call_abs (by rfl) T.n_abs (by decide +kernel) (pa_cons (pv 2) pa_nil)) (pe_op op_pow pe_int pe_int) (nomark _)) (pe_op op_modN (pe_callTy call_int1 (by rfl) T.n_int (by decide +kernel) (pa_cons (pe_callB call_abs (by rfl) T.n_abs (by decide +kernel) (pa_cons (pv 2) pa_nil)) pa_nil)) (pe_op op_mulW (pe_op op_mulW (pe_op op_pow pe_int pe_int) (pe_op op_pow pe_int pe_int)) (pe_op op_pow pe_int pe_int))) pe_int) (pa_cons (pv 3) (pa_cons pe_int pa_nil))))))))), ?_⟩
  refine ⟨_, rfl, _, rfl, _, _, rfl, .inl hL, _, _, rfl, rfl, _, rfl, ?_⟩
  refine (show ∀ P : V → Hp → Prop, (∀ c : Int, P (.int c) H) → (if decide ((i : Int) < ((ns.map V.int).length : Int)) = true then tOp (rIxL K) (tVar 0) (tVar 1) (L2.start nPurse [V.ref a, V.int i]) H P else tC (.int 0) (L2.start nPurse [V.ref a, V.int i]) H P) from fun P hP => ite2 (fun hlt => ?_) fun _ => hP 0) _ fun c => ?_
  · have hlt' : i < ns.length := by simpa using of_decide_eq_true hlt
    refine ⟨_, rfl, _, rfl, a, _, _, V.int ns[i], rfl, rfl, hL, atI_nat (by simp [hlt']), hP _⟩
  -- the seed
  refine ⟨_, rfl, _, _, rfl, rfl, .inr ⟨by decide, by decide⟩, _, rfl, _, _, rfl, rfl, .inr ⟨by decide, by decide⟩, _, _, rfl, rfl, _, _, rfl, rfl, .inl ⟨_, rfl, _, _, rfl, rfl, (by show (2147483549 : Int) ≠ 0; decide), ?_⟩⟩
  have b0 : 0 ≤ Int.fmod (c * 20011 + (i : Int) * 82003 + 1009) 2147483549 := Int.fmod_nonneg_of_pos _ (by decide)
  have b1 : Int.fmod (c * 20011 + (i : Int) * 82003 + 1009) 2147483549 < 2147483549 := Int.fmod_lt_of_pos _ (by decide)
  refine ⟨_, rfl, _, rfl, _, _, rfl, .inl hL, _, _, rfl, rfl, _, rfl, ?_⟩
  refine (show ∀ P : V → Hp → Prop, (∀ p (ms : List Int), H p = none → P (.ref p) (upd H p (.lst (ms.map V.int)))) →
    (if decide ((((ns.map V.int).length : Nat) : Int) ≤ (i : Int)) = true then tSl (rSlL K) (tVar 0) tNoPart (tPart (tC (.int 4))) (((L2.start nPurse [V.ref a, V.int i]).set 2 (some (.int c))).set 3 (some (.int (Int.fmod (c * 20011 + (i : Int) * 82003 + 1009) 2147483549)))) H P
      else tLst tNil (((L2.start nPurse [V.ref a, V.int i]).set 2 (some (.int c))).set 3 (some (.int (Int.fmod (c * 20011 + (i : Int) * 82003 + 1009) 2147483549)))) H P) from fun P hP => ite2 (fun _ => ?_) fun _ => ?_) _ fun p ms hp => ?_
  · refine ⟨_, rfl, _, rfl, a, _, rfl, hL, fun p hp => ?_⟩
    have e : cutV (ns.map V.int) none (some 4) = ((ns.drop (HT.sIx (ns.map V.int).length 0 none)).take (HT.sIx (ns.map V.int).length (ns.map V.int).length (some 4) - HT.sIx (ns.map V.int).length 0 none)).map V.int := by
      unfold cutV
      rw [List.map_take, List.map_drop]
    rw [e]
    exact hP p _ hp
  · refine ⟨by show 0 ≤ sizeLine; omega, fun p hp => ?_⟩
    exact hP p [] hp
  have sm : Same H (upd H p (.lst (ms.map V.int))) := fun b o e => by
    rw [upd_ne (ne_of_none e hp)]
    exact e
  refine ⟨p, rfl, ⟨_, SqL.of upd_same⟩, for_list (xs := ms.map V.int) (fun _ σ H' => H' = upd H p (.lst (ms.map V.int)) ∧ ∃ (s : Int) (o : Option V), 0 ≤ s ∧ s < 2147483549 ∧ σ = [some (.ref a), some (.int i), some (.int c), some (.int s), o]) ⟨rfl, _, none, b0, b1, rfl⟩ (fun _ _ _ _ h => by rw [h.1]; exact SqL.of upd_same) (fun j x σ H' hx h => ?_) fun σ H' h => ?_⟩
  · obtain ⟨rfl, s, o, s0', s1', rfl⟩ := h
    obtain ⟨y, _, rfl⟩ := List.mem_map.mp (List.mem_of_getElem? hx)
    refine ⟨_, rfl, _, _, rfl, rfl, .inl ⟨by omega, by omega⟩, _, rfl, _, _, rfl, rfl, .inl ⟨_, rfl, _, _, rfl, rfl, (by show (2147483549 : Int) ≠ 0; decide), ?_⟩⟩
    exact ⟨rfl, _, some (.int y), Int.fmod_nonneg_of_pos _ (by decide), Int.fmod_lt_of_pos _ (by decide), rfl⟩
  · obtain ⟨rfl, s, o, s0', s1', rfl⟩ := h
    refine ⟨_, rfl, _, rfl, _, _, rfl, rfl, ⟨by decide, by decide, by decide⟩, _, _, rfl, rfl, _, rfl, ?_⟩
    refine (show ∀ P : V → Hp → Prop, (∀ z : Int, P (.int z) _) → (if _ = true then tOp (rI (fun x j => j ≠ 0) fun i j => V.int (i.fmod j)) _ _ _ _ P else tC (.int 0) _ _ P) from fun P hP => ite2 (fun _ => ?_) fun _ => hP 0) _ fun z => ?_
    · refine ⟨_, rfl, _, rfl, .inl ⟨_, rfl, ?_⟩⟩
      refine ⟨_, _, rfl, rfl, ⟨by decide, by decide, by decide⟩, _, _, rfl, rfl, ⟨by decide, by decide, by decide⟩, _, _, rfl, rfl, (by unfold CMulW; decide +kernel), ?_⟩
      exact ⟨_, _, rfl, rfl, ⟨by decide, by decide, by decide⟩, _, _, rfl, rfl, (by unfold CMulW; decide +kernel), _, _, rfl, rfl, (by show ((10 : Int) ^ Int.toNat 64 * 10 ^ Int.toNat 64 * 10 ^ Int.toNat 64) ≠ 0; decide +kernel), hP _⟩
    · refine ⟨_, rfl, by show 3 ≤ sizeLine; decide, fun q hq' => ?_⟩
      have sm2 : Same (upd H p (.lst (ms.map V.int))) (upd (upd H p (.lst (ms.map V.int))) q (.lst [.int z, .int s, .int 0])) := fun b o e => by
        rw [upd_ne (ne_of_none e hq')]
        exact e
      exact hq _ q (sm.trans sm2) (sm.free hq') ⟨z, s, upd_same, s0', s1'⟩
end
end K1
namespace K1
open PySem PySem.Spec L2 DL
open PySem.W (Frag keepIn findIn typeIn subIn kitOne kitAny excIn)
open PyProof.Rows hiding St wpAt wpAt_bind wpAt_stack wpAt_mono
/-- the attribute by which the i-th class is asked -/
def wd : Nat → Str := fun i => if i < 12 then "given" else if i = 12 then "row" else if i < 15 then "index" else if i = 15 then "reason" else ""
abbrev veB : List Value := [.type "ValueError", .type "Exception", .type "BaseException", .type "object"]
/-- the twenty classes at C, FrameError at CF -/
structure Cls (w : World) (K : Frag) (mg : Str → Option Value) (C : Nat → Addr) (CF : Addr) : Prop where
  g_InvalidText : mg "InvalidText" = some (.ref (C 0))
  g_InvalidProgram : mg "InvalidProgram" = some (.ref (C 1))
  g_InvalidTree : mg "InvalidTree" = some (.ref (C 2))
  g_InvalidNumber : mg "InvalidNumber" = some (.ref (C 3))
  g_InvalidName : mg "InvalidName" = some (.ref (C 4))
  g_InvalidFrame : mg "InvalidFrame" = some (.ref (C 5))
  g_InvalidGivens : mg "InvalidGivens" = some (.ref (C 6))
  g_InvalidSum : mg "InvalidSum" = some (.ref (C 7))
  g_InvalidCode : mg "InvalidCode" = some (.ref (C 8))
  g_InvalidTable : mg "InvalidTable" = some (.ref (C 9))
  g_InvalidLine : mg "InvalidLine" = some (.ref (C 10))
  g_NotADesk : mg "NotADesk" = some (.ref (C 11))
  g_NotWellRead : mg "NotWellRead" = some (.ref (C 12))
  g_InvalidRows : mg "InvalidRows" = some (.ref (C 13))
  g_InvalidDeed : mg "InvalidDeed" = some (.ref (C 14))
  g_Barred : mg "Barred" = some (.ref (C 15))
  g_NothingToUndo : mg "NothingToUndo" = some (.ref (C 16))
  g_NotFree : mg "NotFree" = some (.ref (C 17))
  g_NoForm : mg "NoForm" = some (.ref (C 18))
  g_TooGreat : mg "TooGreat" = some (.ref (C 19))
  g_FrameError : mg "FrameError" = some (.ref CF)
  no : mg "super" = none
  kC : ∀ i, i < 20 → keepIn K (.ref (C i)) = true
  kF : keepIn K (.ref CF) = true
  ei : ∀ i, i < 20 → EiC K (C i)
  eiF : EiC K CF
  kit : ∀ i j, i < 20 → j < 20 → kitOne K (.ref (C i)) (.ref (C j)) = some (decide (i = j))
  kitF : ∀ j, j < 20 → kitOne K (.ref CF) (.ref (C j)) = some false
  sub : ∀ i, i < 20 → kitOne K (.ref (C i)) (.ref CF) = some true
  subF : kitOne K (.ref CF) (.ref CF) = some true
  ve : ∀ i, i < 20 → kitOne K (.ref (C i)) (.type "ValueError") = some true
  veF : kitOne K (.ref CF) (.type "ValueError") = some true
  ot : ∀ i, i < 20 → kitAny K (.ref (C i)) [.type "LookupError", .type "ArithmeticError", .type "TypeError", .type "AttributeError", .type "RuntimeError"] = some false
  otF : kitAny K (.ref CF) [.type "LookupError", .type "ArithmeticError", .type "TypeError", .type "AttributeError", .type "RuntimeError"] = some false
  exm : ∀ i, i < 20 → PySem.W.exmOne K (.ref (C i)) (.ref CF) = some true
  ni : ∀ i, i < 20 → noInst K (C i) = true
  na : ∀ i, i < 16 → findIn K (.ref (C i)) (wd i) = some none
  nw : findIn K (.ref (C 12)) "word" = some none
  m1 : ∀ i, i < 16 → i ≠ 12 → ∀ u, MkC prg w K mg (C i) [u] [] (mA1 (wd i) u)
  m1k : ∀ i, i < 16 → i ≠ 12 → ∀ u, MkC prg w K mg (C i) [] [(wd i, u)] (mA1 (wd i) u)
  m2 : ∀ v u, MkC prg w K mg (C 12) [v, u] [] (mA2 v u)
  m2k : ∀ v u, MkC prg w K mg (C 12) [] [("row", v), ("word", u)] (mA2 v u)
  x0 : ∀ i, 16 ≤ i → i < 20 → excIn K (C i) veB "ValueError.__new__" = true
  xF : excIn K CF veB "ValueError.__new__" = true
section
variable {w : World} {K : Frag} {mg : Str → Option Value} {C : Nat → Addr} {CF : Addr}
theorem Cls.s1 (T : Cls w K mg C CF) (i : Nat) (h : i < 16) (h2 : i ≠ 12) : SuK prg w K mg (C i) [] (fs1 (wd i)) := suK1 (T.kC i (by omega)) T.no (T.m1 i h h2)
theorem Cls.s1k (T : Cls w K mg C CF) (i : Nat) (h : i < 16) (h2 : i ≠ 12) : SuK prg w K mg (C i) [wd i] (fs1 (wd i)) := suK1k (T.kC i (by omega)) T.no (T.m1k i h h2)
theorem Cls.s2 (T : Cls w K mg C CF) : SuK prg w K mg (C 12) [] fs2 := suK2 (T.kC 12 (by omega)) T.no T.m2
theorem Cls.s2k (T : Cls w K mg C CF) : SuK prg w K mg (C 12) ["row", "word"] fs2 := suK2k (T.kC 12 (by omega)) T.no T.m2k
theorem fs1_len {n : Str} {vs : List V} {fs : List (Str × V)} (h : fs1 n vs = some fs) : vs.length = 1 := by
  match vs, h with
  | [_], _ => rfl
theorem fs2_len {vs : List V} {fs : List (Str × V)} (h : fs2 vs = some fs) : vs.length = 2 := by
  match vs, h with
  | [_, _], _ => rfl
end
/-- at e: an exception of the i-th class made of v -/
def Fo (C : Nat → Addr) (H : Hp) (i : Nat) (v : V) (e : Addr) : Prop := ∃ fs, ExI H (C i) e fs ∧ (if i = 12 then ∃ p, fs = [(("word" : Str), V.ref p), (("row" : Str), v)] ∧ H p = some (.lst [v]) ∧ p ≠ sysModules else if i < 16 then fs = [(wd i, v)] else fs = [])
def Ent (C : Nat → Addr) (H : Hp) (i : Nat) (v : V) (b : Addr) : Prop := ∃ e1 e2, H b = some (.lst [.str (wd i), .ref e1, .ref e2]) ∧ Fo C H i v e1 ∧ Fo C H i v e2
theorem Fo.same {C : Nat → Addr} {H H' : Hp} {i : Nat} {v : V} {e : Addr} (h : Fo C H i v e) (s : Same H H') : Fo C H' i v e := by
  obtain ⟨fs, x, f⟩ := h
  refine ⟨fs, x.same s, ?_⟩
  split
  · rename_i hi
    rw [if_pos hi] at f
    obtain ⟨p, f1, f2, f3⟩ := f
    exact ⟨p, f1, s _ _ f2, f3⟩
  · rename_i hi
    rw [if_neg hi] at f
    exact f
theorem Ent.same {C : Nat → Addr} {H H' : Hp} {i : Nat} {v : V} {b : Addr} (h : Ent C H i v b) (s : Same H H') : Ent C H' i v b := by
  obtain ⟨e1, e2, h1, h2, h3⟩ := h
  exact ⟨e1, e2, s _ _ h1, h2.same s, h3.same s⟩
/-- so many entries, from the k-th class on -/
structure Ents (C : Nat → Addr) (H0 H : Hp) (k : Nat) (v : V) (bs : List Addr) : Prop where
  sm : Same H0 H
  at_ : ∀ i b, bs[i]? = some b → Ent C H (k + i) v b
theorem Ents.nil {C : Nat → Addr} {H : Hp} {k : Nat} {v : V} : Ents C H H k v [] := ⟨Same.refl H, fun i b h => by simp at h⟩
theorem same_new {H : Hp} {p : Addr} {o : HO} (h : H p = none) : Same H (upd H p o) := fun b u e => by
  rw [upd_ne (ne_of_none e h)]
  exact e
theorem Ents.step {C : Nat → Addr} {H0 H H1 H2 : Hp} {k j : Nat} {v : V} {bs : List Addr} {e1 e2 b : Addr} (A : Ents C H0 H k v bs) (hj : k + bs.length = j) (s1 : Same H H1) (x1 : Fo C H1 j v e1) (s2 : Same H1 H2) (x2 : Fo C H2 j v e2) (hb : H2 b = none) :
    Ents C H0 (upd H2 b (.lst [.str (wd j), .ref e1, .ref e2])) k v (bs ++ [b]) := by
  have s3 : Same H2 (upd H2 b (.lst [.str (wd j), .ref e1, .ref e2])) := same_new hb
  refine ⟨((A.sm.trans s1).trans s2).trans s3, fun i c h => ?_⟩
  by_cases hi : i < bs.length
  · rw [List.getElem?_append_left hi] at h
    exact (A.at_ i c h).same ((s1.trans s2).trans s3)
  · rw [List.getElem?_append_right (by omega)] at h
    have i0 : i - bs.length = 0 := by
      cases q : i - bs.length with
      | zero => rfl
      | succ m =>
        rw [q] at h
        simp at h
    rw [i0] at h
    cases h
    have ij : k + i = j := by omega
    rw [ij]
    exact ⟨e1, e2, upd_same, (x1.same s2).same s3, x2.same s3⟩
theorem Ents.out {C : Nat → Addr} {H0 H : Hp} {k : Nat} {v : V} {bs : List Addr} {l : Addr} {o : HO} (A : Ents C H0 H k v bs) (hl : H l = none) : Ents C H0 (upd H l o) k v bs := ⟨A.sm.trans (same_new hl), fun i b h => (A.at_ i b h).same (same_new hl)⟩
def spGiv (C : Nat → Addr) (k n : Nat) : Sp := fun vs H Q _ => ∃ v, vs = [v] ∧ ∀ H' l bs, bs.length = n → Ents C H H' k v bs → H l = none → H' l = some (.lst (bs.map V.ref)) → Q (.ref l) H'
section
variable {w : World} {K : Frag} {mg : Str → Option Value} {base : Heap} {f : Addr} {fd : FuncData} {C : Nat → Addr} {CF : Addr}
theorem ok_giv (F : Fun K "_law_given_ones" "_law_given_ones" sGiv f fd) (T : Cls w K mg C CF) : FnG prg w K mg base 2 f fd ["thing"] (spGiv C 0 12) := by
  have S := fsGiv
  refine fnG_mk F S (fun vs H Q E h => by obtain ⟨v, rfl, _⟩ := h; rfl) fun cdv A outer s H vs Q E hr gd hsp => ?_
  obtain ⟨v, rfl, hq⟩ := hsp
  have hd : (A.deeper (envOfC "_law_given_ones" (defScope sGiv) s.heap.objs.size f cdv)).depth + 1 < recursionLimit := by have := hr.dp; omega
  refine ⟨_, (pss_one (ps_ret (pe_lst (pa_cons (pe_lst (pa_cons pe_str (pa_cons (pe_su (T.s1 0 (by decide) (by decide)) hd rfl T.g_InvalidText (pa_cons (pv 0) pa_nil)) (pa_cons (pe_suK (T.s1k 0 (by decide) (by decide)) hd rfl T.g_InvalidText (pk_cons (pv 0) pk_nil) (fun _ _ h => fs1_len h)) pa_nil)))) (pa_cons (pe_lst (pa_cons pe_str (pa_cons (pe_su (T.s1 1 (by decide) (by decide)) hd rfl T.g_InvalidProgram (pa_cons (pv 0) pa_nil)) (pa_cons (pe_suK (T.s1k 1 (by decide) (by decide)) hd rfl T.g_InvalidProgram (pk_cons (pv 0) pk_nil) (fun _ _ h => fs1_len h)) pa_nil)))) (pa_cons (pe_lst (pa_cons pe_str (pa_cons (pe_su (T.s1 2 (by decide) (by decide)) hd rfl T.g_InvalidTree (pa_cons (pv 0) pa_nil)) (pa_cons (pe_suK (T.s1k 2 (by decide) (by decide)) hd rfl T.g_InvalidTree (pk_cons (pv 0) pk_nil) (fun _ _ h => fs1_len h)) pa_nil)))) (pa_cons (pe_lst (pa_cons pe_str (pa_cons (pe_su (T.s1 3 (by decide) (by decide)) hd rfl T.g_InvalidNumber (pa_cons (pv 0) pa_nil)) (pa_cons (pe_suK (T.s1k 3 (by decide) (by decide)) hd rfl T.g_InvalidNumber (pk_cons (pv 0) pk_nil) (fun _ _ h => fs1_len h)) pa_nil)))) (pa_cons (pe_lst (pa_cons pe_str (pa_cons (pe_su (T.s1 4 (by decide) (by decide)) hd rfl T.g_InvalidName (pa_cons (pv 0) pa_nil)) (pa_cons (pe_suK (T.s1k 4 (by decide) (by decide)) hd rfl T.g_InvalidName (pk_cons (pv 0) pk_nil) (fun _ _ h => fs1_len h)) pa_nil)))) (pa_cons (pe_lst (pa_cons pe_str (pa_cons (pe_su (T.s1 5 (by decide) (by decide)) hd rfl T.g_InvalidFrame (pa_cons (pv 0) pa_nil)) (pa_cons (pe_suK (T.s1k 5 (by decide) (by decide)) hd rfl T.g_InvalidFrame (pk_cons (pv 0) pk_nil) (fun _ _ h => fs1_len h)) pa_nil)))) (pa_cons (pe_lst (pa_cons pe_str (pa_cons (pe_su (T.s1 6 (by decide) (by decide)) hd rfl T.g_InvalidGivens (pa_cons (pv 0) pa_nil)) (pa_cons (pe_suK (T.s1k 6 (by decide) (by decide)) hd rfl T.g_InvalidGivens (pk_cons (pv 0) pk_nil) (fun _ _ h => fs1_len h)) pa_nil)))) (pa_cons (pe_lst (pa_cons pe_str (pa_cons (pe_su (T.s1 7 (by decide) (by decide)) hd rfl T.g_InvalidSum (pa_cons (pv 0) pa_nil)) (pa_cons (pe_suK (T.s1k 7 (by decide) (by decide)) hd rfl T.g_InvalidSum (pk_cons (pv 0) pk_nil) (fun _ _ h => fs1_len h)) pa_nil)))) (pa_cons (pe_lst (pa_cons pe_str (pa_cons (pe_su (T.s1 8 (by decide) (by decide)) hd rfl T.g_InvalidCode (pa_cons (pv 0) pa_nil)) (pa_cons (pe_suK (T.s1k 8 (by decide) (by decide)) hd rfl T.g_InvalidCode (pk_cons (pv 0) pk_nil) (fun _ _ h => fs1_len h)) pa_nil)))) (pa_cons (pe_lst (pa_cons pe_str (pa_cons (pe_su (T.s1 9 (by decide) (by decide)) hd rfl T.g_InvalidTable (pa_cons (pv 0) pa_nil)) (pa_cons (pe_suK (T.s1k 9 (by decide) (by decide)) hd rfl T.g_InvalidTable (pk_cons (pv 0) pk_nil) (fun _ _ h => fs1_len h)) pa_nil)))) (pa_cons (pe_lst (pa_cons pe_str (pa_cons (pe_su (T.s1 10 (by decide) (by decide)) hd rfl T.g_InvalidLine (pa_cons (pv 0) pa_nil)) (pa_cons (pe_suK (T.s1k 10 (by decide) (by decide)) hd rfl T.g_InvalidLine (pk_cons (pv 0) pk_nil) (fun _ _ h => fs1_len h)) pa_nil)))) (pa_cons (pe_lst (pa_cons pe_str (pa_cons (pe_su (T.s1 11 (by decide) (by decide)) hd rfl T.g_NotADesk (pa_cons (pv 0) pa_nil)) (pa_cons (pe_suK (T.s1k 11 (by decide) (by decide)) hd rfl T.g_NotADesk (pk_cons (pv 0) pk_nil) (fun _ _ h => fs1_len h)) pa_nil)))) pa_nil))))))))))))))), ?_⟩
  have a0 : Ents C H H 0 v [] := Ents.nil
  refine ⟨_, rfl, [("given", v)], rfl, fun e H1 s1 n1 x1 => ⟨_, rfl, [("given", v)], rfl, fun e' H2 s2 n2 x2 => ⟨(by show 3 ≤ sizeLine; decide), fun b hb => ?_⟩⟩⟩
  have a1 := a0.step (j := 0) rfl s1 ⟨_, x1, rfl⟩ s2 ⟨_, x2, rfl⟩ hb
  clear s1 x1 s2 x2 hb n1 n2
  refine ⟨_, rfl, [("given", v)], rfl, fun e H1 s1 n1 x1 => ⟨_, rfl, [("given", v)], rfl, fun e' H2 s2 n2 x2 => ⟨(by show 3 ≤ sizeLine; decide), fun b hb => ?_⟩⟩⟩
  have a2 := a1.step (j := 1) rfl s1 ⟨_, x1, rfl⟩ s2 ⟨_, x2, rfl⟩ hb
  clear s1 x1 s2 x2 hb n1 n2
  refine ⟨_, rfl, [("given", v)], rfl, fun e H1 s1 n1 x1 => ⟨_, rfl, [("given", v)], rfl, fun e' H2 s2 n2 x2 => ⟨(by show 3 ≤ sizeLine; decide), fun b hb => ?_⟩⟩⟩
  have a3 := a2.step (j := 2) rfl s1 ⟨_, x1, rfl⟩ s2 ⟨_, x2, rfl⟩ hb
  clear s1 x1 s2 x2 hb n1 n2
  refine ⟨_, rfl, [("given", v)], rfl, fun e H1 s1 n1 x1 => ⟨_, rfl, [("given", v)], rfl, fun e' H2 s2 n2 x2 => ⟨(by show 3 ≤ sizeLine; decide), fun b hb => ?_⟩⟩⟩
  have a4 := a3.step (j := 3) rfl s1 ⟨_, x1, rfl⟩ s2 ⟨_, x2, rfl⟩ hb
  clear s1 x1 s2 x2 hb n1 n2
  refine ⟨_, rfl, [("given", v)], rfl, fun e H1 s1 n1 x1 => ⟨_, rfl, [("given", v)], rfl, fun e' H2 s2 n2 x2 => ⟨(by show 3 ≤ sizeLine; decide), fun b hb => ?_⟩⟩⟩
  have a5 := a4.step (j := 4) rfl s1 ⟨_, x1, rfl⟩ s2 ⟨_, x2, rfl⟩ hb
  clear s1 x1 s2 x2 hb n1 n2
  refine ⟨_, rfl, [("given", v)], rfl, fun e H1 s1 n1 x1 => ⟨_, rfl, [("given", v)], rfl, fun e' H2 s2 n2 x2 => ⟨(by show 3 ≤ sizeLine; decide), fun b hb => ?_⟩⟩⟩
  have a6 := a5.step (j := 5) rfl s1 ⟨_, x1, rfl⟩ s2 ⟨_, x2, rfl⟩ hb
  clear s1 x1 s2 x2 hb n1 n2
  refine ⟨_, rfl, [("given", v)], rfl, fun e H1 s1 n1 x1 => ⟨_, rfl, [("given", v)], rfl, fun e' H2 s2 n2 x2 => ⟨(by show 3 ≤ sizeLine; decide), fun b hb => ?_⟩⟩⟩
  have a7 := a6.step (j := 6) rfl s1 ⟨_, x1, rfl⟩ s2 ⟨_, x2, rfl⟩ hb
  clear s1 x1 s2 x2 hb n1 n2
  refine ⟨_, rfl, [("given", v)], rfl, fun e H1 s1 n1 x1 => ⟨_, rfl, [("given", v)], rfl, fun e' H2 s2 n2 x2 => ⟨(by show 3 ≤ sizeLine; decide), fun b hb => ?_⟩⟩⟩
  have a8 := a7.step (j := 7) rfl s1 ⟨_, x1, rfl⟩ s2 ⟨_, x2, rfl⟩ hb
  clear s1 x1 s2 x2 hb n1 n2
  refine ⟨_, rfl, [("given", v)], rfl, fun e H1 s1 n1 x1 => ⟨_, rfl, [("given", v)], rfl, fun e' H2 s2 n2 x2 => ⟨(by show 3 ≤ sizeLine; decide), fun b hb => ?_⟩⟩⟩
  have a9 := a8.step (j := 8) rfl s1 ⟨_, x1, rfl⟩ s2 ⟨_, x2, rfl⟩ hb
  clear s1 x1 s2 x2 hb n1 n2
  refine ⟨_, rfl, [("given", v)], rfl, fun e H1 s1 n1 x1 => ⟨_, rfl, [("given", v)], rfl, fun e' H2 s2 n2 x2 => ⟨(by show 3 ≤ sizeLine; decide), fun b hb => ?_⟩⟩⟩
  have a10 := a9.step (j := 9) rfl s1 ⟨_, x1, rfl⟩ s2 ⟨_, x2, rfl⟩ hb
  clear s1 x1 s2 x2 hb n1 n2
  refine ⟨_, rfl, [("given", v)], rfl, fun e H1 s1 n1 x1 => ⟨_, rfl, [("given", v)], rfl, fun e' H2 s2 n2 x2 => ⟨(by show 3 ≤ sizeLine; decide), fun b hb => ?_⟩⟩⟩
  have a11 := a10.step (j := 10) rfl s1 ⟨_, x1, rfl⟩ s2 ⟨_, x2, rfl⟩ hb
  clear s1 x1 s2 x2 hb n1 n2
  refine ⟨_, rfl, [("given", v)], rfl, fun e H1 s1 n1 x1 => ⟨_, rfl, [("given", v)], rfl, fun e' H2 s2 n2 x2 => ⟨(by show 3 ≤ sizeLine; decide), fun b hb => ?_⟩⟩⟩
  have a12 := a11.step (j := 11) rfl s1 ⟨_, x1, rfl⟩ s2 ⟨_, x2, rfl⟩ hb
  clear s1 x1 s2 x2 hb n1 n2
  exact ⟨(by show 12 ≤ sizeLine; decide), fun l hl => hq _ l _ rfl (a12.out hl) (a12.sm.free hl) upd_same⟩
theorem ok_idx (F : Fun K "_law_index_ones" "_law_index_ones" sIdx f fd) (T : Cls w K mg C CF) : FnG prg w K mg base 2 f fd ["thing"] (spGiv C 12 8) := by
  have S := fsIdx
  refine fnG_mk F S (fun vs H Q E h => by obtain ⟨v, rfl, _⟩ := h; rfl) fun cdv A outer s H vs Q E hr gd hsp => ?_
  obtain ⟨v, rfl, hq⟩ := hsp
  have hd : (A.deeper (envOfC "_law_index_ones" (defScope sIdx) s.heap.objs.size f cdv)).depth + 1 < recursionLimit := by have := hr.dp; omega
  refine ⟨_, (pss_one (ps_ret (pe_lst (pa_cons (pe_lst (pa_cons pe_str (pa_cons (pe_su T.s2 hd rfl T.g_NotWellRead (pa_cons (pv 0) (pa_cons (pe_lstB (pa_cons (pv 0) pa_nil)) pa_nil))) (pa_cons (pe_suK T.s2k hd rfl T.g_NotWellRead (pk_cons (pv 0) (pk_cons (pe_lstB (pa_cons (pv 0) pa_nil)) pk_nil)) (fun _ _ h => fs2_len h)) pa_nil)))) (pa_cons (pe_lst (pa_cons pe_str (pa_cons (pe_su (T.s1 13 (by decide) (by decide)) hd rfl T.g_InvalidRows (pa_cons (pv 0) pa_nil)) (pa_cons (pe_suK (T.s1k 13 (by decide) (by decide)) hd rfl T.g_InvalidRows (pk_cons (pv 0) pk_nil) (fun _ _ h => fs1_len h)) pa_nil)))) (pa_cons (pe_lst (pa_cons pe_str (pa_cons (pe_su (T.s1 14 (by decide) (by decide)) hd rfl T.g_InvalidDeed (pa_cons (pv 0) pa_nil)) (pa_cons (pe_suK (T.s1k 14 (by decide) (by decide)) hd rfl T.g_InvalidDeed (pk_cons (pv 0) pk_nil) (fun _ _ h => fs1_len h)) pa_nil)))) (pa_cons (pe_lst (pa_cons pe_str (pa_cons (pe_su (T.s1 15 (by decide) (by decide)) hd rfl T.g_Barred (pa_cons (pv 0) pa_nil)) (pa_cons (pe_suK (T.s1k 15 (by decide) (by decide)) hd rfl T.g_Barred (pk_cons (pv 0) pk_nil) (fun _ _ h => fs1_len h)) pa_nil)))) (pa_cons (pe_lst (pa_cons pe_str (pa_cons (pe_ex0 (T.x0 16 (by decide) (by decide)) (T.kC 16 (by decide)) rfl T.g_NothingToUndo) (pa_cons (pe_ex0 (T.x0 16 (by decide) (by decide)) (T.kC 16 (by decide)) rfl T.g_NothingToUndo) pa_nil)))) (pa_cons (pe_lst (pa_cons pe_str (pa_cons (pe_ex0 (T.x0 17 (by decide) (by decide)) (T.kC 17 (by decide)) rfl T.g_NotFree) (pa_cons (pe_ex0 (T.x0 17 (by decide) (by decide)) (T.kC 17 (by decide)) rfl T.g_NotFree) pa_nil)))) (pa_cons (pe_lst (pa_cons pe_str (pa_cons (pe_ex0 (T.x0 18 (by decide) (by decide)) (T.kC 18 (by decide)) rfl T.g_NoForm) (pa_cons (pe_ex0 (T.x0 18 (by decide) (by decide)) (T.kC 18 (by decide)) rfl T.g_NoForm) pa_nil)))) (pa_cons (pe_lst (pa_cons pe_str (pa_cons (pe_ex0 (T.x0 19 (by decide) (by decide)) (T.kC 19 (by decide)) rfl T.g_TooGreat) (pa_cons (pe_ex0 (T.x0 19 (by decide) (by decide)) (T.kC 19 (by decide)) rfl T.g_TooGreat) pa_nil)))) pa_nil))))))))))), ?_⟩
  have a0 : Ents C H H 12 v [] := Ents.nil
  refine ⟨_, rfl, _, rfl, (by show 1 ≤ sizeLine; decide), fun p hp hpn => ⟨_, rfl, fun e H1 s1 n1 x1 => ⟨_, rfl, _, rfl, (by show 1 ≤ sizeLine; decide), fun p' hp' hpn' => ⟨_, rfl, fun e' H2 s2 n2 x2 => ⟨(by show 3 ≤ sizeLine; decide), fun b hb => ?_⟩⟩⟩⟩⟩
  have a1 := a0.step (j := 12) rfl ((same_new hp).trans s1) ⟨_, x1, p, rfl, s1 _ _ upd_same, hpn⟩ ((same_new hp').trans s2) ⟨_, x2, p', rfl, s2 _ _ upd_same, hpn'⟩ hb
  clear s1 x1 s2 x2 hb n1 n2 hp hp'
  refine ⟨_, rfl, [("index", v)], rfl, fun e H1 s1 n1 x1 => ⟨_, rfl, [("index", v)], rfl, fun e' H2 s2 n2 x2 => ⟨(by show 3 ≤ sizeLine; decide), fun b hb => ?_⟩⟩⟩
  have a2 := a1.step (j := 13) rfl s1 ⟨_, x1, rfl⟩ s2 ⟨_, x2, rfl⟩ hb
  clear s1 x1 s2 x2 hb n1 n2
  refine ⟨_, rfl, [("index", v)], rfl, fun e H1 s1 n1 x1 => ⟨_, rfl, [("index", v)], rfl, fun e' H2 s2 n2 x2 => ⟨(by show 3 ≤ sizeLine; decide), fun b hb => ?_⟩⟩⟩
  have a3 := a2.step (j := 14) rfl s1 ⟨_, x1, rfl⟩ s2 ⟨_, x2, rfl⟩ hb
  clear s1 x1 s2 x2 hb n1 n2
  refine ⟨_, rfl, [("reason", v)], rfl, fun e H1 s1 n1 x1 => ⟨_, rfl, [("reason", v)], rfl, fun e' H2 s2 n2 x2 => ⟨(by show 3 ≤ sizeLine; decide), fun b hb => ?_⟩⟩⟩
  have a4 := a3.step (j := 15) rfl s1 ⟨_, x1, rfl⟩ s2 ⟨_, x2, rfl⟩ hb
  clear s1 x1 s2 x2 hb n1 n2
  refine fun e H1 s1 n1 x1 => fun e' H2 s2 n2 x2 => ⟨(by show 3 ≤ sizeLine; decide), fun b hb => ?_⟩
  have a5 := a4.step (j := 16) rfl s1 ⟨_, x1, rfl⟩ s2 ⟨_, x2, rfl⟩ hb
  clear s1 x1 s2 x2 hb n1 n2
  refine fun e H1 s1 n1 x1 => fun e' H2 s2 n2 x2 => ⟨(by show 3 ≤ sizeLine; decide), fun b hb => ?_⟩
  have a6 := a5.step (j := 17) rfl s1 ⟨_, x1, rfl⟩ s2 ⟨_, x2, rfl⟩ hb
  clear s1 x1 s2 x2 hb n1 n2
  refine fun e H1 s1 n1 x1 => fun e' H2 s2 n2 x2 => ⟨(by show 3 ≤ sizeLine; decide), fun b hb => ?_⟩
  have a7 := a6.step (j := 18) rfl s1 ⟨_, x1, rfl⟩ s2 ⟨_, x2, rfl⟩ hb
  clear s1 x1 s2 x2 hb n1 n2
  refine fun e H1 s1 n1 x1 => fun e' H2 s2 n2 x2 => ⟨(by show 3 ≤ sizeLine; decide), fun b hb => ?_⟩
  have a8 := a7.step (j := 19) rfl s1 ⟨_, x1, rfl⟩ s2 ⟨_, x2, rfl⟩ hb
  clear s1 x1 s2 x2 hb n1 n2
  exact ⟨(by show 8 ≤ sizeLine; decide), fun l hl => hq _ l _ rfl (a8.out hl) (a8.sm.free hl) upd_same⟩
end
end K1
namespace K1
open PySem PySem.Spec L2 DL
open PySem.W (Frag keepIn findIn typeIn subIn kitOne kitAny excIn)
open PyProof.Rows hiding St wpAt wpAt_bind wpAt_stack wpAt_mono
open L2H (RoomH roomH_of)
/-- the class by its number; 20: FrameError itself -/
def cl (C : Nat → Addr) (CF : Addr) (j : Nat) : Addr := if j < 20 then C j else CF
theorem cl_lt {C : Nat → Addr} {CF : Addr} {j : Nat} (h : j < 20) : cl C CF j = C j := by unfold cl; rw [if_pos h]
theorem cl_eq {C : Nat → Addr} {CF : Addr} {j : Nat} (h : ¬ j < 20) : cl C CF j = CF := by unfold cl; rw [if_neg h]
/-- twenty answers, the j-th alone True -/
def twenty (j : Nat) : List V := (List.range 20).map fun i => V.bl (decide (j = i))
def spKinds (C : Nat → Addr) (CF : Addr) : Sp := fun vs H Q _ => ∃ (a : Addr) (j : Nat) (fs : List (Str × V)), vs = [.ref a] ∧ j ≤ 20 ∧ ExJ H (cl C CF j) a fs ∧ ∀ H' l, Same H H' → H l = none → H' l = some (.lst (twenty j)) → Q (.ref l) H'
def spPlain (C : Nat → Addr) (CF : Addr) : Sp := fun vs H Q _ => ∃ (a : Addr) (j : Nat) (fs : List (Str × V)), vs = [.ref a] ∧ j ≤ 20 ∧ ExJ H (cl C CF j) a fs ∧ ∀ H', Same H H' → Q (.bl true) H'
section
variable {w : World} {K : Frag} {mg : Str → Option Value} {base : Heap} {f : Addr} {fd : FuncData} {C : Nat → Addr} {CF : Addr}
theorem Cls.eiA (T : Cls w K mg C CF) {j : Nat} (h : j ≤ 20) : EiC K (cl C CF j) := by
  by_cases q : j < 20
  · rw [cl_lt q]; exact T.ei j q
  · rw [cl_eq q]; exact T.eiF
theorem Cls.kitA (T : Cls w K mg C CF) {j : Nat} (h : j ≤ 20) (i : Nat) (hi : i < 20) : kitOne K (.ref (cl C CF j)) (.ref (C i)) = some (decide (j = i)) := by
  by_cases q : j < 20
  · rw [cl_lt q]; exact T.kit j i q hi
  · rw [cl_eq q, T.kitF i hi, decide_eq_false (by omega)]
theorem ok_kinds (F : Fun K "_law_kinds" "_law_kinds" sKinds f fd) (N : Nms mg) (T : Cls w K mg C CF) : FnQ prg w K mg base 1 f fd ["e"] (spKinds C CF) := by
  have S := fsKinds
  refine fnQ_mk F S (fun vs H Q E h => by obtain ⟨a, j, fs, rfl, _⟩ := h; rfl) fun cdv A outer s H vs Q E hr hsp => ?_
  obtain ⟨a, j, fs, rfl, hj, xj, hq⟩ := hsp
  have ei := T.eiA hj
  have kit := fun i hi => T.kitA hj i hi
  generalize cl C CF j = c at ei kit xj
  refine ⟨_, (pss_cons (ps_set (i := 1) S.nd rfl (Or.inl rfl) (pe_lst (pa_cons (pe_callB call_isX (by rfl) N.n_isinstance (by decide +kernel) (pa_cons (pv 0) (pa_cons (pe_glob (v := .ref _) rfl T.g_InvalidText rfl) pa_nil))) (pa_cons (pe_callB call_isX (by rfl) N.n_isinstance (by decide +kernel) (pa_cons (pv 0) (pa_cons (pe_glob (v := .ref _) rfl T.g_InvalidProgram rfl) pa_nil))) (pa_cons (pe_callB call_isX (by rfl) N.n_isinstance (by decide +kernel) (pa_cons (pv 0) (pa_cons (pe_glob (v := .ref _) rfl T.g_InvalidTree rfl) pa_nil))) (pa_cons (pe_callB call_isX (by rfl) N.n_isinstance (by decide +kernel) (pa_cons (pv 0) (pa_cons (pe_glob (v := .ref _) rfl T.g_InvalidNumber rfl) pa_nil))) (pa_cons (pe_callB call_isX (by rfl) N.n_isinstance (by decide +kernel) (pa_cons (pv 0) (pa_cons (pe_glob (v := .ref _) rfl T.g_InvalidName rfl) pa_nil))) (pa_cons (pe_callB call_isX (by rfl) N.n_isinstance (by decide +kernel) (pa_cons (pv 0) (pa_cons (pe_glob (v := .ref _) rfl T.g_InvalidFrame rfl) pa_nil))) (pa_cons (pe_callB call_isX (by rfl) N.n_isinstance (by decide +kernel) (pa_cons (pv 0) (pa_cons (pe_glob (v := .ref _) rfl T.g_InvalidGivens rfl) pa_nil))) (pa_cons (pe_callB call_isX (by rfl) N.n_isinstance (by decide +kernel) (pa_cons (pv 0) (pa_cons (pe_glob (v := .ref _) rfl T.g_InvalidSum rfl) pa_nil))) (pa_cons (pe_callB call_isX (by rfl) N.n_isinstance (by decide +kernel) (pa_cons (pv 0) (pa_cons (pe_glob (v := .ref _) rfl T.g_InvalidCode rfl) pa_nil))) (pa_cons (pe_callB call_isX (by rfl) N.n_isinstance (by decide +kernel) (pa_cons (pv 0) (pa_cons (pe_glob (v := .ref _) rfl T.g_InvalidTable rfl) pa_nil))) (pa_cons (pe_callB call_isX (by rfl) N.n_isinstance (by decide +kernel) (pa_cons (pv 0) (pa_cons (pe_glob (v := .ref _) rfl T.g_InvalidLine rfl) pa_nil))) pa_nil)))))))))))))
    (pss_one (ps_ret (pe_op op_cat (pv 1) (pe_lst (pa_cons (pe_callB call_isX (by rfl) N.n_isinstance (by decide +kernel) (pa_cons (pv 0) (pa_cons (pe_glob (v := .ref _) rfl T.g_NotADesk rfl) pa_nil))) (pa_cons (pe_callB call_isX (by rfl) N.n_isinstance (by decide +kernel) (pa_cons (pv 0) (pa_cons (pe_glob (v := .ref _) rfl T.g_NotWellRead rfl) pa_nil))) (pa_cons (pe_callB call_isX (by rfl) N.n_isinstance (by decide +kernel) (pa_cons (pv 0) (pa_cons (pe_glob (v := .ref _) rfl T.g_InvalidRows rfl) pa_nil))) (pa_cons (pe_callB call_isX (by rfl) N.n_isinstance (by decide +kernel) (pa_cons (pv 0) (pa_cons (pe_glob (v := .ref _) rfl T.g_InvalidDeed rfl) pa_nil))) (pa_cons (pe_callB call_isX (by rfl) N.n_isinstance (by decide +kernel) (pa_cons (pv 0) (pa_cons (pe_glob (v := .ref _) rfl T.g_Barred rfl) pa_nil))) (pa_cons (pe_callB call_isX (by rfl) N.n_isinstance (by decide +kernel) (pa_cons (pv 0) (pa_cons (pe_glob (v := .ref _) rfl T.g_NothingToUndo rfl) pa_nil))) (pa_cons (pe_callB call_isX (by rfl) N.n_isinstance (by decide +kernel) (pa_cons (pv 0) (pa_cons (pe_glob (v := .ref _) rfl T.g_NotFree rfl) pa_nil))) (pa_cons (pe_callB call_isX (by rfl) N.n_isinstance (by decide +kernel) (pa_cons (pv 0) (pa_cons (pe_glob (v := .ref _) rfl T.g_NoForm rfl) pa_nil))) (pa_cons (pe_callB call_isX (by rfl) N.n_isinstance (by decide +kernel) (pa_cons (pv 0) (pa_cons (pe_glob (v := .ref _) rfl T.g_TooGreat rfl) pa_nil))) pa_nil)))))))))))))), ?_⟩
  refine ⟨_, rfl, a, c, fs, .ref _, .ref _, _, rfl, xj, ei, .own _, kit 0 (by decide), _, rfl, a, c, fs, .ref _, .ref _, _, rfl, xj, ei, .own _, kit 1 (by decide), _, rfl, a, c, fs, .ref _, .ref _, _, rfl, xj, ei, .own _, kit 2 (by decide), _, rfl, a, c, fs, .ref _, .ref _, _, rfl, xj, ei, .own _, kit 3 (by decide), _, rfl, a, c, fs, .ref _, .ref _, _, rfl, xj, ei, .own _, kit 4 (by decide), _, rfl, a, c, fs, .ref _, .ref _, _, rfl, xj, ei, .own _, kit 5 (by decide), _, rfl, a, c, fs, .ref _, .ref _, _, rfl, xj, ei, .own _, kit 6 (by decide), _, rfl, a, c, fs, .ref _, .ref _, _, rfl, xj, ei, .own _, kit 7 (by decide), _, rfl, a, c, fs, .ref _, .ref _, _, rfl, xj, ei, .own _, kit 8 (by decide), _, rfl, a, c, fs, .ref _, .ref _, _, rfl, xj, ei, .own _, kit 9 (by decide), _, rfl, a, c, fs, .ref _, .ref _, _, rfl, xj, ei, .own _, kit 10 (by decide), (by show 11 ≤ sizeLine; decide), fun p hp => ?_⟩
  have xjs : ∀ o, ExJ (upd H p o) c a fs := fun o => xj.same (same_new hp)
  refine ⟨_, rfl, _, rfl, a, c, fs, .ref _, .ref _, _, rfl, xjs _, ei, .own _, kit 11 (by decide), _, rfl, a, c, fs, .ref _, .ref _, _, rfl, xjs _, ei, .own _, kit 12 (by decide), _, rfl, a, c, fs, .ref _, .ref _, _, rfl, xjs _, ei, .own _, kit 13 (by decide), _, rfl, a, c, fs, .ref _, .ref _, _, rfl, xjs _, ei, .own _, kit 14 (by decide), _, rfl, a, c, fs, .ref _, .ref _, _, rfl, xjs _, ei, .own _, kit 15 (by decide), _, rfl, a, c, fs, .ref _, .ref _, _, rfl, xjs _, ei, .own _, kit 16 (by decide), _, rfl, a, c, fs, .ref _, .ref _, _, rfl, xjs _, ei, .own _, kit 17 (by decide), _, rfl, a, c, fs, .ref _, .ref _, _, rfl, xjs _, ei, .own _, kit 18 (by decide), _, rfl, a, c, fs, .ref _, .ref _, _, rfl, xjs _, ei, .own _, kit 19 (by decide), (by show 9 ≤ sizeLine; decide), fun q hq' => ?_⟩
  have ne : p ≠ q := ne_of_none upd_same hq'
  refine ⟨p, q, _, _, rfl, rfl, by rw [upd_ne ne]; exact upd_same, upd_same, (by show 20 ≤ sizeLine; decide), fun l hl => ?_⟩
  exact hq _ l (((same_new hp).trans (same_new hq')).trans (same_new hl)) (((same_new hp).trans (same_new hq')).free hl) upd_same
theorem ok_plain (F : Fun K "_law_is_plain" "_law_is_plain" sPlain f fd) (N : Nms mg) (T : Cls w K mg C CF) : FnQ prg w K mg base 1 f fd ["e"] (spPlain C CF) := by
  have S := fsPlain
  refine fnQ_mk F S (fun vs H Q E h => by obtain ⟨a, j, fs, rfl, _⟩ := h; rfl) fun cdv A outer s H vs Q E hr hsp => ?_
  obtain ⟨a, j, fs, rfl, hj, xj, hq⟩ := hsp
  have ei := T.eiA hj
  have k1 : kitOne K (.ref (cl C CF j)) (.ref CF) = some true := by
    by_cases q : j < 20
    · rw [cl_lt q]; exact T.sub j q
    · rw [cl_eq q]; exact T.subF
  have k2 : kitOne K (.ref (cl C CF j)) (.type "ValueError") = some true := by
    by_cases q : j < 20
    · rw [cl_lt q]; exact T.ve j q
    · rw [cl_eq q]; exact T.veF
  have k3 : kitAny K (.ref (cl C CF j)) [.type "LookupError", .type "ArithmeticError", .type "TypeError", .type "AttributeError", .type "RuntimeError"] = some false := by
    by_cases q : j < 20
    · rw [cl_lt q]; exact T.ot j q
    · rw [cl_eq q]; exact T.otF
  generalize cl C CF j = c at ei k1 k2 k3 xj
  refine ⟨_, (pss_cons (ps_if (PW.pt (pw_or (pt_not (pt_val (pe_callB call_isX (by rfl) N.n_isinstance (by decide +kernel) (pa_cons (pv 0) (pa_cons (pe_glob (v := .ref _) rfl T.g_FrameError rfl) pa_nil))))) (pw_or1 (pt_not (pt_val (pe_callB call_isX (by rfl) N.n_isinstance (by decide +kernel) (pa_cons (pv 0) (pa_cons (pe_bltn (v := .ty "ValueError") (by rfl) N.n_ValueError (by decide +kernel) rfl) pa_nil)))))))) (pss_one (ps_ret pe_bl)) pss_nil)
    (pss_one (ps_ret (pe_not (pe_callB call_isXT (by rfl) N.n_isinstance (by decide +kernel) (pa_cons (pv 0) (pa_cons (pe_tup (pa_cons (pe_bltn (v := .ty "LookupError") (by rfl) N.n_LookupError (by decide +kernel) rfl) (pa_cons (pe_bltn (v := .ty "ArithmeticError") (by rfl) N.n_ArithmeticError (by decide +kernel) rfl) (pa_cons (pe_bltn (v := .ty "TypeError") (by rfl) N.n_TypeError (by decide +kernel) rfl) (pa_cons (pe_bltn (v := .ty "AttributeError") (by rfl) N.n_AttributeError (by decide +kernel) rfl) (pa_cons (pe_bltn (v := .ty "RuntimeError") (by rfl) N.n_RuntimeError (by decide +kernel) rfl) pa_nil)))))) pa_nil))))))), ?_⟩
  refine ⟨_, rfl, a, c, fs, .ref _, .ref _, true, rfl, xj, ei, .own _, k1, _, rfl, iteF ?_⟩
  refine ⟨_, rfl, a, c, fs, .ty _, .type _, true, rfl, xj, ei, .ty _, k2, _, rfl, iteF ?_⟩
  refine ⟨_, rfl, (by show 5 ≤ sizeLine; decide), fun p hp => ⟨a, c, p, fs, _, _, false, rfl, xj.same (same_new hp), ei, upd_same, .cons (.ty _) (.cons (.ty _) (.cons (.ty _) (.cons (.ty _) (.cons (.ty _) .nil)))), k3, false, rfl, ?_⟩⟩
  exact hq _ (same_new hp)
/-- data of which repr can be told, in a list too -/
structure Tells (d : PyData) : Prop where
  s : d.showable = true
  l : d.shown.length ≤ sizeLine
  d : d.depth ≤ 100
def spKept (C : Nat → Addr) : Sp := fun vs H Q _ => ∃ (e : Addr) (i : Nat) (v : V), vs = [.str (wd i), .ref e] ∧ i < 20 ∧ Fo C H i v e ∧ (i = 12 → ∃ d, Rz H v d ∧ Tells (.list [d])) ∧ ∀ H', Same H H' → Q (if i < 16 then v else .non) H'
theorem ok_kept (F : Fun K "_law_kept" "_law_kept" sKept f fd) (N : Nms mg) (T : Cls w K mg C CF) : FnG prg w K mg base 1 f fd ["word", "e"] (spKept C) := by
  have S := fsKept
  refine fnG_mk F S (fun vs H Q E h => by obtain ⟨e, i, v, rfl, _⟩ := h; rfl) fun cdv A outer s H vs Q E hr gd hsp => ?_
  obtain ⟨e, i, v, rfl, hi, ⟨fs, xi, hf⟩, hd, hq⟩ := hsp
  have hu : (A.deeper (envOfC "_law_kept" (defScope sKept) s.heap.objs.size f cdv)).units + 200 < cLine := by have := hr.un; omega
  have ei := T.ei i hi
  have xj := xi.j
  refine ⟨_, (pss_cons (ps_if (pt_cmpR op_eq (pv 0) pe_str (nomark _)) (pss_one (ps_ret (pe_xj (pv 1)))) pss_nil)
    (pss_cons (ps_if (pt_cmpR op_eq (pv 0) pe_str (nomark _)) (pss_one (ps_ret (pe_xj (pv 1)))) pss_nil)
    (pss_cons (ps_if (pt_cmpR op_eq (pv 0) pe_str (nomark _)) (pss_one (ps_ret (pe_ifExp (pt_cmpR op_eq (pe_callB (call_reprZ gd hu) (by rfl) N.n_repr (by decide +kernel) (pa_cons (pe_xj (pv 1)) pa_nil)) (pe_callB (call_reprZ gd hu) (by rfl) N.n_repr (by decide +kernel) (pa_cons (pe_lstB (pa_cons (pe_xj (pv 1)) pa_nil)) pa_nil)) (nomark _)) (pe_xj (pv 1)) pe_str))) pss_nil)
    (pss_one (ps_ret (pe_ifExp (pt_cmpR op_eq (pv 0) pe_str (nomark _)) (pe_xj (pv 1)) pe_non)))))), ?_⟩
  have yes : ∀ {x y : V} {P R : Prop}, x = y → P → (if decide (x = y) = true then P else R) := fun h p => ite2 (fun _ => p) fun q => absurd (decide_eq_true h) q
  have nope : ∀ {x y : V} {P R : Prop}, x ≠ y → R → (if decide (x = y) = true then P else R) := fun h p => ite2 (fun q => absurd (of_decide_eq_true q) h) fun _ => p
  by_cases c1 : i < 12
  · have e1 : wd i = "given" := by unfold wd; rw [if_pos c1]
    rw [if_neg (by omega), if_pos (by omega)] at hf
    have na := T.na i (by omega)
    rw [e1] at hf na ⊢
    subst hf
    refine ⟨_, rfl, rfl, _, rfl, yes rfl ?_⟩
    refine ⟨_, rfl, e, C i, _, v, rfl, xj, ei, na, rfl, ?_⟩
    have h := hq H (Same.refl H)
    rw [if_pos (by omega)] at h
    exact h
  by_cases c2 : i = 12
  · subst c2
    obtain ⟨d, rz, td⟩ := hd rfl
    rw [if_pos rfl] at hf
    obtain ⟨p, rfl, hp, hpn⟩ := hf
    have na := T.na 12 (by omega)
    have rp : Rz H (.ref p) (.list [d]) := .lst hp hpn (.cons rz .nil)
    refine ⟨_, rfl, rfl, _, rfl, nope (by decide) ⟨_, rfl, rfl, _, rfl, nope (by decide) ⟨_, rfl, rfl, _, rfl, yes rfl ?_⟩⟩⟩
    refine ⟨_, rfl, e, C 12, _, .ref p, rfl, xj, ei, T.nw, rfl, .ref p, .list [d], rfl, rp, td.s, td.l, td.d, ?_⟩
    refine ⟨_, rfl, e, C 12, _, v, rfl, xj, ei, na, rfl, (by show 1 ≤ sizeLine; decide), fun q hq' hqn => ?_⟩
    refine ⟨.ref q, .list [d], rfl, .lst upd_same hqn (.cons (rz.mono (same_new hq')) .nil), td.s, td.l, td.d, rfl, _, rfl, yes rfl ?_⟩
    refine ⟨_, rfl, e, C 12, _, v, rfl, xj.same (same_new hq'), ei, na, rfl, ?_⟩
    exact hq _ (same_new hq')
  by_cases c3 : i < 15
  · have e1 : wd i = "index" := by unfold wd; rw [if_neg c1, if_neg c2, if_pos c3]
    rw [if_neg c2, if_pos (by omega)] at hf
    have na := T.na i (by omega)
    rw [e1] at hf na ⊢
    subst hf
    refine ⟨_, rfl, rfl, _, rfl, nope (by decide) ⟨_, rfl, rfl, _, rfl, yes rfl ?_⟩⟩
    refine ⟨_, rfl, e, C i, _, v, rfl, xj, ei, na, rfl, ?_⟩
    have h := hq H (Same.refl H)
    rw [if_pos (by omega)] at h
    exact h
  by_cases c4 : i = 15
  · subst c4
    rw [if_neg c2, if_pos (by omega)] at hf
    have na := T.na 15 (by omega)
    subst hf
    refine ⟨_, rfl, rfl, _, rfl, nope (by decide) ⟨_, rfl, rfl, _, rfl, nope (by decide) ⟨_, rfl, rfl, _, rfl, nope (by decide) ⟨_, rfl, rfl, _, rfl, yes rfl ?_⟩⟩⟩⟩
    refine ⟨_, rfl, e, C 15, _, v, rfl, xj, ei, na, rfl, ?_⟩
    exact hq H (Same.refl H)
  · have e1 : wd i = "" := by unfold wd; rw [if_neg c1, if_neg c2, if_neg c3, if_neg c4]
    rw [e1]
    refine ⟨_, rfl, rfl, _, rfl, nope (by decide) ⟨_, rfl, rfl, _, rfl, nope (by decide) ⟨_, rfl, rfl, _, rfl, nope (by decide) ⟨_, rfl, rfl, _, rfl, nope (by decide) ?_⟩⟩⟩⟩
    have h := hq H (Same.refl H)
    rw [if_neg (by omega)] at h
    exact h
end
end K1
namespace K1
open PySem PySem.Spec L2 DL
open PySem.W (Frag keepIn findIn typeIn subIn kitOne kitAny excIn)
open PyProof.Rows hiding St wpAt wpAt_bind wpAt_stack wpAt_mono
open L2H (RoomH roomH_of)
def spCau : Sp := fun vs H Q _ => ∃ (n : Nat) (v : V), vs = [.int n, v] ∧ n < 5 ∧ ∀ H', Same H H' → Q (.bl true) H'
/-- what is caught, by its number -/
def kd : Nat → Nat := fun n => if n = 0 then 0 else if n = 1 then 12 else if n = 2 then 13 else if n = 3 then 15 else 16
theorem delH_get {H : Hp} {a b : Addr} {o : HO} (h : delH H a b = some o) : H b = some o ∧ b ≠ a := by
  by_cases e : b = a
  · rw [e, delH_same] at h
    cases h
  · rw [delH_ne e] at h
    exact ⟨h, e⟩
section
variable {w : World} {K : Frag} {mg : Str → Option Value} {base : Heap} {f : Addr} {fd : FuncData} {C : Nat → Addr} {CF : Addr}
theorem ok_cau (F : Fun K "_law_is_caught" "_law_is_caught" sCau f fd) (N : Nms mg) (T : Cls w K mg C CF) (cK : ClbQ prg w K mg 1 "_law_kinds" (spKinds C CF)) (cP : ClbQ prg w K mg 1 "_law_is_plain" (spPlain C CF)) : FnG prg w K mg base 3 f fd ["way", "thing"] spCau := by
  have S := fsCau
  refine fnG_mk F S (fun vs H Q E h => by obtain ⟨n, v, rfl, _⟩ := h; rfl) fun cdv A outer s H vs Q E hr gd hsp => ?_
  obtain ⟨n, v, rfl, hn, hq⟩ := hsp
  have hd : (A.deeper (envOfC "_law_is_caught" (defScope sCau) s.heap.objs.size f cdv)).depth + 1 < recursionLimit := by have := hr.dp; omega
  have hh : RoomH 1 (A.deeper (envOfC "_law_is_caught" (defScope sCau) s.heap.objs.size f cdv)) := (roomH_of hr).mono (by decide)
  refine ⟨_, pss_cons (ps_try_as (i := 2) rfl rfl S.nd rfl rfl ⟨rfl, by decide, .inl T.g_FrameError⟩ takes0
    (fun W pn xe tk _ => pss_cons (ps_if (pt_cmpR op_eq (pv 0) pe_int (nomark _)) (pss_one (ps_raise rfl tk (pmk_su (T.s1 0 (by decide) (by decide)) hd rfl T.g_InvalidText (T.ei 0 (by decide)).raises (pa_cons (pv 1) pa_nil)))) pss_nil)
      (pss_cons (ps_if (pt_cmpR op_eq (pv 0) pe_int (nomark _)) (pss_one (ps_raise rfl tk (pmk_suK T.s2k hd rfl T.g_NotWellRead (T.ei 12 (by decide)).raises (pk_cons (pv 1) (pk_cons pe_int pk_nil)) (fun _ _ h => fs2_len h)))) pss_nil)
      (pss_cons (ps_if (pt_cmpR op_eq (pv 0) pe_int (nomark _)) (pss_one (ps_raise rfl tk (pmk_su (T.s1 13 (by decide) (by decide)) hd rfl T.g_InvalidRows (T.ei 13 (by decide)).raises (pa_cons (pv 1) pa_nil)))) pss_nil)
      (pss_cons (ps_if (pt_cmpR op_eq (pv 0) pe_int (nomark _)) (pss_one (ps_raise rfl tk (pmk_suK (T.s1k 15 (by decide) (by decide)) hd rfl T.g_Barred (T.ei 15 (by decide)).raises (pk_cons (pv 1) pk_nil) (fun _ _ h => fs1_len h)))) pss_nil)
      (pss_one (ps_raise rfl tk (pmk_ex0 (T.x0 16 (by decide) (by decide)) (T.kC 16 (by decide)) rfl T.g_NothingToUndo (T.ei 16 (by decide)).raises)))))))
    (fun a oe cls d pn hz hf => pss_one (ps_ret (pe_and (pe_ix (r := rIxL K) ix_list (pe_hot (K := K) rfl cK ⟨hh.dp, hh.un⟩ List.mem_cons_self hz hf rfl (pa_cons (pv 2) pa_nil)) (pe_ix (r := rIxT K) ix_tup (pe_tup (pa_cons pe_int (pa_cons pe_int (pa_cons pe_int (pa_cons pe_int (pa_cons pe_int pa_nil)))))) (pv 0) (fun _ _ => rfl)) (fun _ _ => rfl))
      (pe_one (pe_hot (K := K) rfl cP ⟨hh.dp, hh.un⟩ List.mem_cons_self hz hf rfl (pa_cons (pv 2) pa_nil)))))))
    (pss_one (ps_ret pe_bl)), ?_⟩
  have yes : ∀ {x y : V} {P R : Prop}, x = y → P → (if decide (x = y) = true then P else R) := fun h p => ite2 (fun _ => p) fun q => absurd (decide_eq_true h) q
  have nope : ∀ {x y : V} {P R : Prop}, x ≠ y → R → (if decide (x = y) = true then P else R) := fun h p => ite2 (fun q => absurd (of_decide_eq_true q) h) fun _ => p
  have fin : ∀ (D : Ends) (i : Nat) (d : Option Addr) (fs : List (Str × V)) (H1 : Hp), (∀ H', Same H H' → D.rt (.bl true) H') → i < 20 → kd n = i → Same H H1 → ((d = none ∧ fs = []) ∨ ∃ x, d = some x ∧ H1 x = some (.xd fs)) →
      wAs K (.ref CF) 2 (fun a cls d => tRet (tAndV (tOp (rIxL K) (tHot K a cls d (spKinds C CF) (tCons (tVar 2) tNil)) (tOp (rIxT K) (tTup (tCons (tC (.int 0)) (tCons (tC (.int 12)) (tCons (tC (.int 13)) (tCons (tC (.int 15)) (tCons (tC (.int 16)) tNil)))))) (tVar 0))) (tHot K a cls d (spPlain C CF) (tCons (tVar 2) tNil))))
        (fun _ _ _ _ => False) D (.ref (C i)) d (L2.start nCau [.int n, v]) H1 := by
    intro D i d fs H1 hD hi hk sm hdct
    refine ⟨true, T.exm i hi, fun _ a na => ?_, fun z => nomatch z⟩
    have xj : ∀ (G : Hp) (oe : Obj), (∀ x, H1 x = some (.xd fs) → G x = some (.xd fs)) → Zc (.ref (C i)) d oe → (∃ ws, oe.data = .fields ws) → ExJ (upd G a (ExF oe a)) (cl C CF i) a fs := by
      intro G oe hG hz hf
      obtain ⟨ws, hw⟩ := hf
      refine ⟨oe, ws, upd_same, by rw [cl_lt hi]; exact hz.1, hw, ?_⟩
      rcases hdct with ⟨h1, h2⟩ | ⟨x, h1, h2⟩
      · exact .inl ⟨hz.2.trans h1, h2⟩
      · refine .inr ⟨x, hz.2.trans h1, ?_⟩
        rw [upd_ne (ne_of_none h2 na)]
        exact hG x h2
    refine ⟨_, rfl, ⟨C i, rfl, T.ni i hi⟩, fun oe hz hf => ⟨a, i, fs, rfl, by omega, xj H1 oe (fun _ h => h) hz hf, fun H2 l sm2 nl hl => ⟨sm2 _ _ upd_same, ?_⟩⟩⟩
    have la : l ≠ a := fun z => by
      rw [z, upd_same] at nl
      cases nl
    have up : ∀ b o, H1 b = some o → delH H2 a b = some o := fun b o h => by
      have hb : b ≠ a := ne_of_none h na
      rw [delH_ne hb]
      exact sm2 b o (by rw [upd_ne hb]; exact h)
    refine ⟨(by show 5 ≤ sizeLine; decide), fun p hp => ?_⟩
    have hl' : delH H2 a l = some (.lst (twenty i)) := by rw [delH_ne la]; exact hl
    have ix : atI [V.int 0, .int 12, .int 13, .int 15, .int 16] (n : Int) = some (.int (i : Int)) := by
      rw [← hk]
      match n, hn with
      | 0, _ => rfl
      | 1, _ => rfl
      | 2, _ => rfl
      | 3, _ => rfl
      | 4, _ => rfl
    have iy : atI (twenty i) (i : Int) = some (.bl true) := atI_nat (by unfold twenty; simp [hi])
    refine ⟨_, rfl, p, _, _, _, rfl, rfl, SqT.of upd_same, ix, l, _, _, _, rfl, rfl, SqL.of (by rw [upd_ne (ne_of_none hl' hp)]; exact hl'), iy, true, rfl, ?_⟩
    refine ⟨_, rfl, ⟨C i, rfl, T.ni i hi⟩, fun oe hz hf => ⟨a, i, fs, rfl, by omega, xj _ oe (fun x h => ?_) hz hf, fun H3 sm3 => ⟨sm3 _ _ upd_same, hD _ fun b o h => ?_⟩⟩⟩
    · have q := up x _ h
      rw [upd_ne (ne_of_none q hp)]
      exact q
    · have h1 := sm b o h
      have hb : b ≠ a := ne_of_none h1 na
      have q := up b o h1
      rw [delH_ne hb]
      exact sm3 b o (by rw [upd_ne hb, upd_ne (ne_of_none q hp)]; exact q)
  have raised : ∀ {C' : Addr} {fs : List (Str × V)} {d : Addr} {H1 : Hp}, H1 d = none → ((some d = (none : Option Addr) ∧ fs = []) ∨ ∃ x, some d = some x ∧ (upd H1 d (.xd fs)) x = some (.xd fs)) := fun _ => .inr ⟨_, rfl, upd_same⟩
  have hq' : ∀ (D : Ends), D.rt = Q → ∀ H', Same H H' → D.rt (.bl true) H' := fun D e H' s => by rw [e]; exact hq H' s
  match n, hn, fin with
  | 0, _, fin => exact ⟨_, rfl, rfl, _, rfl, yes rfl ⟨_, rfl, _, rfl, fun d hd' => fin _ 0 _ _ _ hq (by decide) rfl (same_new hd') (.inr ⟨_, rfl, upd_same⟩)⟩⟩
  | 1, _, fin => exact ⟨_, rfl, rfl, _, rfl, nope (by decide) ⟨_, rfl, rfl, _, rfl, yes rfl ⟨_, rfl, _, rfl, fun d hd' => fin _ 12 _ _ _ hq (by decide) rfl (same_new hd') (.inr ⟨_, rfl, upd_same⟩)⟩⟩⟩
  | 2, _, fin => exact ⟨_, rfl, rfl, _, rfl, nope (by decide) ⟨_, rfl, rfl, _, rfl, nope (by decide) ⟨_, rfl, rfl, _, rfl, yes rfl ⟨_, rfl, _, rfl, fun d hd' => fin _ 13 _ _ _ hq (by decide) rfl (same_new hd') (.inr ⟨_, rfl, upd_same⟩)⟩⟩⟩⟩
  | 3, _, fin => exact ⟨_, rfl, rfl, _, rfl, nope (by decide) ⟨_, rfl, rfl, _, rfl, nope (by decide) ⟨_, rfl, rfl, _, rfl, nope (by decide) ⟨_, rfl, rfl, _, rfl, yes rfl ⟨_, rfl, _, rfl, fun d hd' => fin _ 15 _ _ _ hq (by decide) rfl (same_new hd') (.inr ⟨_, rfl, upd_same⟩)⟩⟩⟩⟩⟩
  | 4, _, fin => exact ⟨_, rfl, rfl, _, rfl, nope (by decide) ⟨_, rfl, rfl, _, rfl, nope (by decide) ⟨_, rfl, rfl, _, rfl, nope (by decide) ⟨_, rfl, rfl, _, rfl, nope (by decide) (fin _ 16 _ _ _ hq (by decide) rfl (Same.refl H) (.inl ⟨rfl, rfl⟩))⟩⟩⟩⟩
end
end K1
namespace K1
open PySem PySem.Spec L2 DL
open PySem.W (Frag keepIn findIn typeIn subIn kitOne kitAny excIn)
open PyProof.Rows hiding St wpAt wpAt_bind wpAt_stack wpAt_mono
open L2H (RoomH roomH_of)
theorem fz_get {H : Hp} {a b : Addr} {o : HO} (h : H b = some o) (n : b ≠ a) : delH H a b = some o := by rw [delH_ne n]; exact h
theorem fz_upd {H : Hp} {a : Addr} {o : HO} : delH (upd H a o) a = delH H a := by
  funext b
  by_cases e : b = a
  · rw [e, delH_same, delH_same]
  · rw [delH_ne e, delH_ne e, upd_ne e]
theorem fz_same {H H' : Hp} {a : Addr} (s : Same H H') : Same (delH H a) (delH H' a) := fun b o h => by
  obtain ⟨h1, h2⟩ := delH_get h
  exact fz_get (s b o h1) h2
theorem rz_pick {F : Hp} {v : V} : ∀ {vs : List V} {ds : List PyData}, RzAll F vs ds → v ∈ vs → ∃ d, d ∈ ds ∧ Rz F v d
  | _, _, .cons h r, m => by
    rcases List.mem_cons.mp m with rfl | m
    · exact ⟨_, List.mem_cons_self, h⟩
    · obtain ⟨d, h1, h2⟩ := rz_pick r m
      exact ⟨d, List.mem_cons_of_mem _ h1, h2⟩
/-- the things, told -/
def plains : List PyData := [.none, .bool true, .bool false, .int 0, .int 1, .int (-1), .int (10 ^ Int.toNat 29), .str "", .str "a", .tuple [], .tuple [.int 1, .str "good"], .list [], .dict [], .tuple [.tuple [.int 1, .str "a"]], .tuple [.bool true, .int 0]]
def formed (d : PyData) : List PyData := [d, .tuple [d, d], .list [d], .str "a text", .int (-7), .tuple [.tuple [], .tuple [d]]]
def tellsB (d : PyData) : Bool := d.showable && decide (d.shown.length ≤ 1000) && decide (d.depth ≤ 100)
theorem all_tell : ((plains.flatMap formed).all fun d => tellsB d && tellsB (.list [d])) = true := by decide +kernel
theorem tells_of {d : PyData} (h : tellsB d = true) : Tells d := by
  unfold tellsB at h
  rw [Bool.and_eq_true, Bool.and_eq_true] at h
  obtain ⟨⟨h1, h2⟩, h3⟩ := h
  exact ⟨h1, Nat.le_trans (of_decide_eq_true h2) (by decide), of_decide_eq_true h3⟩
theorem ents_join {C : Nat → Addr} {H0 H1 H2 H3 : Hp} {v : V} {bs1 bs2 : List Addr} (e1 : Ents C H0 H1 0 v bs1) (l1 : bs1.length = 12) (e2 : Ents C H1 H2 12 v bs2) (l2 : bs2.length = 8) (s : Same H2 H3) : ∀ i b, (bs1 ++ bs2)[i]? = some b → i < 20 ∧ Ent C H3 i v b := fun i b h => by
  have hl : i < (bs1 ++ bs2).length := (List.getElem?_eq_some_iff.mp h).1
  rw [List.length_append, l1, l2] at hl
  refine ⟨hl, ?_⟩
  by_cases hi : i < 12
  · rw [List.getElem?_append_left (by omega)] at h
    have q := e1.at_ i b h
    rw [Nat.zero_add] at q
    exact (q.same e2.sm).same s
  · rw [List.getElem?_append_right (by omega), l1] at h
    have q := e2.at_ (i - 12) b h
    rw [show 12 + (i - 12) = i by omega] at q
    exact q.same s
theorem dp_bools {K : Frag} {H : Hp} : ∀ bs : List Bool, DpAll K H (bs.map V.bl) (bs.map PyData.bool)
  | [] => .nil
  | b :: bs => .cons (.bl b) (dp_bools bs)
theorem shaped_bools (bs : List Bool) : SeqAt.shaped (.list (bs.map PyData.bool)) = true := by
  have c : ∀ l : List Bool, PyData.canLayAll0 (l.map PyData.bool) = true := fun l => by
    induction l with
    | nil => rfl
    | cons b l ih => simp only [List.map_cons, PyData.canLayAll0, PyData.canLay0, Bool.true_and, ih]
  have d : ∀ l : List Bool, PyData.depthAll (l.map PyData.bool) = 0 := fun l => by
    induction l with
    | nil => rfl
    | cons b l ih => simp only [List.map_cons, PyData.depthAll, PyData.depth, ih, Nat.max_self]
  unfold SeqAt.shaped
  simp only [PyData.canLay0, PyData.depth, c, d]
  rfl
theorem eqv_bools (bs : List Bool) : PyData.eqv (.list (bs.map PyData.bool)) (.list (bs.map PyData.bool)) = true := SeqAt.eqv_refl _ (SeqAt.canLay_of_shaped (shaped_bools bs))
def spRight : Sp := fun vs H Q _ => ∃ a, vs = [.ref a] ∧ Dr H a 0 ∧ ∀ H', (∀ b o, b ≠ a → H b = some o → H' b = some o) → Q (.bl true) H'
section
variable {w : World} {K : Frag} {mg : Str → Option Value} {base : Heap} {f : Addr} {fd : FuncData} {C : Nat → Addr} {CF : Addr}
theorem ok_right (F : Fun K "_law_right" "_law_right" sRight f fd) (N : Nms mg) (T : Cls w K mg C CF) (c_law_take : Clb prg w K mg base 1 "_law_take" spTake []) (c_law_pick : Clb prg w K mg base 2 "_law_pick" spPick [])
    (c_law_given_ones : Clb prg w K mg base 2 "_law_given_ones" (spGiv C 0 12) []) (c_law_index_ones : Clb prg w K mg base 2 "_law_index_ones" (spGiv C 12 8) []) (c_law_kinds : Clb prg w K mg base 1 "_law_kinds" (spKinds C CF) []) (c_law_is_plain : Clb prg w K mg base 1 "_law_is_plain" (spPlain C CF) [])
    (c_law_kept : Clb prg w K mg base 1 "_law_kept" (spKept C) []) (c_law_is_caught : Clb prg w K mg base 3 "_law_is_caught" spCau []) : FnG prg w K mg base 4 f fd ["draws"] spRight := by
  have S := fsRight
  refine fnG_mk F S (fun vs H Q E h => by obtain ⟨a, rfl, _⟩ := h; rfl) fun cdv A outer s H vs Q E hr gd hsp => ?_
  obtain ⟨a, rfl, hd, hq⟩ := hsp
  have hu : (A.deeper (envOfC "_law_right" (defScope sRight) s.heap.objs.size f cdv)).units + 200 < cLine := by have := hr.un; omega
  have hv : (A.deeper (envOfC "_law_right" (defScope sRight) s.heap.objs.size f cdv)).units + 64 < cLine := by have := hr.un; omega
  refine ⟨_, (pss_cons (ps_if (PW.pt (pw_or (pt_not (pt_val (pe_clb c_law_is_plain hr (by decide) gd rfl (pa_cons (pe_ex0 T.xF T.kF rfl T.g_FrameError) pa_nil)))) (pw_or1 (pt_cmpR op_in_seq pe_bl (pe_clb c_law_kinds hr (by decide) gd rfl (pa_cons (pe_ex0 T.xF T.kF rfl T.g_FrameError) pa_nil)) rfl)))) (pss_one (ps_ret pe_bl)) pss_nil)
    (pss_cons (ps_set (i := 1) S.nd rfl (Or.inl rfl) (pe_tup (pa_cons pe_non (pa_cons pe_bl (pa_cons pe_bl (pa_cons pe_int (pa_cons pe_int (pa_cons (pe_un un_neg pe_int) (pa_cons (pe_op op_pow pe_int pe_int) (pa_cons pe_str (pa_cons pe_str (pa_cons (pe_tup pa_nil) (pa_cons (pe_tup (pa_cons pe_int (pa_cons pe_str pa_nil))) (pa_cons (pe_lstB pa_nil) (pa_cons pe_dnewK (pa_cons (pe_tup (pa_cons (pe_tup (pa_cons pe_int (pa_cons pe_str pa_nil))) pa_nil)) (pa_cons (pe_tup (pa_cons pe_bl (pa_cons pe_int pa_nil))) pa_nil)))))))))))))))))
    (pss_cons (ps_set (i := 2) S.nd rfl (Or.inr rfl) (pe_clb c_law_pick hr (by decide) gd rfl (pa_cons (pv 0) (pa_cons (pv 1) pa_nil))))
    (pss_cons (ps_set (i := 2) S.nd rfl (Or.inr rfl) (pe_clb c_law_pick hr (by decide) gd rfl (pa_cons (pv 0) (pa_cons (pe_tup (pa_cons (pv 2) (pa_cons (pe_tup (pa_cons (pv 2) (pa_cons (pv 2) pa_nil))) (pa_cons (pe_lstB (pa_cons (pv 2) pa_nil)) (pa_cons pe_str (pa_cons (pe_un un_neg pe_int) (pa_cons (pe_tup (pa_cons (pe_tup pa_nil) (pa_cons (pe_tup (pa_cons (pv 2) pa_nil)) pa_nil))) pa_nil))))))) pa_nil))))
    (pss_cons (ps_set (i := 3) S.nd rfl (Or.inr rfl) pe_int)
    (pss_cons (ps_for PassesOwn.never rfl (pi_list (pe_op op_cat (pe_clb c_law_given_ones hr (by decide) gd rfl (pa_cons (pv 2) pa_nil)) (pe_clb c_law_index_ones hr (by decide) gd rfl (pa_cons (pv 2) pa_nil)))) (pg_unl rfl (pgs_cons (pg_name (i := 4) S.nd rfl (Or.inl rfl)) (pgs_cons (pg_name (i := 5) S.nd rfl (Or.inl rfl)) (pgs_cons (pg_name (i := 6) S.nd rfl (Or.inl rfl)) pgs_nil)))) (pss_cons (ps_for PassesOwn.never rfl (pi_tup (pe_tup (pa_cons (pv 5) (pa_cons (pv 6) pa_nil)))) (pg_name (i := 7) S.nd rfl (Or.inl rfl)) (pss_cons (ps_if (PW.pt (pw_or (pt_cmpR (op_neD hv) (pe_clb c_law_kinds hr (by decide) gd rfl (pa_cons (pv 7) pa_nil)) (pe_lc (own := [("at", 11)]) (g := gName 11) (tt := tYes) (by rfl) S.nd (pi_range1 rfl N.n_range (pa_cons pe_int pa_nil)) (blkOk_by (own := [("at", 11)]) (N := nRight) (sc := defScope sRight) (by decide +kernel)) (fun _ _ _ _ _ => (pg_name (i := 11) S.nd rfl (Or.inl rfl))) (fun _ _ _ _ _ => pts_nil) (fun _ _ _ _ _ => (pe_cmpR op_eq (pv 11) (pv 3) (nomark _)))) (nomark _)) (pw_or1 (pt_not (pt_val (pe_clb c_law_is_plain hr (by decide) gd rfl (pa_cons (pv 7) pa_nil))))))) (pss_one (ps_ret pe_bl)) pss_nil)
    (pss_one (ps_if (pt_cmpR op_ne (pe_callB (call_reprZ gd hu) (by rfl) N.n_repr (by decide +kernel) (pa_cons (pe_clb c_law_kept hr (by decide) gd rfl (pa_cons (pv 4) (pa_cons (pv 7) pa_nil))) pa_nil)) (pe_callB (call_reprZ gd hu) (by rfl) N.n_repr (by decide +kernel) (pa_cons (pe_ifExp (pt_cmpR op_ne (pv 4) pe_str (nomark _)) (pv 2) pe_non) pa_nil)) (nomark _)) (pss_one (ps_ret pe_bl)) pss_nil))))
    (pss_one (ps_set (i := 3) S.nd rfl (Or.inr rfl) (pe_op op_add (pv 3) pe_int)))))
    (pss_cons (ps_set (i := 8) S.nd rfl (Or.inl rfl) (pe_lst (pa_cons (pe_clb c_law_take hr (by decide) gd rfl (pa_cons (pv 0) (pa_cons pe_int pa_nil))) pa_nil)))
    (pss_cons (ps_set (i := 9) S.nd rfl (Or.inl rfl) (pe_op op_cat (pe_clb c_law_given_ones hr (by decide) gd rfl (pa_cons (pv 8) pa_nil)) (pe_clb c_law_index_ones hr (by decide) gd rfl (pa_cons (pv 8) pa_nil))))
    (pss_cons (ps_expr (pe_bm PySem.F.plainAttrs_list PySem.F.slot_list_append PySem.F.type_list_append mt_append (pv 8) (pa_cons (pe_clb c_law_take hr (by decide) gd rfl (pa_cons (pv 0) (pa_cons pe_int pa_nil))) pa_nil)))
    (pss_cons (ps_for PassesOwn.never rfl (pi_list (pv 9)) (pg_unl rfl (pgs_cons (pg_name (i := 4) S.nd rfl (Or.inl rfl)) (pgs_cons (pg_name (i := 5) S.nd rfl (Or.inl rfl)) (pgs_cons (pg_name (i := 6) S.nd rfl (Or.inl rfl)) pgs_nil)))) (pss_one (ps_if (PW.pt (pw_and (pt_cmpR op_notIn_seq (pv 4) (pe_tup (pa_cons pe_str (pa_cons pe_str pa_nil))) rfl) (pw_and1 (PW.pt (pw_or (pt_cmpR (op_neD hv) (pe_clb c_law_kept hr (by decide) gd rfl (pa_cons (pv 4) (pa_cons (pv 5) pa_nil))) (pv 8) (nomark _)) (pw_or1 (pt_cmpR (op_neD hv) (pe_clb c_law_kept hr (by decide) gd rfl (pa_cons (pv 4) (pa_cons (pv 6) pa_nil))) (pv 8) (nomark _)))))))) (pss_one (ps_ret pe_bl)) pss_nil)))
    (pss_one (ps_ret (pe_callB (cr_all rfl) (by rfl) N.n_all (by decide +kernel) (pa_cons (pe_lc (own := [("way", 10)]) (g := gName 10) (tt := tYes) (by rfl) S.nd (pi_range1 rfl N.n_range (pa_cons pe_int pa_nil)) (blkOk_by (own := [("way", 10)]) (N := nRight) (sc := defScope sRight) (by decide +kernel)) (fun _ _ _ _ _ => (pg_name (i := 10) S.nd rfl (Or.inl rfl))) (fun _ _ _ _ _ => pts_nil) (fun _ _ _ _ _ => (pe_cmpR op_is_bl (pe_clb c_law_is_caught hr (by decide) gd rfl (pa_cons (pv 10) (pa_cons (pv 2) pa_nil))) pe_bl (nomark _)))) pa_nil)))))))))))))), ?_⟩
  -- the first test
  refine fun e1 H1 s1 n1 x1 => ⟨e1, 20, [], rfl, by decide, (by rw [cl_eq (by decide)]; exact x1.j), fun H2 s2 => ⟨true, rfl, iteF ?_⟩⟩
  refine fun e2 H3 s3 n3 x3 => ⟨e2, 20, [], rfl, by decide, (by rw [cl_eq (by decide)]; exact x3.j), fun H4 l s4 nl hl => ⟨l, _, rfl, .inl (SqL.of hl), rfl, by decide +kernel, _, rfl, ite2 (fun h => absurd h (by decide +kernel)) fun _ => ?_⟩⟩
  have sm : Same H H4 := ((s1.trans s2).trans s3).trans s4
  obtain ⟨f0, q0, hA, hq0, hq1⟩ := hd
  have hA4 := sm _ _ hA
  clear s1 s2 s3 s4 n1 n3 x1 x3 nl hl
  -- plain
  refine ⟨_, rfl, _, _, rfl, rfl, ⟨by decide, by decide, by decide⟩, (by show 0 ≤ sizeLine; decide), fun t1 ht1 => ?_⟩
  have a1 : Same H4 _ := same_new (o := HO.tup []) ht1
  have b1 : (upd H4 t1 (HO.tup [])) t1 = some (HO.tup []) := upd_same
  generalize upd H4 t1 (HO.tup []) = G1 at a1 b1 ⊢
  refine ⟨(by show 2 ≤ sizeLine; decide), fun t2 ht2 => ?_⟩
  have a2 : Same G1 _ := same_new (o := HO.tup [V.int 1, V.str "good"]) ht2
  have b2 : (upd G1 t2 (HO.tup [V.int 1, V.str "good"])) t2 = some (HO.tup [V.int 1, V.str "good"]) := upd_same
  generalize upd G1 t2 (HO.tup [V.int 1, V.str "good"]) = G2 at a2 b2 ⊢
  refine ⟨(by show 0 ≤ sizeLine; decide), fun t3 ht3 hn3 => ?_⟩
  have a3 : Same G2 _ := same_new (o := HO.lst []) ht3
  have b3 : (upd G2 t3 (HO.lst [])) t3 = some (HO.lst []) := upd_same
  generalize upd G2 t3 (HO.lst []) = G3 at a3 b3 ⊢
  refine fun t4 ht4 => ?_
  have a4 : Same G3 _ := same_new (o := HO.dK []) ht4
  have b4 : (upd G3 t4 (HO.dK [])) t4 = some (HO.dK []) := upd_same
  generalize upd G3 t4 (HO.dK []) = G4 at a4 b4 ⊢
  refine ⟨(by show 2 ≤ sizeLine; decide), fun t5 ht5 => ?_⟩
  have a5 : Same G4 _ := same_new (o := HO.tup [V.int 1, V.str "a"]) ht5
  have b5 : (upd G4 t5 (HO.tup [V.int 1, V.str "a"])) t5 = some (HO.tup [V.int 1, V.str "a"]) := upd_same
  generalize upd G4 t5 (HO.tup [V.int 1, V.str "a"]) = G5 at a5 b5 ⊢
  refine ⟨(by show 1 ≤ sizeLine; decide), fun t6 ht6 => ?_⟩
  have a6 : Same G5 _ := same_new (o := HO.tup [V.ref t5]) ht6
  have b6 : (upd G5 t6 (HO.tup [V.ref t5])) t6 = some (HO.tup [V.ref t5]) := upd_same
  generalize upd G5 t6 (HO.tup [V.ref t5]) = G6 at a6 b6 ⊢
  refine ⟨(by show 2 ≤ sizeLine; decide), fun t7 ht7 => ?_⟩
  have a7 : Same G6 _ := same_new (o := HO.tup [V.bl true, V.int 0]) ht7
  have b7 : (upd G6 t7 (HO.tup [V.bl true, V.int 0])) t7 = some (HO.tup [V.bl true, V.int 0]) := upd_same
  generalize upd G6 t7 (HO.tup [V.bl true, V.int 0]) = G7 at a7 b7 ⊢
  refine ⟨(by show 15 ≤ sizeLine; decide), fun t8 ht8 => ?_⟩
  have a8 : Same G7 _ := same_new (o := HO.tup [V.non, V.bl true, V.bl false, V.int 0, V.int 1, V.int (-1), V.int (10 ^ Int.toNat 29), V.str "", V.str "a", V.ref t1, V.ref t2, V.ref t3, V.ref t4, V.ref t6, V.ref t7]) ht8
  have b8 : (upd G7 t8 (HO.tup [V.non, V.bl true, V.bl false, V.int 0, V.int 1, V.int (-1), V.int (10 ^ Int.toNat 29), V.str "", V.str "a", V.ref t1, V.ref t2, V.ref t3, V.ref t4, V.ref t6, V.ref t7])) t8 = some (HO.tup [V.non, V.bl true, V.bl false, V.int 0, V.int 1, V.int (-1), V.int (10 ^ Int.toNat 29), V.str "", V.str "a", V.ref t1, V.ref t2, V.ref t3, V.ref t4, V.ref t6, V.ref t7]) := upd_same
  generalize upd G7 t8 (HO.tup [V.non, V.bl true, V.bl false, V.int 0, V.int 1, V.int (-1), V.int (10 ^ Int.toNat 29), V.str "", V.str "a", V.ref t1, V.ref t2, V.ref t3, V.ref t4, V.ref t6, V.ref t7]) = G8 at a8 b8 ⊢
  refine ⟨_, rfl, _, rfl, ?_⟩
  have c7 := a8
  have c6 := a7.trans c7
  have c5 := a6.trans c6
  have c4 := a5.trans c5
  have c3 := a4.trans c4
  have c2 := a3.trans c3
  have c1 := a2.trans c2
  have c0 := a1.trans c1
  have hA8 := c0 _ _ hA4
  have fz : ∀ b o, G8 b = some o → o ≠ .lst [.int f0, .int q0, .int (0 : Nat)] → delH G8 a b = some o := fun b o h n => fz_get h (ne_of h hA8 n)
  have rz : RzAll (delH G8 a) [V.non, V.bl true, V.bl false, V.int 0, V.int 1, V.int (-1), V.int (10 ^ Int.toNat 29), V.str "", V.str "a", V.ref t1, V.ref t2, V.ref t3, V.ref t4, V.ref t6, V.ref t7] plains := .cons .non (.cons (.bl _) (.cons (.bl _) (.cons (.int _) (.cons (.int _) (.cons (.int _) (.cons (.int _) (.cons (.str _) (.cons (.str _)
    (.cons (.tup (fz _ _ (c1 _ _ b1) (fun z => nomatch z)) .nil) (.cons (.tup (fz _ _ (c2 _ _ b2) (fun z => nomatch z)) (.cons (.int _) (.cons (.str _) .nil))) (.cons (.lst (fz _ _ (c3 _ _ b3) (fun z => nomatch z)) hn3 .nil) (.cons (.emp (fz _ _ (c4 _ _ b4) (fun z => nomatch z)))
    (.cons (.tup (fz _ _ (c6 _ _ b6) (fun z => nomatch z)) (.cons (.tup (fz _ _ (c5 _ _ b5) (fun z => nomatch z)) (.cons (.int _) (.cons (.str _) .nil))) .nil)) (.cons (.tup (fz _ _ (c7 _ _ b7) (fun z => nomatch z)) (.cons (.bl _) (.cons (.int _) .nil))) .nil))))))))))))))
  have sm8 : Same H G8 := sm.trans c0
  -- the first pick
  refine ⟨a, t8, 0, _, rfl, ⟨f0, q0, hA8, hq0, hq1⟩, by decide, b8, (by show 0 < 15; decide), (by show 15 < 1000000; decide), fun v f1 q1 hv hq0' hq1' => ?_⟩
  obtain ⟨d, hdm, rv⟩ := rz_pick rz hv
  have hA9 : (upd G8 a (.lst [.int f1, .int q1, .int (0 + 1 : Nat)])) a = some (.lst [.int f1, .int q1, .int (0 + 1 : Nat)]) := upd_same
  have rv9 : Rz (delH (upd G8 a (.lst [.int f1, .int q1, .int (0 + 1 : Nat)])) a) v d := by rw [fz_upd]; exact rv
  have kp9 : ∀ b o, b ≠ a → H b = some o → (upd G8 a (.lst [.int f1, .int q1, .int (0 + 1 : Nat)])) b = some o := fun b o hb h => by rw [upd_ne hb]; exact sm8 b o h
  generalize upd G8 a (HO.lst [.int f1, .int q1, .int (0 + 1 : Nat)]) = G9 at hA9 rv9 kp9 ⊢
  clear hq0 hq1 fz rz sm8 hA8 c0 c1 c2 c3 c4 c5 c6 c7 b1 b2 b3 b4 b5 b6 b7 b8 a1 a2 a3 a4 a5 a6 a7 a8 hA4 hA ht1 ht2 ht3 ht4 ht5 ht6 ht7 ht8 hn3 rv hv sm
  -- the second pick
  refine ⟨_, rfl, _, rfl, _, rfl, _, rfl, (by show 2 ≤ sizeLine; decide), fun t1 ht1 => ?_⟩
  have a1 : Same G9 _ := same_new (o := HO.tup [v, v]) ht1
  have b1 : (upd G9 t1 (HO.tup [v, v])) t1 = some (HO.tup [v, v]) := upd_same
  generalize upd G9 t1 (HO.tup [v, v]) = G1 at a1 b1 ⊢
  refine ⟨_, rfl, (by show 1 ≤ sizeLine; decide), fun t2 ht2 hn2 => ?_⟩
  have a2 : Same G1 _ := same_new (o := HO.lst [v]) ht2
  have b2 : (upd G1 t2 (HO.lst [v])) t2 = some (HO.lst [v]) := upd_same
  generalize upd G1 t2 (HO.lst [v]) = G2 at a2 b2 ⊢
  refine ⟨_, rfl, (by show 0 ≤ sizeLine; decide), fun t3 ht3 => ?_⟩
  have a3 : Same G2 _ := same_new (o := HO.tup []) ht3
  have b3 : (upd G2 t3 (HO.tup [])) t3 = some (HO.tup []) := upd_same
  generalize upd G2 t3 (HO.tup []) = G3 at a3 b3 ⊢
  refine ⟨_, rfl, (by show 1 ≤ sizeLine; decide), fun t4 ht4 => ?_⟩
  have a4 : Same G3 _ := same_new (o := HO.tup [v]) ht4
  have b4 : (upd G3 t4 (HO.tup [v])) t4 = some (HO.tup [v]) := upd_same
  generalize upd G3 t4 (HO.tup [v]) = G4 at a4 b4 ⊢
  refine ⟨(by show 2 ≤ sizeLine; decide), fun t5 ht5 => ?_⟩
  have a5 : Same G4 _ := same_new (o := HO.tup [V.ref t3, V.ref t4]) ht5
  have b5 : (upd G4 t5 (HO.tup [V.ref t3, V.ref t4])) t5 = some (HO.tup [V.ref t3, V.ref t4]) := upd_same
  generalize upd G4 t5 (HO.tup [V.ref t3, V.ref t4]) = G5 at a5 b5 ⊢
  refine ⟨(by show 6 ≤ sizeLine; decide), fun t6 ht6 => ?_⟩
  have a6 : Same G5 _ := same_new (o := HO.tup [v, V.ref t1, V.ref t2, V.str "a text", V.int (-7), V.ref t5]) ht6
  have b6 : (upd G5 t6 (HO.tup [v, V.ref t1, V.ref t2, V.str "a text", V.int (-7), V.ref t5])) t6 = some (HO.tup [v, V.ref t1, V.ref t2, V.str "a text", V.int (-7), V.ref t5]) := upd_same
  generalize upd G5 t6 (HO.tup [v, V.ref t1, V.ref t2, V.str "a text", V.int (-7), V.ref t5]) = G6 at a6 b6 ⊢
  have c5 := a6
  have c4 := a5.trans c5
  have c3 := a4.trans c4
  have c2 := a3.trans c3
  have c1 := a2.trans c2
  have c0 := a1.trans c1
  have hA6 := c0 _ _ hA9
  have fz : ∀ b o, G6 b = some o → o ≠ .lst [.int f1, .int q1, .int (0 + 1 : Nat)] → delH G6 a b = some o := fun b o h n => fz_get h (ne_of h hA6 n)
  have rv6 : Rz (delH G6 a) v d := rv9.mono (fz_same c0)
  have rz : RzAll (delH G6 a) [v, V.ref t1, V.ref t2, V.str "a text", V.int (-7), V.ref t5] (formed d) := .cons rv6 (.cons (.tup (fz _ _ (c1 _ _ b1) (by intro z; cases z)) (.cons rv6 (.cons rv6 .nil))) (.cons (.lst (fz _ _ (c2 _ _ b2) (by intro z; cases z)) hn2 (.cons rv6 .nil)) (.cons (.str _) (.cons (.int _)
    (.cons (.tup (fz _ _ (c5 _ _ b5) (by intro z; cases z)) (.cons (.tup (fz _ _ (c3 _ _ b3) (by intro z; cases z)) .nil) (.cons (.tup (fz _ _ (c4 _ _ b4) (by intro z; cases z)) (.cons rv6 .nil)) .nil))) .nil)))))
  refine ⟨a, t6, 1, _, rfl, ⟨f1, q1, hA6, hq0', hq1'⟩, by decide, b6, (by show 0 < 6; decide), (by show 6 < 1000000; decide), fun v2 f2 q2 hv2 hq20 hq21 => ?_⟩
  obtain ⟨d2, hdm2, rv2⟩ := rz_pick rz hv2
  have tells : Tells d2 ∧ Tells (.list [d2]) := by
    have m : d2 ∈ plains.flatMap formed := List.mem_flatMap.mpr ⟨d, hdm, hdm2⟩
    have q := List.all_eq_true.mp all_tell d2 m
    rw [Bool.and_eq_true] at q
    exact ⟨tells_of q.1, tells_of q.2⟩
  have hA7 : (upd G6 a (.lst [.int f2, .int q2, .int (1 + 1 : Nat)])) a = some (.lst [.int f2, .int q2, .int (1 + 1 : Nat)]) := upd_same
  have rv7 : Rz (delH (upd G6 a (.lst [.int f2, .int q2, .int (1 + 1 : Nat)])) a) v2 d2 := by rw [fz_upd]; exact rv2
  have kp7 : ∀ b o, b ≠ a → H b = some o → (upd G6 a (.lst [.int f2, .int q2, .int (1 + 1 : Nat)])) b = some o := fun b o hb h => by rw [upd_ne hb]; exact c0 b o (kp9 b o hb h)
  generalize upd G6 a (HO.lst [.int f2, .int q2, .int (1 + 1 : Nat)]) = G7 at hA7 rv7 kp7 ⊢
  clear hq0' hq1' fz rz hA6 hA9 c0 c1 c2 c3 c4 c5 b1 b2 b3 b4 b5 b6 a1 a2 a3 a4 a5 a6 ht1 ht2 ht3 ht4 ht5 ht6 hn2 rv2 rv6 rv9 hv2 kp9
  have rvw : Rz G7 v2 d2 := rv7.mono (fun b o h => (delH_get h).1)
  -- the first loop
  refine ⟨_, rfl, v2, rfl, fun G8 l1 bs1 len1 en1 nl1 hl1 => ⟨_, rfl, v2, rfl, fun G9 l2 bs2 len2 en2 nl2 hl2 => ⟨l1, l2, _, _, rfl, rfl, en2.sm _ _ hl1, hl2, ?_, fun q hqn => ⟨q, rfl, ⟨_, SqL.of upd_same⟩, ?_⟩⟩⟩⟩
  · rw [List.length_map, List.length_map, len1, len2]
    show 20 ≤ sizeLine
    decide
  have ent := ents_join en1 len1 en2 len2 (same_new (o := .lst (bs1.map V.ref ++ bs2.map V.ref)) hqn)
  have sG : Same G7 (upd G9 q (.lst (bs1.map V.ref ++ bs2.map V.ref))) := (en1.sm.trans en2.sm).trans (same_new hqn)
  have hqs : (upd G9 q (.lst (bs1.map V.ref ++ bs2.map V.ref))) q = some (.lst (bs1.map V.ref ++ bs2.map V.ref)) := upd_same
  have len : (bs1.map V.ref ++ bs2.map V.ref).length = 20 := by rw [List.length_append, List.length_map, List.length_map, len1, len2]
  generalize upd G9 q (HO.lst (bs1.map V.ref ++ bs2.map V.ref)) = Gq at ent sG hqs ⊢
  clear en1 en2 nl1 nl2 hl1 hl2 hqn len1 len2
  refine for_list (xs := bs1.map V.ref ++ bs2.map V.ref) (fun i σ Hx => Same Gq Hx ∧ ∃ o4 o5 o6 o7, σ = [some (.ref a), some (.ref t8), some v2, some (.int i), o4, o5, o6, o7, none, none, none, none]) ⟨Same.refl _, none, none, none, none, rfl⟩ (fun i σ Hx _ h => SqL.of (h.1 _ _ hqs)) (fun i x σ Hx hx h => ?_) fun σ Hx h => ?_
  · obtain ⟨sx, o4, o5, o6, o7, rfl⟩ := h
    rw [← List.map_append, List.getElem?_map] at hx
    obtain ⟨b, hb, rfl⟩ := Option.map_eq_some_iff.mp hx
    obtain ⟨hi, hE⟩ := ent i b hb
    obtain ⟨e1, e2, hb1, hF1, hF2⟩ := hE.same sx
    refine ⟨b, _, rfl, SqL.of hb1, rfl, _, _, rfl, _, _, rfl, _, _, rfl, rfl, ?_⟩
    refine ⟨_, rfl, _, rfl, (by show 2 ≤ sizeLine; decide), fun tp htp => ⟨tp, rfl, ⟨_, SqT.of upd_same⟩, ?_⟩⟩
    have stp : Same Hx _ := same_new (o := HO.tup [V.ref e1, V.ref e2]) htp
    have btp : (upd Hx tp (HO.tup [V.ref e1, V.ref e2])) tp = some (HO.tup [V.ref e1, V.ref e2]) := upd_same
    generalize upd Hx tp (HO.tup [V.ref e1, V.ref e2]) = Hy at stp btp ⊢
    refine for_tup (xs := [.ref e1, .ref e2]) (fun _ σ Hz => Same Hy Hz ∧ ∃ o7, σ = [some (.ref a), some (.ref t8), some v2, some (.int i), some (.str (wd i)), some (.ref e1), some (.ref e2), o7, none, none, none, none]) ⟨Same.refl _, o7, rfl⟩ (fun j σ Hz _ h => SqT.of (h.1 _ _ btp)) (fun j x σ Hz hx h => ?_) fun σ Hz h => ?_
    · obtain ⟨sz, o7', rfl⟩ := h
      obtain ⟨e, rfl, hF⟩ : ∃ e, x = .ref e ∧ Fo C Hz i v2 e := by
        match j, hx with
        | 0, hx => cases hx; exact ⟨e1, rfl, (hF1.same stp).same sz⟩
        | 1, hx => cases hx; exact ⟨e2, rfl, (hF2.same stp).same sz⟩
        | j + 2, hx => simp at hx
      have sz7 : Same G7 Hz := (sG.trans sx).trans (stp.trans sz)
      obtain ⟨fs, xi, hf⟩ := id hF
      have xj : ExJ Hz (cl C CF i) e fs := by rw [cl_lt hi]; exact xi.j
      refine ⟨_, rfl, e, i, fs, rfl, by omega, xj, fun Ha l sa nl hl => ?_⟩
      refine ⟨20, rfl, by decide, by decide, fun D hD => ?_⟩
      have lD : l ≠ D := ne_of_none hl hD
      refine lc_range (lo := 0) (n := 20) (fun k Hb => (∀ b o, b ≠ D → Ha b = some o → Hb b = some o) ∧ Hb D = some (.lst ((List.range k).map fun m => V.bl (decide (i = m))))) ⟨fun b o hb h => by rw [upd_ne hb]; exact h, upd_same⟩ (fun k Hb hk h => ?_) fun Hb h => ?_
      · refine ⟨rfl, _, rfl, _, rfl, rfl, _, h.2, ?_, fun b o hb hh => by rw [upd_ne hb]; exact h.1 b o hb hh, ?_⟩
        · rw [List.length_map, List.length_range]
          exact Nat.lt_of_lt_of_le hk (by decide)
        · have e0 : decide (V.int (0 + (k : Int)) = V.int (i : Int)) = decide (i = k) := decide_eq_decide.mpr ⟨fun z => by have := V.int.inj z; omega, fun z => by rw [z, Int.zero_add]⟩
          rw [upd_same, List.range_succ, List.map_append]
          show some (HO.lst (_ ++ [V.bl (decide (V.int (0 + (k : Int)) = V.int (i : Int)))])) = _
          rw [e0]
          rfl
      have sb : Same Ha Hb := fun b o hh => h.1 b o (ne_of_none hh hD) hh
      have eb : (List.range 20).map (fun m => V.bl (decide (i = m))) = ((List.range 20).map fun m => decide (i = m)).map V.bl := by rw [List.map_map]; rfl
      have et : twenty i = ((List.range 20).map fun m => decide (i = m)).map V.bl := eb
      generalize (List.range 20).map (fun m => decide (i = m)) = bls at eb et
      refine ⟨.list (bls.map .bool), .list (bls.map .bool), .lst (SqL.of (sb _ _ hl)) (by rw [et]; exact dp_bools bls), .lst (SqL.of h.2) (by rw [eb]; exact dp_bools bls), shaped_bools bls, shaped_bools bls, _, rfl, ite2 (fun z => absurd z (by rw [eqv_bools]; decide)) fun _ => ?_⟩
      have xjb : ExJ Hb (cl C CF i) e fs := (xj.same sa).same sb
      refine ⟨_, rfl, e, i, fs, rfl, by omega, xjb, fun Hc sc => ⟨true, rfl, iteF ?_⟩⟩
      have szc : Same Hz Hc := (sa.trans sb).trans sc
      have rvc : Rz Hc v2 d2 := rvw.mono (sz7.trans szc)
      by_cases h16 : i < 16
      · have hw : wd i ≠ "" := by
          unfold wd
          split
          · decide
          · split
            · decide
            · split
              · decide
              · rw [if_pos (by omega)]
                decide
        refine ⟨_, rfl, _, rfl, e, i, v2, rfl, hi, hF.same szc, fun _ => ⟨d2, rvc, tells.2⟩, fun Hd sd => ⟨_, d2, rfl, by rw [if_pos h16]; exact rvc.mono sd, tells.1.s, tells.1.l, tells.1.d, ?_⟩⟩
        refine ⟨_, rfl, rfl, _, rfl, ite2 (fun _ => ⟨_, rfl, v2, d2, rfl, rvc.mono sd, tells.1.s, tells.1.l, tells.1.d, rfl, _, rfl, iteNS rfl ⟨(sz.trans szc).trans sd, _, rfl⟩⟩) fun z => absurd (show (!decide (V.str (wd i) = V.str "")) = true by rw [decide_eq_false (fun y => hw (V.str.inj y))]; rfl) z⟩
      · have hw : wd i = "" := by
          unfold wd
          rw [if_neg (by omega), if_neg (by omega), if_neg (by omega), if_neg (by omega)]
        refine ⟨_, rfl, _, rfl, e, i, v2, rfl, hi, hF.same szc, fun z => absurd z (by omega), fun Hd sd => ⟨_, .none, rfl, by rw [if_neg h16]; exact .non, rfl, (by decide), (by decide), ?_⟩⟩
        refine ⟨_, rfl, rfl, _, rfl, ite2 (fun z => absurd z (by rw [hw]; decide)) fun _ => ⟨.non, .none, rfl, .non, rfl, (by decide), (by decide), rfl, _, rfl, iteNS rfl ⟨(sz.trans szc).trans sd, _, rfl⟩⟩⟩
    · obtain ⟨sz, o7', rfl⟩ := h
      exact ⟨_, rfl, _, _, rfl, rfl, (sx.trans (stp.trans sz)), _, _, _, _, rfl⟩
  · obtain ⟨sx, o4, o5, o6, o7, rfl⟩ := h
    have hAx := sG.trans sx _ _ hA7
    have kpx : ∀ b o, b ≠ a → H b = some o → Hx b = some o := fun b o hb h => sG.trans sx b o (kp7 b o hb h)
    rw [len]
    refine ⟨_, rfl, a, 9, 2, rfl, ⟨f2, q2, hAx, hq20, hq21⟩, by decide, by decide, by decide, fun r f3 q3 r0 r1 hq30 hq31 => ⟨(by show 1 ≤ sizeLine; decide), fun row hrow => ?_⟩⟩
    have hA0 : (upd Hx a (.lst [.int f3, .int q3, .int (2 + 1 : Nat)])) a = some (.lst [.int f3, .int q3, .int (2 + 1 : Nat)]) := upd_same
    have kp0 : ∀ b o, b ≠ a → H b = some o → (upd Hx a (.lst [.int f3, .int q3, .int (2 + 1 : Nat)])) b = some o := fun b o hb h => by rw [upd_ne hb]; exact kpx b o hb h
    generalize upd Hx a (HO.lst [.int f3, .int q3, .int (2 + 1 : Nat)]) = R0 at hA0 kp0 hrow ⊢
    have s1 : Same R0 _ := same_new (o := HO.lst [V.int r]) hrow
    have hrow1 : (upd R0 row (HO.lst [V.int r])) row = some (HO.lst [V.int r]) := upd_same
    generalize upd R0 row (HO.lst [V.int r]) = R1 at s1 hrow1 ⊢
    clear rv7 rvw kp7 hA7 hqs ent sG sx hAx kpx hq20 hq21 tells hdm hdm2 len
    -- made
    refine ⟨_, rfl, .ref row, rfl, fun G8 l1 bs1 len1 en1 nl1 hl1 => ⟨_, rfl, .ref row, rfl, fun G9 l2 bs2 len2 en2 nl2 hl2 => ⟨l1, l2, _, _, rfl, rfl, en2.sm _ _ hl1, hl2, ?_, fun q hqn => ?_⟩⟩⟩
    · rw [List.length_map, List.length_map, len1, len2]
      show 20 ≤ sizeLine
      decide
    have ent := ents_join en1 len1 en2 len2 (same_new (o := .lst (bs1.map V.ref ++ bs2.map V.ref)) hqn)
    have sM : Same R1 (upd G9 q (.lst (bs1.map V.ref ++ bs2.map V.ref))) := (en1.sm.trans en2.sm).trans (same_new hqn)
    have hqs : (upd G9 q (.lst (bs1.map V.ref ++ bs2.map V.ref))) q = some (.lst (bs1.map V.ref ++ bs2.map V.ref)) := upd_same
    have len : (bs1.map V.ref ++ bs2.map V.ref).length = 20 := by rw [List.length_append, List.length_map, List.length_map, len1, len2]
    generalize upd G9 q (HO.lst (bs1.map V.ref ++ bs2.map V.ref)) = M at ent sM hqs ⊢
    clear en1 en2 nl1 nl2 hl1 hl2 hqn len1 len2
    have hAM := sM _ _ (s1 _ _ hA0)
    have hrM := sM _ _ hrow1
    have nra : row ≠ a := ne_of hrM hAM (by intro z; cases z)
    have nqa : q ≠ a := ne_of hqs hAM (fun z => by
      injection z with z
      have := congrArg List.length z
      rw [len] at this
      simp at this)
    have nqr : q ≠ row := ne_of hqs hrM (fun z => by
      injection z with z
      have := congrArg List.length z
      rw [len] at this
      simp at this)
    -- row.append
    refine ⟨_, rfl, .inl ⟨rfl, _, SqL.of hrM⟩, _, rfl, a, 9, 3, rfl, ⟨f3, q3, hAM, hq30, hq31⟩, by decide, by decide, by decide, fun r' f4 q4 r0' r1' hq40 hq41 => ⟨row, _, _, rfl, rfl, by rw [upd_ne nra]; exact hrM, (by show 1 < sizeLine; decide), ?_⟩⟩
    have hrN : (upd (upd M a (.lst [.int f4, .int q4, .int (3 + 1 : Nat)])) row (.lst ([.int r] ++ [.int r']))) row = some (.lst [.int r, .int r']) := upd_same
    have kN : ∀ b o, b ≠ a → b ≠ row → M b = some o → (upd (upd M a (.lst [.int f4, .int q4, .int (3 + 1 : Nat)])) row (.lst ([.int r] ++ [.int r']))) b = some o := fun b o h1 h2 h => by rw [upd_ne h2, upd_ne h1]; exact h
    generalize upd (upd M a (HO.lst [.int f4, .int q4, .int (3 + 1 : Nat)])) row (HO.lst ([.int r] ++ [.int r'])) = Nn at hrN kN ⊢
    have nl : ∀ b o, (∀ xs, o ≠ .lst xs) → M b = some o → Nn b = some o := fun b o hn h => kN b o (ne_of h hAM (hn _)) (ne_of h hrM (hn _)) h
    -- the second loop
    refine ⟨_, rfl, q, rfl, ⟨_, SqL.of (kN _ _ nqa nqr hqs)⟩, ?_⟩
    refine for_list (xs := bs1.map V.ref ++ bs2.map V.ref) (fun i σ Hy => Same Nn Hy ∧ ∃ o4 o5 o6 o7, σ = [some (.ref a), some (.ref t8), some v2, some (.int (20 : Nat)), o4, o5, o6, o7, some (.ref row), some (.ref q), none, none]) ⟨Same.refl _, o4, o5, o6, o7, rfl⟩ (fun i σ Hy _ h => SqL.of (h.1 _ _ (kN _ _ nqa nqr hqs))) (fun i x σ Hy hx h => ?_) fun σ Hy h => ?_
    · obtain ⟨sy, p4, p5, p6, p7, rfl⟩ := h
      rw [← List.map_append, List.getElem?_map] at hx
      obtain ⟨b, hb, rfl⟩ := Option.map_eq_some_iff.mp hx
      obtain ⟨hi, e1, e2, hb1, hF1, hF2⟩ := ent i b hb
      have hb2 : Hy b = some (.lst [.str (wd i), .ref e1, .ref e2]) := sy _ _ (kN _ _ (ne_of hb1 hAM (by intro z; cases z)) (ne_of hb1 hrM (by intro z; cases z)) hb1)
      have fo : ∀ {e : Addr} {Hz : Hp}, i ≠ 12 → i < 16 → Fo C M i (.ref row) e → Same Nn Hz → Fo C Hz i (.ref row) e := fun {e Hz} n12 n16 hF s => by
        obtain ⟨fs, x, hf⟩ := hF
        rw [if_neg n12] at hf
        exact ⟨fs, x.mono fun b o hn h => s b o (nl b o hn h), by rw [if_neg n12]; exact hf⟩
      refine ⟨b, _, rfl, SqL.of hb2, rfl, _, _, rfl, _, _, rfl, _, _, rfl, rfl, ?_⟩
      refine ⟨_, rfl, (by show 2 ≤ sizeLine; decide), fun tp htp => ⟨tp, _, rfl, .inr (SqT.of upd_same), rfl, rfl, _, rfl, ?_⟩⟩
      have stp : Same Hy _ := same_new (o := HO.tup [V.str "", V.str "row"]) htp
      by_cases c1 : i = 12 ∨ 16 ≤ i
      · have hin : inV (V.str (wd i)) [V.str "", V.str "row"] = true := by
          rcases c1 with rfl | c1
          · decide +kernel
          · have hw : wd i = "" := by
              unfold wd
              rw [if_neg (by omega), if_neg (by omega), if_neg (by omega), if_neg (by omega)]
            rw [hw]
            decide +kernel
        refine ite2 (fun z => absurd (show (!inV (V.str (wd i)) [V.str "", V.str "row"]) = true from z) (by rw [hin]; decide)) fun _ => iteF ?_
        exact ⟨sy.trans stp, _, _, _, _, rfl⟩
      · have n12 : i ≠ 12 := fun z => c1 (.inl z)
        have n16 : i < 16 := by omega
        have hin : inV (V.str (wd i)) [V.str "", V.str "row"] = false := by
          have hw : wd i = "given" ∨ wd i = "index" ∨ wd i = "reason" := by
            unfold wd
            by_cases k1 : i < 12
            · exact .inl (if_pos k1)
            · rw [if_neg k1, if_neg n12]
              by_cases k2 : i < 15
              · exact .inr (.inl (if_pos k2))
              · rw [if_neg k2, if_pos (by omega)]
                exact .inr (.inr rfl)
          rcases hw with hw | hw | hw <;> (rw [hw]; decide +kernel)
        refine ite2 (fun _ => ?_) fun z => absurd (show (!inV (V.str (wd i)) [V.str "", V.str "row"]) = true by rw [hin]; rfl) z
        generalize upd Hy tp (HO.tup [V.str "", V.str "row"]) = Hw at stp ⊢
        have rowD : ∀ {Hz : Hp}, Same Nn Hz → Dp K Hz (if i < 16 then V.ref row else .non) (.list [.int r, .int r']) := fun s => by
          rw [if_pos n16]
          exact .lst (SqL.of (s _ _ hrN)) (.cons (.int _) (.cons (.int _) .nil))
        have rowD' : ∀ {Hz : Hp}, Same Nn Hz → Dp K Hz (V.ref row) (.list [.int r, .int r']) := fun s => .lst (SqL.of (s _ _ hrN)) (.cons (.int _) (.cons (.int _) .nil))
        have ev : PyData.eqv (.list [.int r, .int r']) (.list [.int r, .int r']) = true := SeqAt.eqv_refl _ rfl
        refine ⟨_, rfl, _, rfl, e1, i, .ref row, rfl, hi, fo n12 n16 hF1 (sy.trans stp), fun z => absurd z n12, fun Hd sd => ⟨_, rfl, _, _, rowD ((sy.trans stp).trans sd), rowD' ((sy.trans stp).trans sd), rfl, rfl, _, rfl, ite2 (fun z => absurd z (by rw [ev]; decide)) fun _ => ?_⟩⟩
        refine ⟨_, rfl, _, rfl, e2, i, .ref row, rfl, hi, fo n12 n16 hF2 ((sy.trans stp).trans sd), fun z => absurd z n12, fun He se => ⟨_, rfl, _, _, rowD (((sy.trans stp).trans sd).trans se), rowD' (((sy.trans stp).trans sd).trans se), rfl, rfl, _, rfl, ite2 (fun z => absurd z (by rw [ev]; decide)) fun _ => ?_⟩⟩
        exact ⟨((sy.trans stp).trans sd).trans se, _, _, _, _, rfl⟩
    · obtain ⟨sy, p4, p5, p6, p7, rfl⟩ := h
      refine ⟨5, rfl, by decide, by decide, fun D hD => ?_⟩
      refine lc_range (lo := 0) (n := 5) (fun k Hb => (∀ b o, b ≠ D → Hy b = some o → Hb b = some o) ∧ Hb D = some (.lst ((List.replicate k true).map V.bl))) ⟨fun b o hb h => by rw [upd_ne hb]; exact h, upd_same⟩ (fun k Hb hk h => ?_) fun Hb h => ?_
      · refine ⟨rfl, _, rfl, _, rfl, k, v2, (by show [V.int (0 + (k : Int)), v2] = _; rw [Int.zero_add]), hk, fun Hc sc => ⟨true, true, rfl, rfl, _, sc _ _ h.2, ?_, fun b o hb hh => by rw [upd_ne hb]; exact sc _ _ (h.1 b o hb hh), ?_⟩⟩
        · rw [List.length_map, List.length_replicate]
          exact Nat.lt_of_lt_of_le hk (by decide)
        · rw [upd_same, List.replicate_succ', List.map_append]
          rfl
      · refine ⟨D, _, rfl, SqL.of h.2, ?_⟩
        refine hq Hb fun b o hb hh => ?_
        have h0 := kp0 b o hb hh
        have h1 := s1 b o h0
        have h2 := sM b o h1
        have h3 := kN b o hb (ne_of_none h0 hrow) h2
        have h4 := sy b o h3
        exact h.1 b o (ne_of_none h4 hD) h4
end
end K1
namespace K1
open PySem PySem.Spec L2 DL
open PySem.W (Frag keepIn findIn typeIn subIn kitOne kitAny excIn)
open PyProof.Rows hiding St wpAt wpAt_bind wpAt_stack wpAt_mono
def spLaw (K : Frag) : Sp := fun vs H Q _ => ∃ (a : Addr) (ns : List Int), vs = [.ref a] ∧ SqL K H a (ns.map V.int) ∧ ns.length ≤ 63 ∧ ∀ H', Q (.bl true) H'
section
variable {w : World} {K : Frag} {mg : Str → Option Value} {base : Heap} {f : Addr} {fd : FuncData} {C : Nat → Addr} {CF : Addr}
theorem ok_law (F : Fun K "law" "law" sLaw f fd) (N : Nms mg) (c_law_purse : Clb prg w K mg base 1 "_law_purse" (spPurse K) []) (c_law_right : Clb prg w K mg base 4 "_law_right" spRight []) : FnG prg w K mg base 5 f fd ["cells"] (spLaw K) := by
  have S := fsLaw
  refine fnG_mk F S (fun vs H Q E h => by obtain ⟨a, ns, rfl, _⟩ := h; rfl) fun cdv A outer s H vs Q E hr gd hsp => ?_
  obtain ⟨a, ns, rfl, hL, hl, hq⟩ := hsp
  refine ⟨_, (pss_one (ps_ret (pe_callB (cr_all rfl) (by rfl) N.n_all (by decide +kernel) (pa_cons (pe_lc (own := [("at", 1)]) (g := gName 1) (tt := tYes) (by rfl) S.nd (pi_range1 rfl N.n_range (pa_cons (pe_callB (call_max2 rfl) (by rfl) N.n_max (by decide +kernel) (pa_cons pe_int (pa_cons (pe_callB (call_min2 rfl) (by rfl) N.n_min (by decide +kernel) (pa_cons (pe_callB call_len_seq (by rfl) N.n_len (by decide +kernel) (pa_cons (pv 0) pa_nil)) (pa_cons pe_int pa_nil))) pa_nil))) pa_nil)) (blkOk_by (own := [("at", 1)]) (N := nLaw) (sc := defScope sLaw) (by decide +kernel)) (fun _ _ _ _ _ => (pg_name (i := 1) S.nd rfl (Or.inl rfl))) (fun _ _ _ _ _ => pts_nil) (fun _ _ _ _ _ => (pe_clb c_law_right hr (by decide) gd rfl (pa_cons (pe_clb c_law_purse hr (by decide) gd rfl (pa_cons (pv 0) (pa_cons (pv 1) pa_nil))) pa_nil)))) pa_nil)))), ?_⟩
  refine ⟨_, rfl, _, _, rfl, .inl hL, ?_⟩
  have lenE : (ns.map V.int).length = ns.length := List.length_map ..
  have low : ∀ m : Int, 0 ≤ m → m ≤ 3 → ∃ j : Int, (if m > 2 then m else 2) = j ∧ 0 ≤ j ∧ j ≤ 3 := fun m h0 h3 => by
    by_cases h : m > 2
    · exact ⟨m, if_pos h, h0, h3⟩
    · exact ⟨2, if_neg h, by omega, by omega⟩
  have mn : ∃ m : Int, (if (3 : Int) < ((ns.map V.int).length : Nat) then (3 : Int) else ((ns.map V.int).length : Nat)) = m ∧ 0 ≤ m ∧ m ≤ 3 := by
    by_cases h : (3 : Int) < ((ns.map V.int).length : Nat)
    · exact ⟨3, if_pos h, by omega, by omega⟩
    · exact ⟨_, if_neg h, by omega, by omega⟩
  obtain ⟨m, em, m0, m3⟩ := mn
  obtain ⟨j, ej, j0, j3⟩ := low m m0 m3
  refine ⟨_, _, rfl, _, _, rfl, j, ?_, by omega, by omega, fun D hD => ?_⟩
  · show [V.int (if (if (3 : Int) < ((ns.map V.int).length : Nat) then (3 : Int) else ((ns.map V.int).length : Nat)) > 2 then (if (3 : Int) < ((ns.map V.int).length : Nat) then (3 : Int) else ((ns.map V.int).length : Nat)) else 2)] = [V.int j]
    rw [em, ej]
  refine lc_range (lo := 0) (n := j.toNat) (fun k Hb => (∀ b o, b ≠ D → H b = some o → Hb b = some o) ∧ Hb D = some (.lst ((List.replicate k true).map V.bl))) ⟨fun b o hb h => by rw [upd_ne hb]; exact h, upd_same⟩ (fun k Hb hk h => ?_) fun Hb h => ?_
  · have sb : Same H Hb := fun b o hh => h.1 b o (ne_of_none hh hD) hh
    refine ⟨rfl, _, rfl, _, rfl, a, ns, k, (by show [V.ref a, V.int (0 + (k : Int))] = _; rw [Int.zero_add]), sb.seq hL, hl, by omega, fun H' p s1 n1 dr => ⟨p, rfl, dr, fun H'' kp => ⟨_, kp _ _ (Ne.symm (ne_of_none h.2 n1 |>.symm)) (s1 _ _ h.2), ?_, fun b o hb hh => ?_, ?_⟩⟩⟩
    · rw [List.length_map, List.length_replicate]
      have : k < 3 := by omega
      exact Nat.lt_trans this (by decide)
    · rw [upd_ne hb]
      have q := h.1 b o hb hh
      exact kp b o (ne_of_none q n1) (s1 b o q)
    · rw [upd_same, List.replicate_succ', List.map_append]
      rfl
  · refine ⟨D, _, rfl, SqL.of h.2, ?_⟩
    have e : (List.replicate j.toNat true).all id = true := by simp
    rw [e]
    exact hq Hb
end
end K1
namespace K1
open PySem PySem.Spec PySem.Calls L2 DL
open PySem.W (Frag keepIn findIn typeIn subIn mroIn nsIn clsIn hasDictIn specialIn takesIn kitOne kitAny excIn excInitIn codeIn ks_superIn fnX ksEnv exmOne)
open PyProof.Rows hiding St wpAt wpAt_bind wpAt_stack wpAt_mono
/-- what the text of an __init__ of one parameter must be -/
structure St1 (n : Str) (st : Stmt) : Prop where
  ex : ∃ p0 p1 p2 p3 p4 q0 q1 q2 q3 q4 : Pos, defBody st = [.Expr (.Call (.Attribute (.Call (.Name "super" p0) [] [] p1) "__init__" p2) [.Name n q0] [] p3) p4, .Assign [.Attribute (.Name "self" q1) n q2] (.Name n q3) q4] ∧
    (∃ pl : Str → Addr → Addr → Value → Addr → Sem Bool, ∀ q L f cda cc, eval (.Call (.Attribute (.Call (.Name "super" p0) [] [] p1) "__init__" p2) [.Name n q0] [] p3) (ksEnv q (defScope st) L f cda cc) = (do
      let ov ← attributeBase (.Call (.Name "super" p0) [] [] p1) "__init__" (ksEnv q (defScope st) L f cda cc) (eval (.Call (.Name "super" p0) [] [] p1) (ksEnv q (defScope st) L f cda cc))
      standAt p2.atName
      let (f', first) ← holding [ov] (getMethod ov "__init__" (pl q L f cda cc))
      callWith p3 f' first (backTo p3 (starEach [.Name n q0] (ksEnv q (defScope st) L f cda cc))) [])) ∧
    (∀ q L f cda cc, swapsWith (.Name n q3) (some (.Attribute (.Name "self" q1) n q2)) q4.line (ksEnv q (defScope st) L f cda cc) = pure false)
  kind : (defScope st).kind = .function
  ls : (defScope st).names.lookup ("super" : Str) = some .globalImplicit
  lc : (defScope st).names.lookup ("__class__" : Str) = some .free
  lse : (defScope st).names.lookup ("self" : Str) = some .local
  ln : (defScope st).names.lookup n = some .local
  nc : ∀ y ∈ (defScope st).names, y.2 ≠ .cell
  co : (defScope st).isCoroutine = false
  ge : (defScope st).isGenerator = false
  ar : ∃ ar : Arg, ((defArgs st).posonlyargs ++ (defArgs st).args).head? = some ar ∧ ar.arg = "self"
  n0 : (n == ("__debug__" : Str)) = false
  ns : (n == ("self" : Str)) = false
  it : ∀ q L f cda cc, interactive (ksEnv q (defScope st) L f cda cc) = false
  b1 : ∀ (s : Shared) (x v : Value) (qual : Str) (kV doc pm : Value) (an : Option Addr) (cdv ct : Value) (cc : Addr), BindsTo s (fnX "__init__" qual (defArgs st) (defBody st) (defScope st) [("__class__", cc)] .none kV doc pm an cdv ct) ⟨[x, v], []⟩ [("self", x), (n, v)]
  b2 : ∀ (s : Shared) (x v : Value) (qual : Str) (kV doc pm : Value) (an : Option Addr) (cdv ct : Value) (cc : Addr), BindsTo s (fnX "__init__" qual (defArgs st) (defBody st) (defScope st) [("__class__", cc)] .none kV doc pm an cdv ct) ⟨[x], [(n, v)]⟩ [("self", x), (n, v)]
theorem mk1_of {w : World} {K : Frag} {mg : Str → Option Value} {C fI : Addr} {n : Str} {st : Stmt} (T : SuC K prg C fI [n] st) (Z : St1 n st) (no : mg "super" = none) : (∀ u, MkC prg w K mg C [u] [] (mA1 n u)) ∧ ∀ u, MkC prg w K mg C [] [(n, u)] (mA1 n u) := by
  obtain ⟨p0, p1, p2, p3, p4, q0, q1, q2, q3, q4, hb, ⟨pl, hev⟩, hsw⟩ := Z.ex
  obtain ⟨ar, ha, har⟩ := Z.ar
  exact ⟨fun u => mkC_of T (by show 1 ≤ sizeLine; decide) fun A s x t0 R X Md hx hxC hnx hroom hq => su_init1 (pars := defArgs st) T X Md hx hxC hnx hroom hb Z.kind Z.ls Z.lc Z.lse Z.ln Z.nc Z.co Z.ge ha har Z.n0 Z.ns (Z.b1 s (.ref x) u) Z.it pl hev hsw hq,
    fun u => mkC_of T (by show 0 ≤ sizeLine; omega) fun A s x t0 R X Md hx hxC hnx hroom hq => su_init1 (pars := defArgs st) T X Md hx hxC hnx hroom hb Z.kind Z.ls Z.lc Z.lse Z.ln Z.nc Z.co Z.ge ha har Z.n0 Z.ns (Z.b2 s (.ref x) u) Z.it pl hev hsw hq⟩
abbrev sIn (i : Nat) : Stmt := inClass (topS (2 + i)) 0
theorem st1_0 : St1 "given" (sIn 0) := ⟨⟨_, _, _, _, _, _, _, _, _, _, rfl, ⟨_, fun _ _ _ _ _ => rfl⟩, fun _ _ _ _ _ => rfl⟩, rfl, rfl, rfl, rfl, rfl, by decide +kernel, rfl, rfl, ⟨_, rfl, rfl⟩, by decide, by decide, fun _ _ _ _ _ => rfl, fun _ _ _ _ _ _ _ _ _ _ _ => .of_eq rfl, fun _ _ _ _ _ _ _ _ _ _ _ => .of_eq rfl⟩
theorem st1_1 : St1 "given" (sIn 1) := ⟨⟨_, _, _, _, _, _, _, _, _, _, rfl, ⟨_, fun _ _ _ _ _ => rfl⟩, fun _ _ _ _ _ => rfl⟩, rfl, rfl, rfl, rfl, rfl, by decide +kernel, rfl, rfl, ⟨_, rfl, rfl⟩, by decide, by decide, fun _ _ _ _ _ => rfl, fun _ _ _ _ _ _ _ _ _ _ _ => .of_eq rfl, fun _ _ _ _ _ _ _ _ _ _ _ => .of_eq rfl⟩
theorem st1_2 : St1 "given" (sIn 2) := ⟨⟨_, _, _, _, _, _, _, _, _, _, rfl, ⟨_, fun _ _ _ _ _ => rfl⟩, fun _ _ _ _ _ => rfl⟩, rfl, rfl, rfl, rfl, rfl, by decide +kernel, rfl, rfl, ⟨_, rfl, rfl⟩, by decide, by decide, fun _ _ _ _ _ => rfl, fun _ _ _ _ _ _ _ _ _ _ _ => .of_eq rfl, fun _ _ _ _ _ _ _ _ _ _ _ => .of_eq rfl⟩
theorem st1_3 : St1 "given" (sIn 3) := ⟨⟨_, _, _, _, _, _, _, _, _, _, rfl, ⟨_, fun _ _ _ _ _ => rfl⟩, fun _ _ _ _ _ => rfl⟩, rfl, rfl, rfl, rfl, rfl, by decide +kernel, rfl, rfl, ⟨_, rfl, rfl⟩, by decide, by decide, fun _ _ _ _ _ => rfl, fun _ _ _ _ _ _ _ _ _ _ _ => .of_eq rfl, fun _ _ _ _ _ _ _ _ _ _ _ => .of_eq rfl⟩
theorem st1_4 : St1 "given" (sIn 4) := ⟨⟨_, _, _, _, _, _, _, _, _, _, rfl, ⟨_, fun _ _ _ _ _ => rfl⟩, fun _ _ _ _ _ => rfl⟩, rfl, rfl, rfl, rfl, rfl, by decide +kernel, rfl, rfl, ⟨_, rfl, rfl⟩, by decide, by decide, fun _ _ _ _ _ => rfl, fun _ _ _ _ _ _ _ _ _ _ _ => .of_eq rfl, fun _ _ _ _ _ _ _ _ _ _ _ => .of_eq rfl⟩
theorem st1_5 : St1 "given" (sIn 5) := ⟨⟨_, _, _, _, _, _, _, _, _, _, rfl, ⟨_, fun _ _ _ _ _ => rfl⟩, fun _ _ _ _ _ => rfl⟩, rfl, rfl, rfl, rfl, rfl, by decide +kernel, rfl, rfl, ⟨_, rfl, rfl⟩, by decide, by decide, fun _ _ _ _ _ => rfl, fun _ _ _ _ _ _ _ _ _ _ _ => .of_eq rfl, fun _ _ _ _ _ _ _ _ _ _ _ => .of_eq rfl⟩
theorem st1_6 : St1 "given" (sIn 6) := ⟨⟨_, _, _, _, _, _, _, _, _, _, rfl, ⟨_, fun _ _ _ _ _ => rfl⟩, fun _ _ _ _ _ => rfl⟩, rfl, rfl, rfl, rfl, rfl, by decide +kernel, rfl, rfl, ⟨_, rfl, rfl⟩, by decide, by decide, fun _ _ _ _ _ => rfl, fun _ _ _ _ _ _ _ _ _ _ _ => .of_eq rfl, fun _ _ _ _ _ _ _ _ _ _ _ => .of_eq rfl⟩
theorem st1_7 : St1 "given" (sIn 7) := ⟨⟨_, _, _, _, _, _, _, _, _, _, rfl, ⟨_, fun _ _ _ _ _ => rfl⟩, fun _ _ _ _ _ => rfl⟩, rfl, rfl, rfl, rfl, rfl, by decide +kernel, rfl, rfl, ⟨_, rfl, rfl⟩, by decide, by decide, fun _ _ _ _ _ => rfl, fun _ _ _ _ _ _ _ _ _ _ _ => .of_eq rfl, fun _ _ _ _ _ _ _ _ _ _ _ => .of_eq rfl⟩
theorem st1_8 : St1 "given" (sIn 8) := ⟨⟨_, _, _, _, _, _, _, _, _, _, rfl, ⟨_, fun _ _ _ _ _ => rfl⟩, fun _ _ _ _ _ => rfl⟩, rfl, rfl, rfl, rfl, rfl, by decide +kernel, rfl, rfl, ⟨_, rfl, rfl⟩, by decide, by decide, fun _ _ _ _ _ => rfl, fun _ _ _ _ _ _ _ _ _ _ _ => .of_eq rfl, fun _ _ _ _ _ _ _ _ _ _ _ => .of_eq rfl⟩
theorem st1_9 : St1 "given" (sIn 9) := ⟨⟨_, _, _, _, _, _, _, _, _, _, rfl, ⟨_, fun _ _ _ _ _ => rfl⟩, fun _ _ _ _ _ => rfl⟩, rfl, rfl, rfl, rfl, rfl, by decide +kernel, rfl, rfl, ⟨_, rfl, rfl⟩, by decide, by decide, fun _ _ _ _ _ => rfl, fun _ _ _ _ _ _ _ _ _ _ _ => .of_eq rfl, fun _ _ _ _ _ _ _ _ _ _ _ => .of_eq rfl⟩
theorem st1_10 : St1 "given" (sIn 10) := ⟨⟨_, _, _, _, _, _, _, _, _, _, rfl, ⟨_, fun _ _ _ _ _ => rfl⟩, fun _ _ _ _ _ => rfl⟩, rfl, rfl, rfl, rfl, rfl, by decide +kernel, rfl, rfl, ⟨_, rfl, rfl⟩, by decide, by decide, fun _ _ _ _ _ => rfl, fun _ _ _ _ _ _ _ _ _ _ _ => .of_eq rfl, fun _ _ _ _ _ _ _ _ _ _ _ => .of_eq rfl⟩
theorem st1_11 : St1 "given" (sIn 11) := ⟨⟨_, _, _, _, _, _, _, _, _, _, rfl, ⟨_, fun _ _ _ _ _ => rfl⟩, fun _ _ _ _ _ => rfl⟩, rfl, rfl, rfl, rfl, rfl, by decide +kernel, rfl, rfl, ⟨_, rfl, rfl⟩, by decide, by decide, fun _ _ _ _ _ => rfl, fun _ _ _ _ _ _ _ _ _ _ _ => .of_eq rfl, fun _ _ _ _ _ _ _ _ _ _ _ => .of_eq rfl⟩
theorem st1_13 : St1 "index" (sIn 13) := ⟨⟨_, _, _, _, _, _, _, _, _, _, rfl, ⟨_, fun _ _ _ _ _ => rfl⟩, fun _ _ _ _ _ => rfl⟩, rfl, rfl, rfl, rfl, rfl, by decide +kernel, rfl, rfl, ⟨_, rfl, rfl⟩, by decide, by decide, fun _ _ _ _ _ => rfl, fun _ _ _ _ _ _ _ _ _ _ _ => .of_eq rfl, fun _ _ _ _ _ _ _ _ _ _ _ => .of_eq rfl⟩
theorem st1_14 : St1 "index" (sIn 14) := ⟨⟨_, _, _, _, _, _, _, _, _, _, rfl, ⟨_, fun _ _ _ _ _ => rfl⟩, fun _ _ _ _ _ => rfl⟩, rfl, rfl, rfl, rfl, rfl, by decide +kernel, rfl, rfl, ⟨_, rfl, rfl⟩, by decide, by decide, fun _ _ _ _ _ => rfl, fun _ _ _ _ _ _ _ _ _ _ _ => .of_eq rfl, fun _ _ _ _ _ _ _ _ _ _ _ => .of_eq rfl⟩
theorem st1_15 : St1 "reason" (sIn 15) := ⟨⟨_, _, _, _, _, _, _, _, _, _, rfl, ⟨_, fun _ _ _ _ _ => rfl⟩, fun _ _ _ _ _ => rfl⟩, rfl, rfl, rfl, rfl, rfl, by decide +kernel, rfl, rfl, ⟨_, rfl, rfl⟩, by decide, by decide, fun _ _ _ _ _ => rfl, fun _ _ _ _ _ _ _ _ _ _ _ => .of_eq rfl, fun _ _ _ _ _ _ _ _ _ _ _ => .of_eq rfl⟩
theorem mk2_of {w : World} {K : Frag} {mg : Str → Option Value} {C fI : Addr} (T : SuC K prg C fI ["row", "word"] (sIn 12)) (no : mg "super" = none) : (∀ v u, MkC prg w K mg C [v, u] [] (mA2 v u)) ∧ ∀ v u, MkC prg w K mg C [] [("row", v), ("word", u)] (mA2 v u) :=
  ⟨fun v u => mkC_of T (by show 2 ≤ sizeLine; decide) fun A s x t0 R X Md hx hxC hnx hroom hq => su_init2 T X Md hx hxC hnx hroom rfl rfl rfl rfl rfl rfl rfl (by decide +kernel) rfl rfl (ar := _) rfl rfl (fun _ _ _ _ _ _ _ _ => .of_eq rfl) (fun _ _ _ _ _ => rfl) _ (fun _ _ _ _ _ => rfl) (fun _ _ _ _ _ => rfl) (fun _ _ _ _ _ => rfl) hq,
    fun v u => mkC_of T (by show 0 ≤ sizeLine; omega) fun A s x t0 R X Md hx hxC hnx hroom hq => su_init2 T X Md hx hxC hnx hroom rfl rfl rfl rfl rfl rfl rfl (by decide +kernel) rfl rfl (ar := _) rfl rfl (fun _ _ _ _ _ _ _ _ => .of_eq rfl) (fun _ _ _ _ _ => rfl) _ (fun _ _ _ _ _ => rfl) (fun _ _ _ _ _ => rfl) (fun _ _ _ _ _ => rfl) hq⟩
end K1
namespace K1
open PySem PySem.Spec PySem.Calls L2 DL
open PySem.W (Frag keepIn findIn typeIn subIn mroIn nsIn clsIn hasDictIn specialIn takesIn kitOne kitAny excIn excInitIn codeIn ks_superIn fnX ksEnv exmOne)
open PyProof.Rows hiding St wpAt wpAt_bind wpAt_stack wpAt_mono
/-! ### the facts of the written part, as one check -/
def eiB (K : Frag) (C : Addr) : Bool := decide (findIn K (.ref C) "__getattribute__" = some (some (.builtin "BaseException.__getattribute__"))) && (decide (findIn K (.ref C) "__getattr__" = some none) && (decide (subIn K (.ref C) (.type "BaseException") = some true) && (hasDictIn K C &&
  (decide (findIn K (.ref C) "__class__" = some (some (.builtin "object.__class__"))) && (decide (specialIn K (.builtin "object.__class__") "__get__" = some (some (.builtin "getset_descriptor.__get__"))) && (decide (takesIn K (.builtin "object.__class__") = some true) && (decide (mroIn K C (.type "object") = some true) && decide (typeIn K (.ref C) = some (.type "type")))))))))
theorem ei_of {K : Frag} {C : Addr} (h : eiB K C = true) : EiC K C := by
  obtain ⟨h1, h⟩ := Bool.and_eq_true_iff.mp h
  obtain ⟨h2, h⟩ := Bool.and_eq_true_iff.mp h
  obtain ⟨h3, h⟩ := Bool.and_eq_true_iff.mp h
  obtain ⟨h4, h⟩ := Bool.and_eq_true_iff.mp h
  obtain ⟨h5, h⟩ := Bool.and_eq_true_iff.mp h
  obtain ⟨h6, h⟩ := Bool.and_eq_true_iff.mp h
  obtain ⟨h7, h⟩ := Bool.and_eq_true_iff.mp h
  obtain ⟨h8, h9⟩ := Bool.and_eq_true_iff.mp h
  exact ⟨of_decide_eq_true h1, of_decide_eq_true h2, of_decide_eq_true h3, h4, of_decide_eq_true h5, of_decide_eq_true h6, of_decide_eq_true h7, of_decide_eq_true h8, of_decide_eq_true h9⟩
def clsB (K : Frag) (C : Addr) : Bool := match K.lookup C with
  | some ⟨.type "type", _, .cls cd, sl⟩ => (match cd.mro, sl.toList with
    | .ref C' :: bm, [_, _, _, _, some (.builtin n), _] => C' == C && n == "ValueError.__new__" && !cd.hasDel && cd.hasDict && HandSPX.refsVE bm
    | _, _ => false)
  | _ => false
theorem cls_of {K : Frag} {C : Addr} (q : clsB K C = true) : ∃ nm q N bs bm sn sub ab col dd k0 k1 k2 k3 k5, K.lookup C = some (excClassObj nm q C N bs bm true sn sub ab col dd k0 k1 k2 k3 k5 "ValueError.__new__") ∧ HandSPX.refsVE bm = true := by
  unfold clsB at q
  split at q
  · rename_i dd cd sl ho
    split at q
    · rename_i C' bm k0 k1 k2 k3 n k5 hm hs
      simp only [Bool.and_eq_true, beq_iff_eq, Bool.not_eq_true'] at q
      obtain ⟨⟨⟨⟨rfl, rfl⟩, hdel⟩, hdct⟩, ht⟩ := q
      obtain ⟨nm, bs, mro, ns, qn, hd, sn, sub, ab, col, del⟩ := cd
      dsimp only at hm hdel hdct
      subst hm hdel hdct
      have hsl : sl = #[k0, k1, k2, k3, some (.builtin "ValueError.__new__"), k5] := by
        obtain ⟨l⟩ := sl
        simp only at hs
        rw [hs]
      subst hsl
      exact ⟨_, _, _, _, _, _, _, _, _, _, _, _, _, _, _, ho, ht⟩
    · cases q
  · cases q
def suB (K : Frag) (C fI : Addr) (ps : List Str) : Bool := clsB K C && (excInitIn K C veB "ValueError.__new__" && (decide (findIn K (.ref C) "__setattr__" = some (some (.builtin "object.__setattr__"))) && (ps.all (fun n => decide (findIn K (.ref C) n = some none)) && (decide (findIn K (.ref C) "__init__" = some (some (.ref fI))) &&
  (decide (typeIn K (.ref fI) = some (.type "function")) && (decide (ks_superIn K C C "__init__" = some (some (.builtin "ValueError.__init__"))) && (decide (subIn K (.ref C) (.type "ValueError") = some true) && (decide (mroIn K C (.ref C) = some true) && decide (nsIn K cStatics "thirdparty.any" = some none)))))))))
def inB (K : Frag) (qual : Str) (cda cc C : Addr) : Bool := codeIn K (.ref cda) qual && ((match K.lookup cda with
  | some ⟨_, _, .fields vs, _⟩ => (match (vs : Array Value)[2]? with
    | some (Value.str f _) => (prg.main.file : Str) == f
    | _ => false)
  | _ => false) && (match K.lookup cc with
  | some ⟨_, _, .cell (some (.ref D)), _⟩ => D == C
  | _ => false))
theorem su_of {K : Frag} {C fI : Addr} {ps : List Str} {st : Stmt} {qual : Str} {oc : Value} {od : Option Addr} {kV doc pm : Value} {an : Option Addr} {cda : Addr} {ct : Value} {osl : Array (Option Value)} {cc : Addr} (h : suB K C fI ps = true) (hi : inB K qual cda cc C = true)
    (l : K.lookup fI = some ⟨oc, od, .func (fnX "__init__" qual (defArgs st) (defBody st) (defScope st) [("__class__", cc)] .none kV doc pm an (.ref cda) ct), osl⟩) : SuC K prg C fI ps st := by
  obtain ⟨h1, h⟩ := Bool.and_eq_true_iff.mp h
  obtain ⟨h2, h⟩ := Bool.and_eq_true_iff.mp h
  obtain ⟨h3, h⟩ := Bool.and_eq_true_iff.mp h
  obtain ⟨h4, h⟩ := Bool.and_eq_true_iff.mp h
  obtain ⟨h5, h⟩ := Bool.and_eq_true_iff.mp h
  obtain ⟨h6, h⟩ := Bool.and_eq_true_iff.mp h
  obtain ⟨h7, h⟩ := Bool.and_eq_true_iff.mp h
  obtain ⟨h8, h⟩ := Bool.and_eq_true_iff.mp h
  obtain ⟨h9, h10⟩ := Bool.and_eq_true_iff.mp h
  obtain ⟨c1, hi⟩ := Bool.and_eq_true_iff.mp hi
  obtain ⟨c2, c3⟩ := Bool.and_eq_true_iff.mp hi
  refine ⟨cls_of h1, h2, of_decide_eq_true h3, fun n hn => of_decide_eq_true (List.all_eq_true.mp h4 n hn), of_decide_eq_true h5, of_decide_eq_true h6, of_decide_eq_true h7, of_decide_eq_true h8, of_decide_eq_true h9, of_decide_eq_true h10, ?_, by decide +kernel⟩
  split at c2
  · rename_i a1 a2 vs a3 e1
    split at c2
    · rename_i fl tf e2
      split at c3
      · rename_i b1 b2 D b3 e3
        obtain rfl : D = C := beq_iff_eq.mp c3
        exact ⟨_, _, _, _, _, _, _, _, _, _, _, _, _, _, _, _, _, _, _, _, l, c1, e1, e2, c2, e3⟩
      · cases c3
    · cases c2
  · cases c2
def psOf (i : Nat) : List Str := if i = 12 then ["row", "word"] else [wd i]
abbrev otL : List Value := [.type "LookupError", .type "ArithmeticError", .type "TypeError", .type "AttributeError", .type "RuntimeError"]
def oneB (K : Frag) (C : Nat → Addr) (cF : Addr) (i : Nat) : Bool := eiB K (C i) && (keepIn K (.ref (C i)) && ((List.range 20).all (fun j => decide (kitOne K (.ref (C i)) (.ref (C j)) = some (decide (i = j)))) && (decide (kitOne K (.ref cF) (.ref (C i)) = some false) && (decide (kitOne K (.ref (C i)) (.ref cF) = some true) &&
  (decide (kitOne K (.ref (C i)) (.type "ValueError") = some true) && (decide (kitAny K (.ref (C i)) otL = some false) && (noInst K (C i) && decide (exmOne K (.ref (C i)) (.ref cF) = some true))))))))
def frB (K : Frag) (cF : Addr) : Bool := eiB K cF && (keepIn K (.ref cF) && (decide (kitOne K (.ref cF) (.ref cF) = some true) && (decide (kitOne K (.ref cF) (.type "ValueError") = some true) && (decide (kitAny K (.ref cF) otL = some false) && excIn K cF veB "ValueError.__new__"))))
def allB (K : Frag) (C f : Nat → Addr) (cF : Addr) : Bool := (List.range 20).all (oneB K C cF) && (frB K cF && ((List.range 16).all (fun i => suB K (C i) (f i) (psOf i)) && (List.range 4).all (fun i => excIn K (C (16 + i)) veB "ValueError.__new__")))
theorem range_all {n : Nat} {p : Nat → Bool} (h : (List.range n).all p = true) (i : Nat) (hi : i < n) : p i = true := List.all_eq_true.mp h i (List.mem_range.mpr hi)
structure Nams (mg : Str → Option Value) (C : Nat → Addr) (CF : Addr) : Prop where
  g0 : mg "InvalidText" = some (.ref (C 0))
  g1 : mg "InvalidProgram" = some (.ref (C 1))
  g2 : mg "InvalidTree" = some (.ref (C 2))
  g3 : mg "InvalidNumber" = some (.ref (C 3))
  g4 : mg "InvalidName" = some (.ref (C 4))
  g5 : mg "InvalidFrame" = some (.ref (C 5))
  g6 : mg "InvalidGivens" = some (.ref (C 6))
  g7 : mg "InvalidSum" = some (.ref (C 7))
  g8 : mg "InvalidCode" = some (.ref (C 8))
  g9 : mg "InvalidTable" = some (.ref (C 9))
  g10 : mg "InvalidLine" = some (.ref (C 10))
  g11 : mg "NotADesk" = some (.ref (C 11))
  g12 : mg "NotWellRead" = some (.ref (C 12))
  g13 : mg "InvalidRows" = some (.ref (C 13))
  g14 : mg "InvalidDeed" = some (.ref (C 14))
  g15 : mg "Barred" = some (.ref (C 15))
  g16 : mg "NothingToUndo" = some (.ref (C 16))
  g17 : mg "NotFree" = some (.ref (C 17))
  g18 : mg "NoForm" = some (.ref (C 18))
  g19 : mg "TooGreat" = some (.ref (C 19))
  gF : mg "FrameError" = some (.ref CF)
  no : mg "super" = none
theorem cls_mk {w : World} {K : Frag} {mg : Str → Option Value} {C f : Nat → Addr} {CF : Addr} (h : allB K C f CF = true) (g : Nams mg C CF)
    (m1 : ∀ i, i < 16 → i ≠ 12 → (∀ u, MkC prg w K mg (C i) [u] [] (mA1 (wd i) u)) ∧ ∀ u, MkC prg w K mg (C i) [] [(wd i, u)] (mA1 (wd i) u))
    (m2 : (∀ v u, MkC prg w K mg (C 12) [v, u] [] (mA2 v u)) ∧ ∀ v u, MkC prg w K mg (C 12) [] [("row", v), ("word", u)] (mA2 v u)) : Cls w K mg C CF := by
  obtain ⟨h1, h⟩ := Bool.and_eq_true_iff.mp h
  obtain ⟨h2, h⟩ := Bool.and_eq_true_iff.mp h
  obtain ⟨h3, h4⟩ := Bool.and_eq_true_iff.mp h
  have one := fun i hi => range_all h1 i hi
  obtain ⟨f1, h2⟩ := Bool.and_eq_true_iff.mp h2
  obtain ⟨f2, h2⟩ := Bool.and_eq_true_iff.mp h2
  obtain ⟨f3, h2⟩ := Bool.and_eq_true_iff.mp h2
  obtain ⟨f4, h2⟩ := Bool.and_eq_true_iff.mp h2
  obtain ⟨f5, f6⟩ := Bool.and_eq_true_iff.mp h2
  have p1 := fun i hi => (Bool.and_eq_true_iff.mp (one i hi)).1
  have q1 := fun i hi => (Bool.and_eq_true_iff.mp (one i hi)).2
  have p2 := fun i hi => (Bool.and_eq_true_iff.mp (q1 i hi)).1
  have q2 := fun i hi => (Bool.and_eq_true_iff.mp (q1 i hi)).2
  have p3 := fun i hi => (Bool.and_eq_true_iff.mp (q2 i hi)).1
  have q3 := fun i hi => (Bool.and_eq_true_iff.mp (q2 i hi)).2
  have p4 := fun i hi => (Bool.and_eq_true_iff.mp (q3 i hi)).1
  have q4 := fun i hi => (Bool.and_eq_true_iff.mp (q3 i hi)).2
  have p5 := fun i hi => (Bool.and_eq_true_iff.mp (q4 i hi)).1
  have q5 := fun i hi => (Bool.and_eq_true_iff.mp (q4 i hi)).2
  have p6 := fun i hi => (Bool.and_eq_true_iff.mp (q5 i hi)).1
  have q6 := fun i hi => (Bool.and_eq_true_iff.mp (q5 i hi)).2
  have p7 := fun i hi => (Bool.and_eq_true_iff.mp (q6 i hi)).1
  have q7 := fun i hi => (Bool.and_eq_true_iff.mp (q6 i hi)).2
  have p8 := fun i hi => (Bool.and_eq_true_iff.mp (q7 i hi)).1
  have p9 := fun i hi => (Bool.and_eq_true_iff.mp (q7 i hi)).2
  have na : ∀ i, i < 16 → ∀ n ∈ psOf i, findIn K (.ref (C i)) n = some none := fun i hi n hn => by
    have s := range_all h3 i hi
    obtain ⟨_, s⟩ := Bool.and_eq_true_iff.mp s
    obtain ⟨_, s⟩ := Bool.and_eq_true_iff.mp s
    obtain ⟨_, s⟩ := Bool.and_eq_true_iff.mp s
    obtain ⟨s, _⟩ := Bool.and_eq_true_iff.mp s
    exact of_decide_eq_true (List.all_eq_true.mp s n hn)
  have x0' : ∀ i, 16 ≤ i → i < 20 → excIn K (C i) veB "ValueError.__new__" = true := fun i h16 h20 => by
    have q := range_all h4 (i - 16) (by omega)
    have e : 16 + (i - 16) = i := by omega
    have q' : excIn K (C (16 + (i - 16))) veB "ValueError.__new__" = true := q
    rw [e] at q'
    exact q'
  have na' : ∀ i, i < 16 → findIn K (.ref (C i)) (wd i) = some none := fun i hi => na i hi _ (by
    unfold psOf
    split
    · rename_i e
      rw [e]
      exact List.mem_cons_self
    · exact List.mem_cons_self)
  exact { g_InvalidText := g.g0, g_InvalidProgram := g.g1, g_InvalidTree := g.g2, g_InvalidNumber := g.g3, g_InvalidName := g.g4, g_InvalidFrame := g.g5, g_InvalidGivens := g.g6, g_InvalidSum := g.g7, g_InvalidCode := g.g8, g_InvalidTable := g.g9, g_InvalidLine := g.g10, g_NotADesk := g.g11, g_NotWellRead := g.g12, g_InvalidRows := g.g13, g_InvalidDeed := g.g14, g_Barred := g.g15, g_NothingToUndo := g.g16, g_NotFree := g.g17, g_NoForm := g.g18, g_TooGreat := g.g19, g_FrameError := g.gF, no := g.no, kC := p2, kF := f2, ei := fun i hi => ei_of (p1 i hi), eiF := ei_of f1, kit := fun i j hi hj => of_decide_eq_true (range_all (p3 i hi) j hj), kitF := fun j hj => of_decide_eq_true (p4 j hj), sub := fun i hi => of_decide_eq_true (p5 i hi), subF := of_decide_eq_true f3, ve := fun i hi => of_decide_eq_true (p6 i hi), veF := of_decide_eq_true f4, ot := fun i hi => of_decide_eq_true (p7 i hi), otF := of_decide_eq_true f5, ni := p8, exm := fun i hi => of_decide_eq_true (p9 i hi), na := na', nw := na 12 (by decide) "word" (by decide), m1 := fun i hi n => (m1 i hi n).1, m1k := fun i hi n => (m1 i hi n).2, m2 := m2.1, m2k := m2.2, x0 := x0', xF := f6 }
def nth (l : List Addr) (i : Nat) : Addr := l.getD i 0
def noB (K : Frag) : Bool := (["len", "int", "abs", "range", "max", "min", "all", "isinstance", "repr", "super", "ValueError", "LookupError", "ArithmeticError", "TypeError", "AttributeError", "RuntimeError"] : List Str).all fun x => decide (nsIn K mainGlobals x = some none)
def dfB (K : Frag) (l : List (Addr × Value × Str)) : Bool := l.all fun p => codeIn K p.2.1 p.2.2 && keepIn K (.ref p.1)
theorem range_df {K : Frag} {l : List (Addr × Value × Str)} (h : dfB K l = true) (i : Nat) (hi : i < l.length) {p : Addr × Value × Str} (e : l[i] = p) : codeIn K p.2.1 p.2.2 = true ∧ keepIn K (.ref p.1) = true := by
  have q := List.all_eq_true.mp h l[i] (List.getElem_mem hi)
  rw [e] at q
  exact Bool.and_eq_true_iff.mp q
theorem all_mk {w : World} {K : Frag} {h : Heap} {mg : Str → Option Value} {fa : Addr} (X : K.In h) (G : h.Ns mainGlobals mg) (hfa : mg "law" = some (.ref fa)) {cF : Addr} {c0 c1 c2 c3 c4 c5 c6 c7 c8 c9 c10 c11 c12 c13 c14 c15 c16 c17 c18 c19 : Addr} {i0 i1 i2 i3 i4 i5 i6 i7 i8 i9 i10 i11 i12 i13 i14 i15 : Addr} {f0 f1 f2 f3 f4 f5 f6 f7 f8 f9 f10 : Addr}
    {qu0 : Str} {oc0 : Value} {od0 : Option Addr} {kV0 doc0 pm0 : Value} {an0 : Option Addr} {cda0 : Addr} {ct0 : Value} {osl0 : Array (Option Value)} {cc0 : Addr}
    {qu1 : Str} {oc1 : Value} {od1 : Option Addr} {kV1 doc1 pm1 : Value} {an1 : Option Addr} {cda1 : Addr} {ct1 : Value} {osl1 : Array (Option Value)} {cc1 : Addr}
    {qu2 : Str} {oc2 : Value} {od2 : Option Addr} {kV2 doc2 pm2 : Value} {an2 : Option Addr} {cda2 : Addr} {ct2 : Value} {osl2 : Array (Option Value)} {cc2 : Addr}
    {qu3 : Str} {oc3 : Value} {od3 : Option Addr} {kV3 doc3 pm3 : Value} {an3 : Option Addr} {cda3 : Addr} {ct3 : Value} {osl3 : Array (Option Value)} {cc3 : Addr}
    {qu4 : Str} {oc4 : Value} {od4 : Option Addr} {kV4 doc4 pm4 : Value} {an4 : Option Addr} {cda4 : Addr} {ct4 : Value} {osl4 : Array (Option Value)} {cc4 : Addr}
    {qu5 : Str} {oc5 : Value} {od5 : Option Addr} {kV5 doc5 pm5 : Value} {an5 : Option Addr} {cda5 : Addr} {ct5 : Value} {osl5 : Array (Option Value)} {cc5 : Addr}
    {qu6 : Str} {oc6 : Value} {od6 : Option Addr} {kV6 doc6 pm6 : Value} {an6 : Option Addr} {cda6 : Addr} {ct6 : Value} {osl6 : Array (Option Value)} {cc6 : Addr}
    {qu7 : Str} {oc7 : Value} {od7 : Option Addr} {kV7 doc7 pm7 : Value} {an7 : Option Addr} {cda7 : Addr} {ct7 : Value} {osl7 : Array (Option Value)} {cc7 : Addr}
    {qu8 : Str} {oc8 : Value} {od8 : Option Addr} {kV8 doc8 pm8 : Value} {an8 : Option Addr} {cda8 : Addr} {ct8 : Value} {osl8 : Array (Option Value)} {cc8 : Addr}
    {qu9 : Str} {oc9 : Value} {od9 : Option Addr} {kV9 doc9 pm9 : Value} {an9 : Option Addr} {cda9 : Addr} {ct9 : Value} {osl9 : Array (Option Value)} {cc9 : Addr}
    {qu10 : Str} {oc10 : Value} {od10 : Option Addr} {kV10 doc10 pm10 : Value} {an10 : Option Addr} {cda10 : Addr} {ct10 : Value} {osl10 : Array (Option Value)} {cc10 : Addr}
    {qu11 : Str} {oc11 : Value} {od11 : Option Addr} {kV11 doc11 pm11 : Value} {an11 : Option Addr} {cda11 : Addr} {ct11 : Value} {osl11 : Array (Option Value)} {cc11 : Addr}
    {qu12 : Str} {oc12 : Value} {od12 : Option Addr} {kV12 doc12 pm12 : Value} {an12 : Option Addr} {cda12 : Addr} {ct12 : Value} {osl12 : Array (Option Value)} {cc12 : Addr}
    {qu13 : Str} {oc13 : Value} {od13 : Option Addr} {kV13 doc13 pm13 : Value} {an13 : Option Addr} {cda13 : Addr} {ct13 : Value} {osl13 : Array (Option Value)} {cc13 : Addr}
    {qu14 : Str} {oc14 : Value} {od14 : Option Addr} {kV14 doc14 pm14 : Value} {an14 : Option Addr} {cda14 : Addr} {ct14 : Value} {osl14 : Array (Option Value)} {cc14 : Addr}
    {qu15 : Str} {oc15 : Value} {od15 : Option Addr} {kV15 doc15 pm15 : Value} {an15 : Option Addr} {cda15 : Addr} {ct15 : Value} {osl15 : Array (Option Value)} {cc15 : Addr}
    {oC0 kW0 dC0 pM0 cD0 cT0 : Value} {oD0 aN0 : Option Addr} {sL0 : Array (Option Value)}
    {oC1 kW1 dC1 pM1 cD1 cT1 : Value} {oD1 aN1 : Option Addr} {sL1 : Array (Option Value)}
    {oC2 kW2 dC2 pM2 cD2 cT2 : Value} {oD2 aN2 : Option Addr} {sL2 : Array (Option Value)}
    {oC3 kW3 dC3 pM3 cD3 cT3 : Value} {oD3 aN3 : Option Addr} {sL3 : Array (Option Value)}
    {oC4 kW4 dC4 pM4 cD4 cT4 : Value} {oD4 aN4 : Option Addr} {sL4 : Array (Option Value)}
    {oC5 kW5 dC5 pM5 cD5 cT5 : Value} {oD5 aN5 : Option Addr} {sL5 : Array (Option Value)}
    {oC6 kW6 dC6 pM6 cD6 cT6 : Value} {oD6 aN6 : Option Addr} {sL6 : Array (Option Value)}
    {oC7 kW7 dC7 pM7 cD7 cT7 : Value} {oD7 aN7 : Option Addr} {sL7 : Array (Option Value)}
    {oC8 kW8 dC8 pM8 cD8 cT8 : Value} {oD8 aN8 : Option Addr} {sL8 : Array (Option Value)}
    {oC9 kW9 dC9 pM9 cD9 cT9 : Value} {oD9 aN9 : Option Addr} {sL9 : Array (Option Value)}
    {oC10 kW10 dC10 pM10 cD10 cT10 : Value} {oD10 aN10 : Option Addr} {sL10 : Array (Option Value)}
    (aF : nsIn K mainGlobals "FrameError" = some (some (.ref cF)))
    (a0 : nsIn K mainGlobals "InvalidText" = some (some (.ref c0)))
    (a1 : nsIn K mainGlobals "InvalidProgram" = some (some (.ref c1)))
    (a2 : nsIn K mainGlobals "InvalidTree" = some (some (.ref c2)))
    (a3 : nsIn K mainGlobals "InvalidNumber" = some (some (.ref c3)))
    (a4 : nsIn K mainGlobals "InvalidName" = some (some (.ref c4)))
    (a5 : nsIn K mainGlobals "InvalidFrame" = some (some (.ref c5)))
    (a6 : nsIn K mainGlobals "InvalidGivens" = some (some (.ref c6)))
    (a7 : nsIn K mainGlobals "InvalidSum" = some (some (.ref c7)))
    (a8 : nsIn K mainGlobals "InvalidCode" = some (some (.ref c8)))
    (a9 : nsIn K mainGlobals "InvalidTable" = some (some (.ref c9)))
    (a10 : nsIn K mainGlobals "InvalidLine" = some (some (.ref c10)))
    (a11 : nsIn K mainGlobals "NotADesk" = some (some (.ref c11)))
    (a12 : nsIn K mainGlobals "NotWellRead" = some (some (.ref c12)))
    (a13 : nsIn K mainGlobals "InvalidRows" = some (some (.ref c13)))
    (a14 : nsIn K mainGlobals "InvalidDeed" = some (some (.ref c14)))
    (a15 : nsIn K mainGlobals "Barred" = some (some (.ref c15)))
    (a16 : nsIn K mainGlobals "NothingToUndo" = some (some (.ref c16)))
    (a17 : nsIn K mainGlobals "NotFree" = some (some (.ref c17)))
    (a18 : nsIn K mainGlobals "NoForm" = some (some (.ref c18)))
    (a19 : nsIn K mainGlobals "TooGreat" = some (some (.ref c19)))
    (b0 : findIn K (.ref c0) "__init__" = some (some (.ref i0))) (l0 : K.lookup i0 = some ⟨oc0, od0, .func (fnX "__init__" qu0 (defArgs (sIn 0)) (defBody (sIn 0)) (defScope (sIn 0)) [("__class__", cc0)] .none kV0 doc0 pm0 an0 (.ref cda0) ct0), osl0⟩)
    (b1 : findIn K (.ref c1) "__init__" = some (some (.ref i1))) (l1 : K.lookup i1 = some ⟨oc1, od1, .func (fnX "__init__" qu1 (defArgs (sIn 1)) (defBody (sIn 1)) (defScope (sIn 1)) [("__class__", cc1)] .none kV1 doc1 pm1 an1 (.ref cda1) ct1), osl1⟩)
    (b2 : findIn K (.ref c2) "__init__" = some (some (.ref i2))) (l2 : K.lookup i2 = some ⟨oc2, od2, .func (fnX "__init__" qu2 (defArgs (sIn 2)) (defBody (sIn 2)) (defScope (sIn 2)) [("__class__", cc2)] .none kV2 doc2 pm2 an2 (.ref cda2) ct2), osl2⟩)
    (b3 : findIn K (.ref c3) "__init__" = some (some (.ref i3))) (l3 : K.lookup i3 = some ⟨oc3, od3, .func (fnX "__init__" qu3 (defArgs (sIn 3)) (defBody (sIn 3)) (defScope (sIn 3)) [("__class__", cc3)] .none kV3 doc3 pm3 an3 (.ref cda3) ct3), osl3⟩)
    (b4 : findIn K (.ref c4) "__init__" = some (some (.ref i4))) (l4 : K.lookup i4 = some ⟨oc4, od4, .func (fnX "__init__" qu4 (defArgs (sIn 4)) (defBody (sIn 4)) (defScope (sIn 4)) [("__class__", cc4)] .none kV4 doc4 pm4 an4 (.ref cda4) ct4), osl4⟩)
    (b5 : findIn K (.ref c5) "__init__" = some (some (.ref i5))) (l5 : K.lookup i5 = some ⟨oc5, od5, .func (fnX "__init__" qu5 (defArgs (sIn 5)) (defBody (sIn 5)) (defScope (sIn 5)) [("__class__", cc5)] .none kV5 doc5 pm5 an5 (.ref cda5) ct5), osl5⟩)
    (b6 : findIn K (.ref c6) "__init__" = some (some (.ref i6))) (l6 : K.lookup i6 = some ⟨oc6, od6, .func (fnX "__init__" qu6 (defArgs (sIn 6)) (defBody (sIn 6)) (defScope (sIn 6)) [("__class__", cc6)] .none kV6 doc6 pm6 an6 (.ref cda6) ct6), osl6⟩)
    (b7 : findIn K (.ref c7) "__init__" = some (some (.ref i7))) (l7 : K.lookup i7 = some ⟨oc7, od7, .func (fnX "__init__" qu7 (defArgs (sIn 7)) (defBody (sIn 7)) (defScope (sIn 7)) [("__class__", cc7)] .none kV7 doc7 pm7 an7 (.ref cda7) ct7), osl7⟩)
    (b8 : findIn K (.ref c8) "__init__" = some (some (.ref i8))) (l8 : K.lookup i8 = some ⟨oc8, od8, .func (fnX "__init__" qu8 (defArgs (sIn 8)) (defBody (sIn 8)) (defScope (sIn 8)) [("__class__", cc8)] .none kV8 doc8 pm8 an8 (.ref cda8) ct8), osl8⟩)
    (b9 : findIn K (.ref c9) "__init__" = some (some (.ref i9))) (l9 : K.lookup i9 = some ⟨oc9, od9, .func (fnX "__init__" qu9 (defArgs (sIn 9)) (defBody (sIn 9)) (defScope (sIn 9)) [("__class__", cc9)] .none kV9 doc9 pm9 an9 (.ref cda9) ct9), osl9⟩)
    (b10 : findIn K (.ref c10) "__init__" = some (some (.ref i10))) (l10 : K.lookup i10 = some ⟨oc10, od10, .func (fnX "__init__" qu10 (defArgs (sIn 10)) (defBody (sIn 10)) (defScope (sIn 10)) [("__class__", cc10)] .none kV10 doc10 pm10 an10 (.ref cda10) ct10), osl10⟩)
    (b11 : findIn K (.ref c11) "__init__" = some (some (.ref i11))) (l11 : K.lookup i11 = some ⟨oc11, od11, .func (fnX "__init__" qu11 (defArgs (sIn 11)) (defBody (sIn 11)) (defScope (sIn 11)) [("__class__", cc11)] .none kV11 doc11 pm11 an11 (.ref cda11) ct11), osl11⟩)
    (b12 : findIn K (.ref c12) "__init__" = some (some (.ref i12))) (l12 : K.lookup i12 = some ⟨oc12, od12, .func (fnX "__init__" qu12 (defArgs (sIn 12)) (defBody (sIn 12)) (defScope (sIn 12)) [("__class__", cc12)] .none kV12 doc12 pm12 an12 (.ref cda12) ct12), osl12⟩)
    (b13 : findIn K (.ref c13) "__init__" = some (some (.ref i13))) (l13 : K.lookup i13 = some ⟨oc13, od13, .func (fnX "__init__" qu13 (defArgs (sIn 13)) (defBody (sIn 13)) (defScope (sIn 13)) [("__class__", cc13)] .none kV13 doc13 pm13 an13 (.ref cda13) ct13), osl13⟩)
    (b14 : findIn K (.ref c14) "__init__" = some (some (.ref i14))) (l14 : K.lookup i14 = some ⟨oc14, od14, .func (fnX "__init__" qu14 (defArgs (sIn 14)) (defBody (sIn 14)) (defScope (sIn 14)) [("__class__", cc14)] .none kV14 doc14 pm14 an14 (.ref cda14) ct14), osl14⟩)
    (b15 : findIn K (.ref c15) "__init__" = some (some (.ref i15))) (l15 : K.lookup i15 = some ⟨oc15, od15, .func (fnX "__init__" qu15 (defArgs (sIn 15)) (defBody (sIn 15)) (defScope (sIn 15)) [("__class__", cc15)] .none kV15 doc15 pm15 an15 (.ref cda15) ct15), osl15⟩)
    (d0 : nsIn K mainGlobals "_law_purse" = some (some (.ref f0))) (m0 : K.lookup f0 = some ⟨oC0, oD0, .func (PySem.W.fnOf "_law_purse" "_law_purse" (defArgs sPurse) (defBody sPurse) (defScope sPurse) .none kW0 dC0 pM0 aN0 cD0 cT0), sL0⟩)
    (d1 : nsIn K mainGlobals "_law_take" = some (some (.ref f1))) (m1 : K.lookup f1 = some ⟨oC1, oD1, .func (PySem.W.fnOf "_law_take" "_law_take" (defArgs sTake) (defBody sTake) (defScope sTake) .none kW1 dC1 pM1 aN1 cD1 cT1), sL1⟩)
    (d2 : nsIn K mainGlobals "_law_pick" = some (some (.ref f2))) (m2 : K.lookup f2 = some ⟨oC2, oD2, .func (PySem.W.fnOf "_law_pick" "_law_pick" (defArgs sPick) (defBody sPick) (defScope sPick) .none kW2 dC2 pM2 aN2 cD2 cT2), sL2⟩)
    (d3 : nsIn K mainGlobals "_law_given_ones" = some (some (.ref f3))) (m3 : K.lookup f3 = some ⟨oC3, oD3, .func (PySem.W.fnOf "_law_given_ones" "_law_given_ones" (defArgs sGiv) (defBody sGiv) (defScope sGiv) .none kW3 dC3 pM3 aN3 cD3 cT3), sL3⟩)
    (d4 : nsIn K mainGlobals "_law_index_ones" = some (some (.ref f4))) (m4 : K.lookup f4 = some ⟨oC4, oD4, .func (PySem.W.fnOf "_law_index_ones" "_law_index_ones" (defArgs sIdx) (defBody sIdx) (defScope sIdx) .none kW4 dC4 pM4 aN4 cD4 cT4), sL4⟩)
    (d5 : nsIn K mainGlobals "_law_kinds" = some (some (.ref f5))) (m5 : K.lookup f5 = some ⟨oC5, oD5, .func (PySem.W.fnOf "_law_kinds" "_law_kinds" (defArgs sKinds) (defBody sKinds) (defScope sKinds) .none kW5 dC5 pM5 aN5 cD5 cT5), sL5⟩)
    (d6 : nsIn K mainGlobals "_law_kept" = some (some (.ref f6))) (m6 : K.lookup f6 = some ⟨oC6, oD6, .func (PySem.W.fnOf "_law_kept" "_law_kept" (defArgs sKept) (defBody sKept) (defScope sKept) .none kW6 dC6 pM6 aN6 cD6 cT6), sL6⟩)
    (d7 : nsIn K mainGlobals "_law_is_plain" = some (some (.ref f7))) (m7 : K.lookup f7 = some ⟨oC7, oD7, .func (PySem.W.fnOf "_law_is_plain" "_law_is_plain" (defArgs sPlain) (defBody sPlain) (defScope sPlain) .none kW7 dC7 pM7 aN7 cD7 cT7), sL7⟩)
    (d8 : nsIn K mainGlobals "_law_is_caught" = some (some (.ref f8))) (m8 : K.lookup f8 = some ⟨oC8, oD8, .func (PySem.W.fnOf "_law_is_caught" "_law_is_caught" (defArgs sCau) (defBody sCau) (defScope sCau) .none kW8 dC8 pM8 aN8 cD8 cT8), sL8⟩)
    (d9 : nsIn K mainGlobals "_law_right" = some (some (.ref f9))) (m9 : K.lookup f9 = some ⟨oC9, oD9, .func (PySem.W.fnOf "_law_right" "_law_right" (defArgs sRight) (defBody sRight) (defScope sRight) .none kW9 dC9 pM9 aN9 cD9 cT9), sL9⟩)
    (d10 : nsIn K mainGlobals "law" = some (some (.ref f10))) (m10 : K.lookup f10 = some ⟨oC10, oD10, .func (PySem.W.fnOf "law" "law" (defArgs sLaw) (defBody sLaw) (defScope sLaw) .none kW10 dC10 pM10 aN10 cD10 cT10), sL10⟩)
    (z1 : noB K = true) (z2 : allB K (nth [c0, c1, c2, c3, c4, c5, c6, c7, c8, c9, c10, c11, c12, c13, c14, c15, c16, c17, c18, c19]) (nth [i0, i1, i2, i3, i4, i5, i6, i7, i8, i9, i10, i11, i12, i13, i14, i15]) cF = true)
    (z3 : (inB K qu0 cda0 cc0 c0 && inB K qu1 cda1 cc1 c1 && inB K qu2 cda2 cc2 c2 && inB K qu3 cda3 cc3 c3 && inB K qu4 cda4 cc4 c4 && inB K qu5 cda5 cc5 c5 && inB K qu6 cda6 cc6 c6 && inB K qu7 cda7 cc7 c7 && inB K qu8 cda8 cc8 c8 && inB K qu9 cda9 cc9 c9 && inB K qu10 cda10 cc10 c10 && inB K qu11 cda11 cc11 c11 && inB K qu12 cda12 cc12 c12 && inB K qu13 cda13 cc13 c13 && inB K qu14 cda14 cc14 c14 && inB K qu15 cda15 cc15 c15) = true)
    (z4 : dfB K [(f0, cD0, "_law_purse"), (f1, cD1, "_law_take"), (f2, cD2, "_law_pick"), (f3, cD3, "_law_given_ones"), (f4, cD4, "_law_index_ones"), (f5, cD5, "_law_kinds"), (f6, cD6, "_law_kept"), (f7, cD7, "_law_is_plain"), (f8, cD8, "_law_is_caught"), (f9, cD9, "_law_right"), (f10, cD10, "law")] = true) :
    ∃ fd : FuncData, (∀ (s : Shared) (u : Value), BindsTo s fd ⟨[u], []⟩ [("cells", u)]) ∧ ∀ base : Heap, K.In base → base.Ns mainGlobals mg → FnG prg w K mg base 5 fa fd ["cells"] (spLaw K) := by
  have e := hfa.symm.trans (PySem.W.mg_of X G d10)
  cases e
  have nn : ∀ x ∈ (["len", "int", "abs", "range", "max", "min", "all", "isinstance", "repr", "super", "ValueError", "LookupError", "ArithmeticError", "TypeError", "AttributeError", "RuntimeError"] : List Str), mg x = none := fun x hx => PySem.W.mg_none_of X G (of_decide_eq_true (List.all_eq_true.mp z1 x hx))
  have N : Nms mg := ⟨nn _ (by decide), nn _ (by decide), nn _ (by decide), nn _ (by decide), nn _ (by decide), nn _ (by decide), nn _ (by decide), nn _ (by decide), nn _ (by decide), nn _ (by decide), nn _ (by decide), nn _ (by decide), nn _ (by decide), nn _ (by decide), nn _ (by decide), nn _ (by decide)⟩
  have g : Nams mg (nth [c0, c1, c2, c3, c4, c5, c6, c7, c8, c9, c10, c11, c12, c13, c14, c15, c16, c17, c18, c19]) cF := ⟨PySem.W.mg_of X G a0, PySem.W.mg_of X G a1, PySem.W.mg_of X G a2, PySem.W.mg_of X G a3, PySem.W.mg_of X G a4, PySem.W.mg_of X G a5, PySem.W.mg_of X G a6, PySem.W.mg_of X G a7, PySem.W.mg_of X G a8, PySem.W.mg_of X G a9, PySem.W.mg_of X G a10, PySem.W.mg_of X G a11, PySem.W.mg_of X G a12, PySem.W.mg_of X G a13, PySem.W.mg_of X G a14, PySem.W.mg_of X G a15, PySem.W.mg_of X G a16, PySem.W.mg_of X G a17, PySem.W.mg_of X G a18, PySem.W.mg_of X G a19, PySem.W.mg_of X G aF, N.n_super⟩
  have sb := (Bool.and_eq_true_iff.mp (Bool.and_eq_true_iff.mp (Bool.and_eq_true_iff.mp z2).2).2).1
  simp only [Bool.and_eq_true] at z3
  obtain ⟨⟨⟨⟨⟨⟨⟨⟨⟨⟨⟨⟨⟨⟨⟨z3_0, z3_1⟩, z3_2⟩, z3_3⟩, z3_4⟩, z3_5⟩, z3_6⟩, z3_7⟩, z3_8⟩, z3_9⟩, z3_10⟩, z3_11⟩, z3_12⟩, z3_13⟩, z3_14⟩, z3_15⟩ := z3
  have s0 : SuC K prg c0 i0 ["given"] (sIn 0) := su_of (range_all sb 0 (by decide)) z3_0 l0
  have s1 : SuC K prg c1 i1 ["given"] (sIn 1) := su_of (range_all sb 1 (by decide)) z3_1 l1
  have s2 : SuC K prg c2 i2 ["given"] (sIn 2) := su_of (range_all sb 2 (by decide)) z3_2 l2
  have s3 : SuC K prg c3 i3 ["given"] (sIn 3) := su_of (range_all sb 3 (by decide)) z3_3 l3
  have s4 : SuC K prg c4 i4 ["given"] (sIn 4) := su_of (range_all sb 4 (by decide)) z3_4 l4
  have s5 : SuC K prg c5 i5 ["given"] (sIn 5) := su_of (range_all sb 5 (by decide)) z3_5 l5
  have s6 : SuC K prg c6 i6 ["given"] (sIn 6) := su_of (range_all sb 6 (by decide)) z3_6 l6
  have s7 : SuC K prg c7 i7 ["given"] (sIn 7) := su_of (range_all sb 7 (by decide)) z3_7 l7
  have s8 : SuC K prg c8 i8 ["given"] (sIn 8) := su_of (range_all sb 8 (by decide)) z3_8 l8
  have s9 : SuC K prg c9 i9 ["given"] (sIn 9) := su_of (range_all sb 9 (by decide)) z3_9 l9
  have s10 : SuC K prg c10 i10 ["given"] (sIn 10) := su_of (range_all sb 10 (by decide)) z3_10 l10
  have s11 : SuC K prg c11 i11 ["given"] (sIn 11) := su_of (range_all sb 11 (by decide)) z3_11 l11
  have s12 : SuC K prg c12 i12 ["row", "word"] (sIn 12) := su_of (range_all sb 12 (by decide)) z3_12 l12
  have s13 : SuC K prg c13 i13 ["index"] (sIn 13) := su_of (range_all sb 13 (by decide)) z3_13 l13
  have s14 : SuC K prg c14 i14 ["index"] (sIn 14) := su_of (range_all sb 14 (by decide)) z3_14 l14
  have s15 : SuC K prg c15 i15 ["reason"] (sIn 15) := su_of (range_all sb 15 (by decide)) z3_15 l15
  have T : Cls w K mg (nth [c0, c1, c2, c3, c4, c5, c6, c7, c8, c9, c10, c11, c12, c13, c14, c15, c16, c17, c18, c19]) cF := by
    refine cls_mk z2 g (fun i hi n => ?_) (mk2_of s12 N.n_super)
    match i, hi, n with
    | 0, _, _ => exact mk1_of s0 st1_0 N.n_super
    | 1, _, _ => exact mk1_of s1 st1_1 N.n_super
    | 2, _, _ => exact mk1_of s2 st1_2 N.n_super
    | 3, _, _ => exact mk1_of s3 st1_3 N.n_super
    | 4, _, _ => exact mk1_of s4 st1_4 N.n_super
    | 5, _, _ => exact mk1_of s5 st1_5 N.n_super
    | 6, _, _ => exact mk1_of s6 st1_6 N.n_super
    | 7, _, _ => exact mk1_of s7 st1_7 N.n_super
    | 8, _, _ => exact mk1_of s8 st1_8 N.n_super
    | 9, _, _ => exact mk1_of s9 st1_9 N.n_super
    | 10, _, _ => exact mk1_of s10 st1_10 N.n_super
    | 11, _, _ => exact mk1_of s11 st1_11 N.n_super
    | 12, _, n => exact absurd rfl n
    | 13, _, _ => exact mk1_of s13 st1_13 N.n_super
    | 14, _, _ => exact mk1_of s14 st1_14 N.n_super
    | 15, _, _ => exact mk1_of s15 st1_15 N.n_super
    | i + 16, hi, _ => exact absurd hi (by omega)
  have y0 := range_df z4 0 (by show 0 < 11; decide) rfl
  have F0 := fun_mk (st := sPurse) m0 y0.1 y0.2
  have B0 := F0.binds (ps := ["cells", "at"]) fun _ _ _ _ _ _ us hl => match us, hl with | [_, _], _ => rfl
  have y1 := range_df z4 1 (by show 1 < 11; decide) rfl
  have F1 := fun_mk (st := sTake) m1 y1.1 y1.2
  have B1 := F1.binds (ps := ["draws", "many"]) fun _ _ _ _ _ _ us hl => match us, hl with | [_, _], _ => rfl
  have y2 := range_df z4 2 (by show 2 < 11; decide) rfl
  have F2 := fun_mk (st := sPick) m2 y2.1 y2.2
  have B2 := F2.binds (ps := ["draws", "some"]) fun _ _ _ _ _ _ us hl => match us, hl with | [_, _], _ => rfl
  have y3 := range_df z4 3 (by show 3 < 11; decide) rfl
  have F3 := fun_mk (st := sGiv) m3 y3.1 y3.2
  have B3 := F3.binds (ps := ["thing"]) fun _ _ _ _ _ _ us hl => match us, hl with | [_], _ => rfl
  have y4 := range_df z4 4 (by show 4 < 11; decide) rfl
  have F4 := fun_mk (st := sIdx) m4 y4.1 y4.2
  have B4 := F4.binds (ps := ["thing"]) fun _ _ _ _ _ _ us hl => match us, hl with | [_], _ => rfl
  have y5 := range_df z4 5 (by show 5 < 11; decide) rfl
  have F5 := fun_mk (st := sKinds) m5 y5.1 y5.2
  have B5 := F5.binds (ps := ["e"]) fun _ _ _ _ _ _ us hl => match us, hl with | [_], _ => rfl
  have y6 := range_df z4 6 (by show 6 < 11; decide) rfl
  have F6 := fun_mk (st := sKept) m6 y6.1 y6.2
  have B6 := F6.binds (ps := ["word", "e"]) fun _ _ _ _ _ _ us hl => match us, hl with | [_, _], _ => rfl
  have y7 := range_df z4 7 (by show 7 < 11; decide) rfl
  have F7 := fun_mk (st := sPlain) m7 y7.1 y7.2
  have B7 := F7.binds (ps := ["e"]) fun _ _ _ _ _ _ us hl => match us, hl with | [_], _ => rfl
  have y8 := range_df z4 8 (by show 8 < 11; decide) rfl
  have F8 := fun_mk (st := sCau) m8 y8.1 y8.2
  have B8 := F8.binds (ps := ["way", "thing"]) fun _ _ _ _ _ _ us hl => match us, hl with | [_, _], _ => rfl
  have y9 := range_df z4 9 (by show 9 < 11; decide) rfl
  have F9 := fun_mk (st := sRight) m9 y9.1 y9.2
  have B9 := F9.binds (ps := ["draws"]) fun _ _ _ _ _ _ us hl => match us, hl with | [_], _ => rfl
  have y10 := range_df z4 10 (by show 10 < 11; decide) rfl
  have F10 := fun_mk (st := sLaw) m10 y10.1 y10.2
  have B10 := F10.binds (ps := ["cells"]) fun _ _ _ _ _ _ us hl => match us, hl with | [_], _ => rfl
  have cK : ClbQ prg w K mg 1 "_law_kinds" (spKinds (nth [c0, c1, c2, c3, c4, c5, c6, c7, c8, c9, c10, c11, c12, c13, c14, c15, c16, c17, c18, c19]) cF) := ⟨f5, _, _, fun base _ _ => ok_kinds F5 N T, PySem.W.mg_of X G d5, y5.2, B5⟩
  have cP : ClbQ prg w K mg 1 "_law_is_plain" (spPlain (nth [c0, c1, c2, c3, c4, c5, c6, c7, c8, c9, c10, c11, c12, c13, c14, c15, c16, c17, c18, c19]) cF) := ⟨f7, _, _, fun base _ _ => ok_plain F7 N T, PySem.W.mg_of X G d7, y7.2, B7⟩
  refine ⟨PySem.W.fnOf "law" "law" (defArgs sLaw) (defBody sLaw) (defScope sLaw) .none kW10 dC10 pM10 aN10 cD10 cT10, fun s u => .of_eq rfl, fun base Xb Nb => ?_⟩
  have k1 : Clb prg w K mg base 1 "_law_take" spTake [] := ⟨f1, _, _, [], ok_take F1 N, PySem.W.mg_of X G d1, y1.2, B1, .nil⟩
  have k2 : Clb prg w K mg base 2 "_law_pick" spPick [] := ⟨f2, _, _, [], ok_pick F2 N k1, PySem.W.mg_of X G d2, y2.2, B2, .nil⟩
  have k0 : Clb prg w K mg base 1 "_law_purse" (spPurse K) [] := ⟨f0, _, _, [], ok_purse F0 N, PySem.W.mg_of X G d0, y0.2, B0, .nil⟩
  have k3 : Clb prg w K mg base 2 "_law_given_ones" (spGiv _ 0 12) [] := ⟨f3, _, _, [], ok_giv F3 T, PySem.W.mg_of X G d3, y3.2, B3, .nil⟩
  have k4 : Clb prg w K mg base 2 "_law_index_ones" (spGiv _ 12 8) [] := ⟨f4, _, _, [], ok_idx F4 T, PySem.W.mg_of X G d4, y4.2, B4, .nil⟩
  have k6 : Clb prg w K mg base 1 "_law_kept" (spKept _) [] := ⟨f6, _, _, [], ok_kept F6 N T, PySem.W.mg_of X G d6, y6.2, B6, .nil⟩
  have k8 : Clb prg w K mg base 3 "_law_is_caught" spCau [] := ⟨f8, _, _, [], ok_cau F8 N T cK cP, PySem.W.mg_of X G d8, y8.2, B8, .nil⟩
  have k9 : Clb prg w K mg base 4 "_law_right" spRight [] := ⟨f9, _, _, [], ok_right F9 N T k1 k2 k3 k4 (cK.clb Xb Nb) (cP.clb Xb Nb) k6 k8, PySem.W.mg_of X G d9, y9.2, B9, .nil⟩
  exact ok_law F10 N k0 k9
end K1
open PySem PySem.W PyProof.Rows
set_option maxHeartbeats 0
open_top hd01 for PySem.Challenge.rw_frametongue_k01_errors_each_of_its_own
theorem PySem.Challenge.cw_frametongue_k01_errors_each_of_its_own_holds : PySem.Challenge.rw_frametongue_k01_errors_each_of_its_own.Holds := by
  refine hd01 ?_
  k_fill
  refine DL.walkG (l := PySem.Challenge.rw_frametongue_k01_errors_each_of_its_own) (n := 63) (k := 5) (x := "cells") (sp := fun K => K1.spLaw K) rfl (by decide) rfl ⟨rfl, by decide, by decide⟩ (fun w h Y => PySem.W.kIn_of Y) ?F (fun K H a ns hl hS => ⟨a, ns, rfl, hS, hl, fun _ => rfl⟩)
  case F =>
    intro w mg fa h KX G hmg
    refine' K1.all_mk KX G hmg ?aF ?a0 ?a1 ?a2 ?a3 ?a4 ?a5 ?a6 ?a7 ?a8 ?a9 ?a10 ?a11 ?a12 ?a13 ?a14 ?a15 ?a16 ?a17 ?a18 ?a19 ?b0 ?l0 ?b1 ?l1 ?b2 ?l2 ?b3 ?l3 ?b4 ?l4 ?b5 ?l5 ?b6 ?l6 ?b7 ?l7 ?b8 ?l8 ?b9 ?l9 ?b10 ?l10 ?b11 ?l11 ?b12 ?l12 ?b13 ?l13 ?b14 ?l14 ?b15 ?l15 ?d0 ?m0 ?d1 ?m1 ?d2 ?m2 ?d3 ?m3 ?d4 ?m4 ?d5 ?m5 ?d6 ?m6 ?d7 ?m7 ?d8 ?m8 ?d9 ?m9 ?d10 ?m10 ?z1 ?z2 ?z3 ?z4
    (case aF => k_is)
    (case a0 => k_is)
    (case a1 => k_is)
    (case a2 => k_is)
    (case a3 => k_is)
    (case a4 => k_is)
    (case a5 => k_is)
    (case a6 => k_is)
    (case a7 => k_is)
    (case a8 => k_is)
    (case a9 => k_is)
    (case a10 => k_is)
    (case a11 => k_is)
    (case a12 => k_is)
    (case a13 => k_is)
    (case a14 => k_is)
    (case a15 => k_is)
    (case a16 => k_is)
    (case a17 => k_is)
    (case a18 => k_is)
    (case a19 => k_is)
    (case b0 => k_is)
    (case l0 => k_is)
    (case b1 => k_is)
    (case l1 => k_is)
    (case b2 => k_is)
    (case l2 => k_is)
    (case b3 => k_is)
    (case l3 => k_is)
    (case b4 => k_is)
    (case l4 => k_is)
    (case b5 => k_is)
    (case l5 => k_is)
    (case b6 => k_is)
    (case l6 => k_is)
    (case b7 => k_is)
    (case l7 => k_is)
    (case b8 => k_is)
    (case l8 => k_is)
    (case b9 => k_is)
    (case l9 => k_is)
    (case b10 => k_is)
    (case l10 => k_is)
    (case b11 => k_is)
    (case l11 => k_is)
    (case b12 => k_is)
    (case l12 => k_is)
    (case b13 => k_is)
    (case l13 => k_is)
    (case b14 => k_is)
    (case l14 => k_is)
    (case b15 => k_is)
    (case l15 => k_is)
    (case d0 => k_is)
    (case m0 => k_is)
    (case d1 => k_is)
    (case m1 => k_is)
    (case d2 => k_is)
    (case m2 => k_is)
    (case d3 => k_is)
    (case m3 => k_is)
    (case d4 => k_is)
    (case m4 => k_is)
    (case d5 => k_is)
    (case m5 => k_is)
    (case d6 => k_is)
    (case m6 => k_is)
    (case d7 => k_is)
    (case m7 => k_is)
    (case d8 => k_is)
    (case m8 => k_is)
    (case d9 => k_is)
    (case m9 => k_is)
    (case d10 => k_is)
    (case m10 => k_is)
    (case z1 => kernel_rfl)
    (case z2 => kernel_rfl)
    (case z3 => kernel_rfl)
    (case z4 => kernel_rfl)
