import PyProof.Rows.All
import Wide.All
import OpenK.AllK
import Wide.FinOn
import HandS.ForMost
import HandS.Codes
import HandS.ExcInit
import HandS.ExcField
import HandS.ExcIs
import HandS.ExcValue
import KE.KExcSuper
import HandS.IsInst
import HandS.ExcOwn
import HandS.HotCalls
import KE.KExcIs
import PyProof.ReprRoads
import PyProof.CallFns
import HandS.RaiseMore
import PySem.Challenge.RW_frametongue_k11_desks_undone_and_equal
import HandS.OwnEq
import HandS.DictSub
import HandS.TupAny
import HandS.TupMul
import HandS.Defaults
import HandS.MakeKw
import PyProof.Draws
import PyProof.EnumMake
import HandS.Iter
import HandS.GenYield
import HandS.Style
import KE.KRevSl
import PyProof.StrOps2
import PyProof.ListStr
import HandS.Lambda
import HandS.Nested
import HandS.TryMany
import HandS.Steps
import HandS.WordsExc
import HandS.More
import HandS.Wide
import HandS.NoneIn
import PyProof.StrLawsRepr
import HandS.Records
import HandS.Words
import HandS.Head0
import HandS.Head3
import Open.Pieces
import HandS.Head1
import HandS.HeadHook3
set_option Elab.async false
set_option linter.all false
set_option maxRecDepth 100000
set_option maxHeartbeats 4000000
/-! DL0: defs that run where no repr is under way (guards = some []): their promise, their body, their call, the law's end. -/
namespace DL
open PySem PySem.Spec L2
open PyProof.Rows hiding St

/-- what a def keeps where no repr is under way -/
structure FnG (P : Program) (w : World) (K : PySem.W.Frag) (mg : Str → Option Value) (base : Heap) (k : Nat) (f : Addr) (fd : FuncData) (ps : List Str) (sp : Sp) : Prop where
  size : ∀ vs H Q E, sp vs H Q E → vs.length = ps.length
  goes : ∀ (A : Around) (outer : List Env) (s : Shared) (H : Hp) (args : Args) (us : List Value) (vs : List V) (Q : VK) (E : XK), Room k A → A.guards = some [] → Env0 P w K mg base A outer s H →
    BindsTo s fd args (ps.zip us) → Vals vs us → sp vs H Q E → codeAny (model P w) A (.call (.ref f) args) (CR CX0 outer P w H s Q E) s

section
variable {P : Program} {w : World} {K : PySem.W.Frag} {mg : Str → Option Value} {base : Heap}
/-- a def by its body, its code object told -/
theorem fnG_mk0 {x qual : Str} {st : Stmt} {f : Addr} {fd : FuncData} {N ps : List Str} {k : Nat} {sp : Sp} (F : Fun K x qual st f fd) (S : FnScope N ps (defScope st)) (len : ∀ vs H Q E, sp vs H Q E → vs.length = ps.length)
    (body : ∀ (cdv : Value), fd.code = cdv → ∀ (A : Around) (outer : List Env) (s : Shared) (H : Hp) (vs : List V) (Q : VK) (E : XK), Room k (A.deeper (envOfC qual (defScope st) s.heap.objs.size f cdv)) → (A.deeper (envOfC qual (defScope st) s.heap.objs.size f cdv)).guards = some [] → sp vs H Q E →
      ∃ t, PSs (cxOf CX0 P w K mg base N qual (defScope st) f cdv A outer s H E).nox (defBody st) t ∧ t { nx := fun _ H' => Q .non H', rt := Q } (start N vs) H) : FnG P w K mg base (k + 1) f fd ps sp := by
  obtain ⟨oc, od, kV, doc, pm, an, cdv, ct, osl, rfl, look, code⟩ := F.ex
  refine ⟨len, fun A outer s H args us vs Q E room gd e0 bnd vals told => ?_⟩
  have lens := len _ _ _ _ told
  have inK : K.In s.heap := e0.mod.kin.keeps fun b o e => (e0.bs b o e).1
  have nol : s.heap.NoLimit := e0.mod.nolimit.keeps fun b o e => (e0.bs b o e).1
  have kinds : ∀ y ∈ ps.zip us, (defScope st).names.lookup y.1 = some .local ∨ ((defScope st).names.lookup y.1 = some .cell ∧ ((cellsFrom (s.heap.objs.size + 1) (defScope st).names []).lookup y.1).isSome = true) := by
    rintro ⟨n, v⟩ hy
    cases S.par n (List.of_mem_zip hy).1 with
    | inl q => exact .inl q
    | inr q => exact .inr ⟨q, PySem.W.cellsFrom_some _ _ _ (.inl q)⟩
  refine codeAny_call_function room.depth (inK _ _ look) rfl S.co S.gen rfl (PySem.W.codeRec_of inK code) ?_
  refine bnd _ _ _ _ (wpAny_newFunctionEnv_cells S.kind kinds fun env he s1 x => ?_)
  subst he
  refine ⟨nol.keeps x.toInCall.keep, codeAny_func ?_⟩
  obtain ⟨t, ht, hq⟩ := body cdv rfl A outer s H vs Q E (room.deeper _) gd told
  have I : Inv (cxOf CX0 P w K mg base N qual (defScope st) f cdv A outer s H E) [] (start N vs) H s1 := inv_start S room.hd e0 lens vals x
  refine wpAny_mono (ht.nox.run [] s1 (start N vs) H _ I hq) (fun fl s' hs => ?_) fun _ _ hs => hs
  cases fl with
  | ret u =>
    obtain ⟨v, σ', H', J, rv, q⟩ := hs
    exact ⟨v, H', J.os, J.bare, J.base, J.hok, rv, q⟩
  | next =>
    obtain ⟨σ', H', J, q⟩ := hs
    exact ⟨V.non, H', J.os, J.bare, J.base, J.hok, rfl, q⟩
  | brk =>
    obtain ⟨_, _, _, q⟩ := hs
    exact q.elim
  | cont =>
    obtain ⟨_, _, _, q⟩ := hs
    exact q.elim
/-- a def by its body -/
theorem fnG_mk {x qual : Str} {st : Stmt} {f : Addr} {fd : FuncData} {N ps : List Str} {k : Nat} {sp : Sp} (F : Fun K x qual st f fd) (S : FnScope N ps (defScope st)) (len : ∀ vs H Q E, sp vs H Q E → vs.length = ps.length)
    (body : ∀ (cdv : Value) (A : Around) (outer : List Env) (s : Shared) (H : Hp) (vs : List V) (Q : VK) (E : XK), Room k (A.deeper (envOfC qual (defScope st) s.heap.objs.size f cdv)) → (A.deeper (envOfC qual (defScope st) s.heap.objs.size f cdv)).guards = some [] → sp vs H Q E →
      ∃ t, PSs (cxOf CX0 P w K mg base N qual (defScope st) f cdv A outer s H E).nox (defBody st) t ∧ t { nx := fun _ H' => Q .non H', rt := Q } (start N vs) H) : FnG P w K mg base (k + 1) f fd ps sp := fnG_mk0 F S len fun cdv _ => body cdv
theorem FnG.up {j k : Nat} {f : Addr} {fd : FuncData} {ps : List Str} {sp : Sp} (F : FnG P w K mg base j f fd ps sp) (h : j ≤ k) : FnG P w K mg base k f fd ps sp :=
  ⟨F.size, fun A outer s H args us vs Q E hr => F.goes A outer s H args us vs Q E (hr.mono h)⟩
end

section
variable {X : Cx} {k : Nat} {f : Addr} {fd : FuncData} {ps : List Str} {sp : Sp} {dvs : List V} {ds : List Value} {x : Str} {p pos : Pos} {e : Expr} {es : List Expr} {t : TA}
theorem runG {pins : List (Addr × Obj)} {σ : St} {H : Hp} {s : Shared} {Q : VK} {us : List Value} {vs : List V} (F : FnG X.prog X.w X.K X.mg X.base k f fd ps sp) (room : Room k X.A) (gd : X.A.guards = some []) (bnd : Binds X.K fd ps ds) (dv : Vals dvs ds)
    (I : Inv X pins σ H s) (r : Vals vs us) (h : sp (vs ++ dvs) H Q E0) : wpAny (model X.prog X.w) X.A (call (.ref f) us) (EP X pins σ Q) X.xe s := by
  have both : Vals (vs ++ dvs) (us ++ ds) := r.append dv
  have lens : (us ++ ds).length = ps.length := both.length.symm.trans (F.size _ _ _ _ h)
  refine wpAny_call (codeAny_mono (F.goes X.A X.stack s H ⟨us, []⟩ (us ++ ds) (vs ++ dvs) Q E0 room gd I.env0 (bnd s us I.kIn lens) both h) fun res s' hq => ?_)
  match res, hq with
  | .error e, hq => exact hq.elim
  | .ok (.ret u), hq => exact I.after hq
theorem pe_cG (F : FnG X.prog X.w X.K X.mg X.base k f fd ps sp) (room : Room k X.A) (gd : X.A.guards = some []) (hg : Gl X x) (hm : X.mg x = some (.ref f)) (hk : PySem.W.keepIn X.K (.ref f) = true) (bnd : Binds X.K fd ps ds) (dv : Vals dvs ds)
    (ha : PA X (e :: es) t) (hdb : (x == ("__debug__" : Str)) = false := by decide) (he : starEach (e :: es) X.env = (false, eval e X.env) :: starEach es X.env := by rfl) (hpl : (backTo pos (starEach es X.env)).any (·.1) = false := by rfl) :
    PE X (.Call (.Name x p) (e :: es) [] pos) (tCall sp dvs E0 t) := ⟨fun pins s σ H Q I h => wpAny_Call_Name_kw (ld_glob I hg hm
    (PySem.W.callWith_K (h₀ := X.base) I.ok.mod.kin hk (thn (ha.run pos pins s σ H _ I h) fun us s1 ⟨vs, H1, I1, r, q⟩ => ⟨I1.kIn, runG F room gd bnd dv I1 r q⟩) he hpl) hdb)⟩
theorem pe_cG0 (F : FnG X.prog X.w X.K X.mg X.base k f fd ps sp) (room : Room k X.A) (gd : X.A.guards = some []) (hg : Gl X x) (hm : X.mg x = some (.ref f)) (hk : PySem.W.keepIn X.K (.ref f) = true) (bnd : Binds X.K fd ps ds) (dv : Vals dvs ds)
    (hdb : (x == ("__debug__" : Str)) = false := by decide) : PE X (.Call (.Name x p) [] [] pos) (tCall sp dvs E0 tNil) := ⟨fun pins s σ H Q I h => wpAny_Call_Name_kw (ld_glob I hg hm (PySem.W.callWith_K0 I.kIn hk (runG (us := []) F room gd bnd dv I .nil h)) hdb)⟩
/-- a def of the module, ready to be called by its name: the values of the defaults that the call leaves out -/
structure Clb (P : Program) (w : World) (K : PySem.W.Frag) (mg : Str → Option Value) (base : Heap) (k : Nat) (x : Str) (sp : Sp) (dvs : List V) : Prop where
  ex : ∃ (f : Addr) (fd : FuncData) (ps : List Str) (ds : List Value), FnG P w K mg base k f fd ps sp ∧ mg x = some (.ref f) ∧ PySem.W.keepIn K (.ref f) = true ∧ Binds K fd ps ds ∧ Vals dvs ds
theorem pe_clb {j : Nat} (c : Clb X.prog X.w X.K X.mg X.base k x sp dvs) (room : Room j X.A) (hk : k ≤ j) (gd : X.A.guards = some []) (hg : Gl X x)
    (ha : PA X (e :: es) t) (hdb : (x == ("__debug__" : Str)) = false := by decide) (he : starEach (e :: es) X.env = (false, eval e X.env) :: starEach es X.env := by rfl) (hpl : (backTo pos (starEach es X.env)).any (·.1) = false := by rfl) :
    PE X (.Call (.Name x p) (e :: es) [] pos) (tCall sp dvs E0 t) := by
  obtain ⟨f, fd, ps, ds, F, hm, kp, b, d⟩ := c.ex
  exact pe_cG F (room.mono hk) gd hg hm kp b d ha hdb he hpl
theorem pe_clb0 {j : Nat} (c : Clb X.prog X.w X.K X.mg X.base k x sp dvs) (room : Room j X.A) (hk : k ≤ j) (gd : X.A.guards = some []) (hg : Gl X x)
    (hdb : (x == ("__debug__" : Str)) = false := by decide) : PE X (.Call (.Name x p) [] [] pos) (tCall sp dvs E0 tNil) := by
  obtain ⟨f, fd, ps, ds, F, hm, kp, b, d⟩ := c.ex
  exact pe_cG0 F (room.mono hk) gd hg hm kp b d hdb
end

/-! ### the law's end -/
section
variable {P : Program} {w : World} {K : PySem.W.Frag} {mg mb : Str → Option Value} {k : Nat} {fa a : Addr} {fd : FuncData} {x : Str} {sp : Sp} {s₁ : Shared} {vs : List Value} {ns : List Int}
/-- from a heap H in which nothing but the script is tracked -/
theorem law_at (H : Hp) (KX : K.In s₁.heap) (hns : s₁.heap.Ns mainGlobals mg) (hb : s₁.heap.Ns builtinsNs mb) (hbb : ∀ x : Str, x ≠ "__name__" → mb x = bootBuiltins x) (hlim : s₁.heap.NoLimit) (hg : s₁.gens = #[])
    (room : Room k callerA) (F : ∀ base : Heap, K.In base → base.Ns mainGlobals mg → FnG P w K mg base k fa fd [x] sp) (hbind : ∀ (s : Shared) (u : Value), BindsTo s fd ⟨[u], []⟩ [(x, u)])
    (told : sp [.ref a] H (fun v _ => v = .bl true) fun _ _ _ => False) (ok : HOk P w H s₁.heap)
    (only : ∀ b, H b = none ∨ ∃ o xs, H b = some (.frz o (.lst xs))) (nod : ∀ b o es ep, s₁.heap.get? b = some o → o.data = .dict es ep → H b = none) (noK : ∀ b o, K.lookup b = some o → H b = none) :
    codeAny (model P w) callerA (.call (.ref fa) ⟨[.ref a], []⟩) (fun r s' => r = .ok (.ret (.bool true)) ∧ OldK s₁.heap s'.heap ∧ s'.os = s₁.os ∧ AllBare s'.gens) s₁ := by
  have space : ∀ {b : Addr} {m : Str → Option Value}, s₁.heap.Ns b m → (hidT s₁.heap H).Ns b m := by
    rintro b m ⟨o, es, ep, e, d, r⟩
    exact ⟨o, es, ep, hidT_get e (nod b o es ep e d), d, r⟩
  have inB : K.In (hidT s₁.heap H) := fun b o e => hidT_get (KX b o e) (noK b o e)
  obtain ⟨mc, c1, c2⟩ := id hlim
  have e0 : Env0 P w K mg (hidT s₁.heap H) callerA [] s₁ H := {
    frames := rfl
    mod := ⟨inB, space hns, ⟨mb, space hb, hbb⟩, ⟨mc, space c1, c2⟩⟩
    bs := fun b o e => of_hidT e
    bsz := Nat.le_of_eq (hidT_size _ _)
    funs := trivial
    frf := fun b z => nomatch (show b ∈ ([] : List Addr) from z)
    hok := ok
    bare := .of_eq hg }
  refine codeAny_mono ((F _ inB (space hns)).goes callerA [] s₁ H ⟨[.ref a], []⟩ [.ref a] [.ref a] _ _ room rfl e0 (hbind s₁ (.ref a)) (.cons rfl .nil) told) fun res s' h => ?_
  match res, h with
  | .error e, h => exact h.elim
  | .ok (.ret u), ⟨v, H', os, bare, un, hok', r', q⟩ =>
    obtain rfl : v = .bl true := q
    obtain rfl : u = Value.bool true := r'
    refine ⟨rfl, OldK.of_keep fun b o e => ?_, os, bare⟩
    rcases only b with z | ⟨ob, xs, z⟩
    · exact un.keep b o e z (fun y => nomatch (show b ∈ ([] : List Addr) from y)) (fun y => nomatch y)
    · obtain ⟨e1, _⟩ := ok b _ z
      obtain ⟨e2, _⟩ := hok' b _ (un.frzs b ob _ z)
      rw [e] at e1
      cases e1
      exact e2
theorem law_G (KX : K.In s₁.heap) (hns : s₁.heap.Ns mainGlobals mg) (hb : s₁.heap.Ns builtinsNs mb) (hbb : ∀ x : Str, x ≠ "__name__" → mb x = bootBuiltins x) (hlim : s₁.heap.NoLimit) (hg : s₁.gens = #[])
    (ha : s₁.heap.get? a = some { cls := .type "list", data := .seq vs.toArray }) (hi : IntsAre vs ns) (hl : ns.length ≤ sizeLine) (room : Room k callerA)
    (F : ∀ base : Heap, K.In base → base.Ns mainGlobals mg → FnG P w K mg base k fa fd [x] sp) (hbind : ∀ (s : Shared) (u : Value), BindsTo s fd ⟨[u], []⟩ [(x, u)])
    (hsp : ∀ H : Hp, SqL K H a (ns.map V.int) → sp [.ref a] H (fun v _ => v = .bl true) fun _ _ _ => False) :
    codeAny (model P w) callerA (.call (.ref fa) ⟨[.ref a], []⟩) (fun r s' => r = .ok (.ret (.bool true)) ∧ OldK s₁.heap s'.heap ∧ s'.os = s₁.os ∧ AllBare s'.gens) s₁ := by
  have rv := vals_ints hi
  by_cases hk : ∃ o, K.lookup a = some o
  · obtain ⟨o, hk⟩ := hk
    have e := KX a o hk
    rw [ha] at e
    cases e
    refine law_at (fun _ => none) KX hns hb hbb hlim hg room F hbind (hsp _ (.inr ⟨_, vs.toArray, _, hk, rfl, rfl, rfl, ?_, by simpa using rv⟩)) (fun b u z => nomatch z) (fun _ => .inl rfl) (fun _ _ _ _ _ _ => rfl) (fun _ _ _ => rfl)
    rw [List.size_toArray, hi.length]
    exact hl
  · have nk : K.lookup a = none := by
      cases e : K.lookup a with
      | none => rfl
      | some o => exact absurd ⟨o, e⟩ hk
    let H : Hp := upd (fun _ => none) a (.frz { cls := .type "list", data := .seq vs.toArray } (.lst (ns.map V.int)))
    have at_ : ∀ b, (b = a ∧ H b = some (.frz { cls := .type "list", data := .seq vs.toArray } (.lst (ns.map V.int)))) ∨ (b ≠ a ∧ H b = none) := fun b => by
      by_cases q : b = a
      · exact .inl ⟨q, by rw [q]; exact upd_same⟩
      · exact .inr ⟨q, upd_ne q⟩
    refine law_at H KX hns hb hbb hlim hg room F hbind (hsp H (.inl (.inr ⟨_, upd_same⟩))) (fun b u z => ?_) (fun b => ?_) (fun b o es ep e d => ?_) (fun b o e => ?_)
    · rcases at_ b with ⟨rfl, q⟩ | ⟨_, q⟩
      · rw [q] at z
        cases z
        exact ⟨ha, by rw [List.length_map]; exact hl, vs, _, rv, ha⟩
      · rw [q] at z
        cases z
    · rcases at_ b with ⟨_, q⟩ | ⟨_, q⟩
      · exact .inr ⟨_, _, q⟩
      · exact .inl q
    · rcases at_ b with ⟨rfl, q⟩ | ⟨_, q⟩
      · rw [ha] at e
        cases e
        have d' : Data.seq vs.toArray _ = Data.dict es ep := d
        cases d'
      · exact q
    · rcases at_ b with ⟨rfl, q⟩ | ⟨_, q⟩
      · rw [nk] at e
        cases e
      · exact q
end
/-- the goal that k_head leaves, from the law's promise -/
theorem walkG {l : PySem.W.OpenLaw} {n k : Nat} {q : Program} {loose : List Str} {XP : (Str → Option Value) → Heap → Prop} {YP : World → Heap → Prop} {d : DefRec} {K : Params → PySem.W.Frag} {sp : PySem.W.Frag → Sp} {x : Str}
    (hn : l.most = some n) (hn2 : n ≤ sizeLine) (hdf : d.params.defaults = []) (room : Room k callerA) (hY : ∀ (w : World) (h : Heap), YP w h → (K w.params).In h)
    (F : ∀ (w : World) (mg : Str → Option Value) (fa : Addr) (h : Heap), (K w.params).In h → h.Ns mainGlobals mg → mg d.name = some (.ref fa) →
      ∃ fd : FuncData, (∀ (s : Shared) (u : Value), BindsTo s fd ⟨[u], []⟩ [(x, u)]) ∧ ∀ base : Heap, (K w.params).In base → base.Ns mainGlobals mg → FnG l.prog w (K w.params) mg base k fa fd [x] (sp (K w.params)))
    (hsp : ∀ (K : PySem.W.Frag) (H : Hp) (a : Addr) (ns : List Int), ns.length ≤ n → SqL K H a (ns.map V.int) → sp K [.ref a] H (fun v _ => v = .bl true) fun _ _ _ => False) :
    PySem.W.WalkO q loose XP YP l.row.toRowW d [] (fun f vs => PySem.call f vs) := by
  refine Att.attach_call hn hdf fun w s₀ s₁ mg mb fa o pm cd doc a vs ns G Y ho hd hcd hmg hobj hints hlen hg => ?_
  obtain ⟨fd, hb, hF⟩ := F w mg fa _ (hY w _ Y) G.T.g hmg
  exact law_G (hY w _ Y) G.T.g G.T.b G.T.builtins G.T.nolimit hg hobj hints (Nat.le_trans hlen hn2) room hF hb fun H hS => hsp (K w.params) H a ns hlen hS
end DL
set_option maxHeartbeats 4000000
/-! E1: own exceptions whose __init__ says super().__init__(p, ..); self.p = p; ..: how they are made. -/
namespace DL
open PySem PySem.Spec PySem.W PySem.Calls L2
open PyProof.Rows hiding St wpAt

section
variable {prog : Program} {w : World} {A : Around} {E : Value → Shared → Prop} {s : Shared} {K : Frag} {mg mb m : Str → Option Value} {x C L f cda cc : Addr}

/-- Exception's __init__ by the wrapper, called -/
theorem su_call {u t0 : Addr} {us : List Value} {h : Heap} {g : Array GenState} {d : Drawn} {tk : Nat} {os : OsState} {Q : Value → Shared → Prop} (X : K.In h) (q : excInitIn K C [.type "ValueError", .type "Exception", .type "BaseException", .type "object"] "ValueError.__new__" = true)
    (hu : h.get? u = some (kxs_mw "ValueError.__init__" x)) (hx : h.get? x = some (HandSPX.excO C t0)) (hz : us.length ≤ sizeLine)
    (hq : ∀ h' t1, (∀ b o, b ≠ x → h.get? b = some o → h'.get? b = some o) → h'.get? x = some (HandSPX.excO C t1) → Q .none ⟨h', g, d, tk, os⟩) :
    wpAny (model prog w) A (call (.ref u) us) Q E ⟨h, g, d, tk, os⟩ := by
  have FB := F.excBase_ValueError
  obtain ⟨nm, N', qn, bs, bm, hdct, sn, sub, ab, col, dd, k0, k1, k2, k3, k5, hC, hT⟩ := excInit_of X q
  refine wpAny_call (codeAny_of_tree ?_)
  show wpAny _ A.in1 (callAny (.ref u) ⟨us, []⟩) _ _ _
  simp only [callAny]
  refine wpAny_bind (wpAny_load hu ?_)
  simp only [kxs_mw, show (Value.type "method-wrapper" == Value.type "method" || Value.type "method-wrapper" == Value.type "builtin_function_or_method" || Value.type "method-wrapper" == Value.type "method-wrapper") = true by decide, if_true]
  refine KFB.if_so (by decide) ?_
  refine wpAny_bind (check_bound_init FB.toExcCallFacts hC hx rfl ?_)
  refine wpAny_bind (wpAny_pure (wpAny_pure ?_))
  refine ⟨plainId_quiet FB.init.plain _, codeAny_builtin FB.initEntry ?_⟩
  exact exc_init_tree (cls := .ref C) (t0 := t0) (dv := none) (c2 := .none) (c3 := .none) (b4 := .bool false) hx hz fun h' k e' _ => hq h' _ k e'

theorem su_super {body : List Stmt} {q : Str} {scope : Scope} {p0 p1 p2 p3 p4 : Pos} {fd : FuncData} {ar : Arg} {vs : Array Value} {file : Str} {tf : Tok} {oc ccl cl : Value} {od cdd cld : Option Addr} {osl ccs csl : Array (Option Value)} {t0 : Addr} {e : Expr} {es : List Expr} {us : List Value} {Q : Flow → Shared → Prop}
    (X : K.In s.heap) (hg : s.heap.Ns mainGlobals mg) (hmg : mg "super" = none) (hb : s.heap.Ns builtinsNs mb) (hbs : mb "super" = some (.type "super")) (hn : s.heap.Ns L m) (hx : s.heap.get? x = some (HandSPX.excO C t0)) (hxC : x ≠ C)
    (hf : K.lookup f = some ⟨oc, od, .func fd, osl⟩) (hp : (fd.params.posonlyargs ++ fd.params.args).head? = some ar) (hv : m ar.arg = some (.ref x))
    (hcode : K.lookup cda = some ⟨ccl, cdd, .fields vs, ccs⟩) (hvs : vs[2]? = some (.str file tf)) (hfile : ((prog.main.file : Str) == file) = true)
    (hcell : K.lookup cc = some ⟨cl, cld, .cell (some (.ref C)), csl⟩) {cdC : ClassData} (hcls : clsIn K C = some cdC) (hsub : mroIn K C (.ref C) = some true)
    (hks : scope.names.lookup ("super" : Str) = some .globalImplicit) (hkc : scope.names.lookup ("__class__" : Str) = some .free) (hka : scope.names.lookup ar.arg = some .local) (hk : scope.kind = .function)
    (htop : (prog.main.scope.names.lookup ("super" : Str)).isSome = false) (hsup : ks_superIn K C C "__init__" = some (some (.builtin "ValueError.__init__"))) (hB : subIn K (.ref C) (.type "ValueError") = some true)
    (hop : nsIn K cStatics "thirdparty.any" = some none) (qx : excInitIn K C [.type "ValueError", .type "Exception", .type "BaseException", .type "object"] "ValueError.__new__" = true) (hz : us.length ≤ sizeLine)
    (hi : interactive (ksEnv q scope L f (.ref cda) cc) = false) {pl : Sem Bool}
    (hev : eval (.Call (.Attribute (.Call (.Name "super" p0) [] [] p1) "__init__" p2) (e :: es) [] p3) (ksEnv q scope L f (.ref cda) cc) = (do
      let ov ← attributeBase (.Call (.Name "super" p0) [] [] p1) "__init__" (ksEnv q scope L f (.ref cda) cc) (eval (.Call (.Name "super" p0) [] [] p1) (ksEnv q scope L f (.ref cda) cc))
      standAt p2.atName
      let (f', first) ← holding [ov] (getMethod ov "__init__" pl)
      callWith p3 f' first (backTo p3 (starEach (e :: es) (ksEnv q scope L f (.ref cda) cc))) []))
    (he : starEach (e :: es) (ksEnv q scope L f (.ref cda) cc) = (false, eval e (ksEnv q scope L f (.ref cda) cc)) :: starEach es (ksEnv q scope L f (.ref cda) cc)) (hpl : (backTo p3 (starEach es (ksEnv q scope L f (.ref cda) cc))).any (·.1) = false)
    (ha : ∀ s' : Shared, (∀ b o, s.heap.get? b = some o → s'.heap.get? b = some o) → wpAny (model prog w) A (spliced (backTo p3 (starEach (e :: es) (ksEnv q scope L f (.ref cda) cc)))) (fun vs s'' => s'' = s' ∧ vs = us) E s')
    (hq : ∀ h' tk t1, (∀ b o, b ≠ x → s.heap.get? b = some o → h'.get? b = some o) → h'.get? x = some (HandSPX.excO C t1) → Q .next { s with heap := h', toks := tk }) :
    wpAt (model prog w) A (.func body (ksEnv q scope L f (.ref cda) cc)) (exec (.Expr (.Call (.Attribute (.Call (.Name "super" p0) [] [] p1) "__init__" p2) (e :: es) [] p3) p4) (ksEnv q scope L f (.ref cda) cc)) Q E s := by
  obtain ⟨hh, g, d, t, os⟩ := s
  obtain ⟨oD, hD1, hD2⟩ : ∃ oD, hh.get? C = some oD ∧ oD.data = .cls cdC := by
    unfold clsIn at hcls
    split at hcls
    · rename_i c d cd' sl ho
      cases hcls
      exact ⟨_, X _ _ ho, rfl⟩
    · cases hcls
  refine ks_wpAt_Expr_any (ks_wpAt_MethodCall (pl := pl) ?_ hev) hi
  refine ks_wpAt_super_base (env := ksEnv q scope L f (.ref cda) cc) hks hkc (by decide) rfl (X _ _ hf) rfl hp rfl (X _ _ hcode) rfl hvs hfile htop ?_
  refine ks_loadName_global hk hks (loadGlobal_builtin (env := ksEnv q scope L f (.ref cda) cc) hg hmg hb hbs ⟨rfl, ?_⟩)
  refine wpAny_loadName_free hk hkc rfl ⟨_, X _ _ hcell, rfl⟩ ?_
  refine wpAny_loadName_local hk hka hn hv ?_
  refine ks_wpAny_isType_cls hD1 hD2 ⟨rfl, ?_⟩
  have I : InstAt hh x (HandSPX.excO C t0) C none := ⟨hx, rfl, rfl, trivial⟩
  refine ks_wpAny_call_super hD1 hD2 I.at_ I.cls (fun c e => ?_) (looks_mroIn X hsub) (fun h1 e1 k1 => ?_)
  · have := I.no
    unfold notCls at this
    rw [e] at this
    exact Bool.noConfusion this
  have X1 : K.In h1 := X.keeps k1
  have I1 : InstAt h1 x (HandSPX.excO C t0) C none := ⟨k1 _ _ hx, rfl, rfl, trivial⟩
  have hI : Looks (model prog w) h1 (isInstance (.ref x) (.type "ValueError")) true := I1.type.andThen (looks_subIn X1 hB)
  have hm : alongIn K "__init__" ((cdC.mro.dropWhile (· != .ref C)).drop 1) = some (some (.builtin "ValueError.__init__")) := by
    unfold ks_superIn at hsup
    rw [hcls] at hsup
    exact hsup
  refine kxs_getMethod kxs_ValueError e1 (looks_opaque X1 hop) (l₀ := cdC.mro) (fun A Q E s k q => wpAny_bind ((looks_clsIn X1 hcls) A _ E s k (wpAny_pure q))) rfl X1 hm hI hxC (by decide) ?_
  dsimp only
  have k2 : ∀ b o, hh.get? b = some o → (h1.push (kxs_mw "ValueError.__init__" x)).get? b = some o := fun b o z => Heap.get?_push_of_some _ (k1 b o z)
  have hu : (h1.push (kxs_mw "ValueError.__init__" x)).get? h1.objs.size = some (kxs_mw "ValueError.__init__" x) := Heap.get?_push_size h1 rfl
  have ha' := ha ⟨h1.push (kxs_mw "ValueError.__init__" x), g, d, t + 1, os⟩ k2
  rw [he] at ha' ⊢
  refine kxs_callWith (i := "ValueError.__init__") (x := x) (by show (false || (backTo p3 (starEach es (ksEnv q scope L f (.ref cda) cc))).any (·.1)) = false; rw [hpl]; rfl) ?_
  refine evalArgs_plain (wpAny_mono ha' (fun vs s2 hs => ?_) fun _ _ z => z)
  obtain ⟨rfl, rfl⟩ := hs
  refine ⟨hu, ?_⟩
  show wpAny _ _ (call (.ref h1.objs.size) vs) _ _ _
  refine su_call (X.keeps k2) qx hu (k2 _ _ hx) hz fun h' t1 k3 e3 => ?_
  exact hq h' _ t1 (fun b o hb z => k3 b o hb (k2 b o z)) e3

/-- what stands for the class C and its __init__, the def st at fI, whose parameters behind self are ps -/
structure SuC (K : Frag) (prog : Program) (C fI : Addr) (ps : List Str) (st : Stmt) : Prop where
  cls : ∃ nm q N bs bm sn sub ab col dd k0 k1 k2 k3 k5, K.lookup C = some (excClassObj nm q C N bs bm true sn sub ab col dd k0 k1 k2 k3 k5 "ValueError.__new__") ∧ HandSPX.refsVE bm = true
  qx : excInitIn K C [.type "ValueError", .type "Exception", .type "BaseException", .type "object"] "ValueError.__new__" = true
  sa : findIn K (.ref C) "__setattr__" = some (some (.builtin "object.__setattr__"))
  no : ∀ n ∈ ps, findIn K (.ref C) n = some none
  iC : findIn K (.ref C) "__init__" = some (some (.ref fI))
  tI : typeIn K (.ref fI) = some (.type "function")
  sup : ks_superIn K C C "__init__" = some (some (.builtin "ValueError.__init__"))
  hB : subIn K (.ref C) (.type "ValueError") = some true
  hsub : mroIn K C (.ref C) = some true
  hop : nsIn K cStatics "thirdparty.any" = some none
  fn : ∃ (qual : Str) (oc : Value) (od : Option Addr) (kV doc pm : Value) (an : Option Addr) (cda : Addr) (ct : Value) (osl : Array (Option Value)) (cc : Addr) (ccl : Value) (cdd : Option Addr) (vs : Array Value) (ccs : Array (Option Value)) (file : Str) (tf : Tok) (cl : Value) (cld : Option Addr) (csl : Array (Option Value)),
    K.lookup fI = some ⟨oc, od, .func (fnX "__init__" qual (defArgs st) (defBody st) (defScope st) [("__class__", cc)] .none kV doc pm an (.ref cda) ct), osl⟩ ∧ codeIn K (.ref cda) qual = true ∧ K.lookup cda = some ⟨ccl, cdd, .fields vs, ccs⟩ ∧
    vs[2]? = some (.str file tf) ∧ ((prog.main.file : Str) == file) = true ∧ K.lookup cc = some ⟨cl, cld, .cell (some (.ref C)), csl⟩
  top : (prog.main.scope.names.lookup ("super" : Str)).isSome = false
/-- what an __init__ leaves of a new exception at x -/
structure SuEnd (h h' : Heap) (x C dx t1 : Addr) (mA : Str → Option Value) : Prop where
  keep : ∀ b o, b ≠ x → h.get? b = some o → h'.get? b = some o
  obj : h'.get? x = some { cls := .ref C, dict := some dx, data := .fields #[.ref t1, .none, .none, .none, .bool false, .none] }
  dbig : h.objs.size ≤ dx
  dne : dx ≠ x
  ns : h'.Ns1 dx mA
/-- the module's names that super() asks -/
structure SuMod (mg : Str → Option Value) (h : Heap) : Prop where
  g : h.Ns mainGlobals mg
  no : mg "super" = none
  b : ∃ mb, h.Ns builtinsNs mb ∧ mb "super" = some (.type "super")
  lim : h.NoLimit
theorem SuMod.keeps {h h' : Heap} (M : SuMod mg h) (k : ∀ b o, h.get? b = some o → h'.get? b = some o) : SuMod mg h' :=
  ⟨M.g.keeps k, M.no, let ⟨mb, a, b⟩ := M.b; ⟨mb, a.keeps k, b⟩, M.lim.keeps k⟩
theorem su_init1 {R : Result → Shared → Prop} {fI : Addr} {n : Str} {st : Stmt} {p0 p1 p2 p3 p4 q0 q1 q2 q3 q4 : Pos} {pars : Arguments} (T : SuC K prog C fI [n] st) {t0 : Addr} {v : Value} {args : Args} (X : K.In s.heap) (Md : SuMod mg s.heap) (hx : s.heap.get? x = some (HandSPX.excO C t0)) (hxC : x ≠ C) (hnx : K.lookup x = none)
    (hroom : A.depth < recursionLimit) (hbody : defBody st = [.Expr (.Call (.Attribute (.Call (.Name "super" p0) [] [] p1) "__init__" p2) [.Name n q0] [] p3) p4, .Assign [.Attribute (.Name "self" q1) n q2] (.Name n q3) q4])
    (hk : (defScope st).kind = .function) (hks : (defScope st).names.lookup ("super" : Str) = some .globalImplicit) (hkc : (defScope st).names.lookup ("__class__" : Str) = some .free) (hls : (defScope st).names.lookup ("self" : Str) = some .local) (hln : (defScope st).names.lookup n = some .local)
    (hcell : ∀ y ∈ (defScope st).names, y.2 ≠ .cell) (hco : (defScope st).isCoroutine = false) (hgen : (defScope st).isGenerator = false) {ar : Arg} (hp : ((defArgs st).posonlyargs ++ (defArgs st).args).head? = some ar) (har : ar.arg = "self") (hn0 : (n == ("__debug__" : Str)) = false) (hns : (n == ("self" : Str)) = false)
    (hbind : ∀ (qual : Str) (kV doc pm : Value) (an : Option Addr) (cdv ct : Value) (cc : Addr), BindsTo s (fnX "__init__" qual (defArgs st) (defBody st) (defScope st) [("__class__", cc)] .none kV doc pm an cdv ct) args [("self", .ref x), (n, v)])
    (hi : ∀ q L f cda cc, interactive (ksEnv q (defScope st) L f cda cc) = false) (pl : Str → Addr → Addr → Value → Addr → Sem Bool)
    (hev : ∀ q L f cda cc, eval (.Call (.Attribute (.Call (.Name "super" p0) [] [] p1) "__init__" p2) [.Name n q0] [] p3) (ksEnv q (defScope st) L f cda cc) = (do
      let ov ← attributeBase (.Call (.Name "super" p0) [] [] p1) "__init__" (ksEnv q (defScope st) L f cda cc) (eval (.Call (.Name "super" p0) [] [] p1) (ksEnv q (defScope st) L f cda cc))
      standAt p2.atName
      let (f', first) ← holding [ov] (getMethod ov "__init__" (pl q L f cda cc))
      callWith p3 f' first (backTo p3 (starEach [.Name n q0] (ksEnv q (defScope st) L f cda cc))) []))
    (hsw : ∀ q L f cda cc, swapsWith (.Name n q3) (some (.Attribute (.Name "self" q1) n q2)) q4.line (ksEnv q (defScope st) L f cda cc) = pure false)
    (hq : ∀ h' tk dx t1, SuEnd s.heap h' x C dx t1 (fun y => if y = n then some v else none) → R (.ok (.ret .none)) { s with heap := h', toks := tk }) :
    codeAny (model prog w) A (.call (.ref fI) args) R s := by
  obtain ⟨qual, oc, od, kV, doc, pm, an, cda, ct, osl, cc, ccl, cdd, vs, ccs, file, tf, cl, cld, csl, ho, hcd, hcode, hvs, hfile, hcellK⟩ := T.fn
  obtain ⟨nm, qn, N, bs, bm, sn, sub, ab, col, dd, k0, k1, k2, k3, k5, hC, hbm⟩ := T.cls
  have hcl : clsIn K C = some { name := nm, bases := bs, mro := .ref C :: bm, ns := N, qualname := qn, hasDict := true, slotNames := sn, subclasses := sub, abstract := ab, collection := col, hasDel := false } := by unfold clsIn; rw [hC] <;> rfl
  refine ks_codeAny_call_defAt (body := defBody st) (binds := [("self", .ref x), (n, v)]) hroom (X _ _ ho) rfl Md.lim (codeRec_of X hcd) rfl (hbind qual kV doc pm an (.ref cda) ct cc) hcell ?_ (fun h0 hn0' k0' => ?_) hco hgen hk
  · intro y hy
    simp only [List.mem_cons, List.not_mem_nil, or_false] at hy
    rcases hy with rfl | rfl
    · exact hls
    · exact hln
  have M0 := Md.keeps k0'
  obtain ⟨mb, b1, b2⟩ := M0.b
  have X0 : K.In h0 := X.keeps k0'
  have hx0 := k0' _ _ hx
  have vself : (fun y : Str => List.lookup y [(n, v), (("self" : Str), Value.ref x)]) "self" = some (.ref x) := by
    show (match (("self" : Str) == n) with | true => some v | false => List.lookup ("self" : Str) [(("self" : Str), Value.ref x)]) = _
    have z : (("self" : Str) == n) = false := by
      rw [← hns]
      exact Bool.beq_comm ..
    rw [z]
    simp
  have vn : (fun y : Str => List.lookup y [(n, v), (("self" : Str), Value.ref x)]) n = some v := by simp
  show wpAt _ _ (.func (defBody st) (ksEnv qual (defScope st) s.heap.objs.size fI (.ref cda) cc)) (execs (defBody st) (ksEnv qual (defScope st) s.heap.objs.size fI (.ref cda) cc)) _ _ _
  rw [show execs (defBody st) (ksEnv qual (defScope st) s.heap.objs.size fI (.ref cda) cc) = execs [.Expr (.Call (.Attribute (.Call (.Name "super" p0) [] [] p1) "__init__" p2) [.Name n q0] [] p3) p4, .Assign [.Attribute (.Name "self" q1) n q2] (.Name n q3) q4] (ksEnv qual (defScope st) s.heap.objs.size fI (.ref cda) cc) by rw [hbody]]
  refine ks_wpAt_execs_cons ?_
  refine su_super (K := K) (mg := mg) (mb := mb) (x := x) (C := C) (L := s.heap.objs.size) (us := [v]) X0 M0.g M0.no b1 b2 hn0' hx0 hxC ho hp (by rw [har]; exact vself) hcode hvs hfile hcellK hcl T.hsub hks hkc (by rw [har]; exact hls) hk T.top T.sup T.hB T.hop T.qx (by rw [sizeLine_eq]; show 1 ≤ 16777216; decide)
    (hi _ _ _ _ _) (hev _ _ _ _ _) rfl rfl (fun s' ks => ?_) fun h1 tk1 t1 k1 hx1 => ?_
  · refine spliced_cons ?_
    refine wpAny_Name (wpAny_loadName_local hk hln (hn0'.keeps ks) vn ?_) hn0
    exact spliced_nil ⟨rfl, rfl⟩
  · have hnL : h1.Ns s.heap.objs.size (fun y : Str => List.lookup y [(n, v), (("self" : Str), Value.ref x)]) := by
      obtain ⟨o, es, ep, e1, r⟩ := hn0'
      exact ⟨o, es, ep, k1 _ _ (Nat.ne_of_gt (Heap.lt_size hx)) e1, r⟩
    refine wpAt_of_wpAny ?_
    refine wpAny_execs_cons (plainObj_wpAny_Assign_Attribute ?_ (hsw _ _ _ _ _))
    refine wpAny_Name (wpAny_loadName_local hk hln hnL vn ?_) hn0
    refine wpAny_Name (wpAny_loadName_local hk hls hnL vself ?_) (by decide)
    have XC : x ≠ C := hxC
    have X1 : K.In h1 := fun b o e => k1 b o (fun z => by rw [z, hnx] at e; cases e) (X0 b o e)
    refine set_plain X1 (ox := HandSPX.excO C t1) (od := none) ⟨hx1, rfl, rfl, trivial⟩ T.sa ?_
    refine HandSPX.exc_osa X1 hx1 hcl (show HandSPX.refsVE (.ref C :: bm) = true from hbm) rfl (T.no n (by simp)) (fun h3 tk3 dx k3 dn dne hx3 hn3 => ?_)
    show wpAny _ _ (execs _ _) _ _ _
    refine wpAny_execs_nil (hq h3 tk3 dx t1 ⟨fun b o hb e => k3 b o hb (k1 b o hb (k0' b o e)), hx3, ?_, dne, hn3⟩)
    have z2 : s.heap.objs.size < h1.objs.size := hnL.lt
    exact Nat.le_of_lt (Nat.lt_of_lt_of_le z2 dn)

theorem su_init2 {R : Result → Shared → Prop} {fI : Addr} {st : Stmt} {p0 p1 p2 p3 p4 q0 q0' q1 q2 q3 q4 r1 r2 r3 r4 : Pos} (T : SuC K prog C fI ["row", "word"] st) {t0 : Addr} {v u : Value} {args : Args} (X : K.In s.heap) (Md : SuMod mg s.heap) (hx : s.heap.get? x = some (HandSPX.excO C t0)) (hxC : x ≠ C) (hnx : K.lookup x = none)
    (hroom : A.depth < recursionLimit) (hbody : defBody st = [.Expr (.Call (.Attribute (.Call (.Name "super" p0) [] [] p1) "__init__" p2) [.Name "row" q0, .Name "word" q0'] [] p3) p4, .Assign [.Attribute (.Name "self" q1) "row" q2] (.Name "row" q3) q4, .Assign [.Attribute (.Name "self" r1) "word" r2] (.Name "word" r3) r4])
    (hk : (defScope st).kind = .function) (hks : (defScope st).names.lookup ("super" : Str) = some .globalImplicit) (hkc : (defScope st).names.lookup ("__class__" : Str) = some .free) (hls : (defScope st).names.lookup ("self" : Str) = some .local) (hln : (defScope st).names.lookup ("row" : Str) = some .local) (hlw : (defScope st).names.lookup ("word" : Str) = some .local)
    (hcell : ∀ y ∈ (defScope st).names, y.2 ≠ .cell) (hco : (defScope st).isCoroutine = false) (hgen : (defScope st).isGenerator = false) {ar : Arg} (hp : ((defArgs st).posonlyargs ++ (defArgs st).args).head? = some ar) (har : ar.arg = "self")
    (hbind : ∀ (qual : Str) (kV doc pm : Value) (an : Option Addr) (cdv ct : Value) (cc : Addr), BindsTo s (fnX "__init__" qual (defArgs st) (defBody st) (defScope st) [("__class__", cc)] .none kV doc pm an cdv ct) args [("self", .ref x), ("row", v), ("word", u)])
    (hi : ∀ q L f cda cc, interactive (ksEnv q (defScope st) L f cda cc) = false) (pl : Str → Addr → Addr → Value → Addr → Sem Bool)
    (hev : ∀ q L f cda cc, eval (.Call (.Attribute (.Call (.Name "super" p0) [] [] p1) "__init__" p2) [.Name "row" q0, .Name "word" q0'] [] p3) (ksEnv q (defScope st) L f cda cc) = (do
      let ov ← attributeBase (.Call (.Name "super" p0) [] [] p1) "__init__" (ksEnv q (defScope st) L f cda cc) (eval (.Call (.Name "super" p0) [] [] p1) (ksEnv q (defScope st) L f cda cc))
      standAt p2.atName
      let (f', first) ← holding [ov] (getMethod ov "__init__" (pl q L f cda cc))
      callWith p3 f' first (backTo p3 (starEach [.Name "row" q0, .Name "word" q0'] (ksEnv q (defScope st) L f cda cc))) []))
    (hsw : ∀ q L f cda cc, swapsWith (.Name "row" q3) (some (.Attribute (.Name "self" q1) "row" q2)) q4.line (ksEnv q (defScope st) L f cda cc) = pure false)
    (hsw' : ∀ q L f cda cc, swapsWith (.Name "word" r3) (some (.Attribute (.Name "self" r1) "word" r2)) r4.line (ksEnv q (defScope st) L f cda cc) = pure false)
    (hq : ∀ h' tk dx t1, SuEnd s.heap h' x C dx t1 (fun y => if y = "word" then some u else if y = "row" then some v else none) → R (.ok (.ret .none)) { s with heap := h', toks := tk }) :
    codeAny (model prog w) A (.call (.ref fI) args) R s := by
  obtain ⟨qual, oc, od, kV, doc, pm, an, cda, ct, osl, cc, ccl, cdd, vs, ccs, file, tf, cl, cld, csl, ho, hcd, hcode, hvs, hfile, hcellK⟩ := T.fn
  obtain ⟨nm, qn, N, bs, bm, sn, sub, ab, col, dd, k0, k1, k2, k3, k5, hC, hbm⟩ := T.cls
  have hcl : clsIn K C = some { name := nm, bases := bs, mro := .ref C :: bm, ns := N, qualname := qn, hasDict := true, slotNames := sn, subclasses := sub, abstract := ab, collection := col, hasDel := false } := by unfold clsIn; rw [hC] <;> rfl
  refine ks_codeAny_call_defAt (body := defBody st) (binds := [("self", .ref x), ("row", v), ("word", u)]) hroom (X _ _ ho) rfl Md.lim (codeRec_of X hcd) rfl (hbind qual kV doc pm an (.ref cda) ct cc) hcell ?_ (fun h0 hn0' k0' => ?_) hco hgen hk
  · intro y hy
    simp only [List.mem_cons, List.not_mem_nil, or_false] at hy
    rcases hy with rfl | rfl | rfl
    · exact hls
    · exact hln
    · exact hlw
  have M0 := Md.keeps k0'
  obtain ⟨mb, b1, b2⟩ := M0.b
  have X0 : K.In h0 := X.keeps k0'
  have hx0 := k0' _ _ hx
  have vself : (fun y : Str => List.lookup y [(("word" : Str), u), (("row" : Str), v), (("self" : Str), Value.ref x)]) "self" = some (.ref x) := rfl
  have vn : (fun y : Str => List.lookup y [(("word" : Str), u), (("row" : Str), v), (("self" : Str), Value.ref x)]) "row" = some v := rfl
  have vw : (fun y : Str => List.lookup y [(("word" : Str), u), (("row" : Str), v), (("self" : Str), Value.ref x)]) "word" = some u := rfl
  show wpAt _ _ (.func (defBody st) (ksEnv qual (defScope st) s.heap.objs.size fI (.ref cda) cc)) (execs (defBody st) (ksEnv qual (defScope st) s.heap.objs.size fI (.ref cda) cc)) _ _ _
  rw [show execs (defBody st) (ksEnv qual (defScope st) s.heap.objs.size fI (.ref cda) cc) = execs [.Expr (.Call (.Attribute (.Call (.Name "super" p0) [] [] p1) "__init__" p2) [.Name "row" q0, .Name "word" q0'] [] p3) p4, .Assign [.Attribute (.Name "self" q1) "row" q2] (.Name "row" q3) q4, .Assign [.Attribute (.Name "self" r1) "word" r2] (.Name "word" r3) r4] (ksEnv qual (defScope st) s.heap.objs.size fI (.ref cda) cc) by rw [hbody]]
  refine ks_wpAt_execs_cons ?_
  refine su_super (K := K) (mg := mg) (mb := mb) (x := x) (C := C) (L := s.heap.objs.size) (us := [v, u]) X0 M0.g M0.no b1 b2 hn0' hx0 hxC ho hp (by rw [har]; exact vself) hcode hvs hfile hcellK hcl T.hsub hks hkc (by rw [har]; exact hls) hk T.top T.sup T.hB T.hop T.qx (by rw [sizeLine_eq]; show 2 ≤ 16777216; decide)
    (hi _ _ _ _ _) (hev _ _ _ _ _) rfl rfl (fun s' ks => ?_) fun h1 tk1 t1 k1 hx1 => ?_
  · refine spliced_cons ?_
    refine wpAny_Name (wpAny_loadName_local hk hln (hn0'.keeps ks) vn ?_) (by decide)
    refine spliced_cons ?_
    refine wpAny_Name (wpAny_loadName_local hk hlw (hn0'.keeps ks) vw ?_) (by decide)
    exact spliced_nil ⟨rfl, rfl⟩
  · have nLx : s.heap.objs.size ≠ x := Nat.ne_of_gt (Heap.lt_size hx)
    have hnL : h1.Ns s.heap.objs.size (fun y : Str => List.lookup y [(("word" : Str), u), (("row" : Str), v), (("self" : Str), Value.ref x)]) := by
      obtain ⟨o, es, ep, e1, r⟩ := hn0'
      exact ⟨o, es, ep, k1 _ _ nLx e1, r⟩
    refine wpAt_of_wpAny ?_
    refine wpAny_execs_cons (plainObj_wpAny_Assign_Attribute ?_ (hsw _ _ _ _ _))
    refine wpAny_Name (wpAny_loadName_local hk hln hnL vn ?_) (by decide)
    refine wpAny_Name (wpAny_loadName_local hk hls hnL vself ?_) (by decide)
    have X1 : K.In h1 := fun b o e => k1 b o (fun z => by rw [z, hnx] at e; cases e) (X0 b o e)
    refine set_plain X1 (ox := HandSPX.excO C t1) (od := none) ⟨hx1, rfl, rfl, trivial⟩ T.sa ?_
    refine HandSPX.exc_osa X1 hx1 hcl (show HandSPX.refsVE (.ref C :: bm) = true from hbm) rfl (T.no "row" (by decide)) (fun h3 tk3 dx k3 dn dne hx3 hn3 => ?_)
    show wpAny _ _ (execs _ _) _ _ _
    have hnL3 : h3.Ns s.heap.objs.size (fun y : Str => List.lookup y [(("word" : Str), u), (("row" : Str), v), (("self" : Str), Value.ref x)]) := by
      obtain ⟨o, es, ep, e1, r⟩ := hnL
      exact ⟨o, es, ep, k3 _ _ nLx e1, r⟩
    have X3 : K.In h3 := fun b o e => k3 b o (fun z => by rw [z, hnx] at e; cases e) (X1 b o e)
    obtain ⟨oD, esD, epD, hoD, hdD, _⟩ := hn3.count (Within.cons "row" v Within.nil)
    refine wpAny_execs_cons (plainObj_wpAny_Assign_Attribute ?_ (hsw' _ _ _ _ _))
    refine wpAny_Name (wpAny_loadName_local hk hlw hnL3 vw ?_) (by decide)
    refine wpAny_Name (wpAny_loadName_local hk hls hnL3 vself ?_) (by decide)
    refine set_plain X3 (ox := { cls := .ref C, dict := some dx, data := .fields #[.ref t1, .none, .none, .none, .bool false, .none] }) (od := some oD) ⟨hx3, rfl, rfl, hoD⟩ T.sa ?_
    have z2 : s.heap.objs.size < h1.objs.size := hnL.lt
    have ndx : ∀ b o, s.heap.get? b = some o → b ≠ dx := fun b o e => Nat.ne_of_lt (Nat.lt_trans (Heap.lt_size e) (Nat.lt_of_lt_of_le z2 dn))
    refine OEX.osa_old X3 hx3 hn3 (Within.cons "row" v Within.nil) (by decide) hcl (show HandSPX.refsVE (.ref C :: bm) = true from hbm) rfl (T.no "word" (by decide)) (fun h4 tk4 k4 hn4 => ?_)
    show wpAny _ _ (execs _ _) _ _ _
    exact wpAny_execs_nil (hq h4 tk4 dx t1 ⟨fun b o hb e => k4 b o (ndx b o e) (k3 b o hb (k1 b o hb (k0' b o e))), k4 _ _ (Ne.symm dne) hx3, Nat.le_of_lt (Nat.lt_of_lt_of_le z2 dn), dne, hn4⟩)
end
end DL
set_option maxHeartbeats 4000000
/-! E2: making own exceptions, by place and by name. -/
namespace DL
open PySem PySem.Spec PySem.W PySem.Calls L2
open PyProof.Rows hiding St wpAt wpAt_bind wpAt_stack wpAt_mono

section
variable {M : Model} {A : Around} {E : Value → Shared → Prop} {h : Heap} {g : Array GenState} {d : Drawn} {t : Nat} {os : OsState}
variable {nm q : Str} {C N : Addr} {bs bm bmB : List Value} {hdct : Bool} {sn : List Str} {sub : List Value} {ab : Bool} {col : Option Bool} {dd : Option Addr} {k0 k1 k2 k3 k5 : Option Value} {B newId initId : String}

theorem kw_check_new (F : ExcBaseFacts B newId initId bmB) (hT : ∀ X : String, bm.contains (.type X) = bmB.contains (.type X)) {rest : List Value} {kw : List (Str × Value)} {Q : Unit → Shared → Prop}
    (hC : h.get? C = some (excClassObj nm q C N bs bm hdct sn sub ab col dd k0 k1 k2 k3 k5 newId)) (hq : Q () ⟨h, g, d, t, os⟩) : wpAny M A (checkBuiltinCall newId ⟨.ref C :: rest, kw⟩) Q E ⟨h, g, d, t, os⟩ := by
  have hcont : (Value.ref C :: bm).contains (.type B) = true := by rw [List.contains_cons, hT, F.hasB, Bool.or_true]
  have hstar := F.noStar
  simp only [checkBuiltinCall, F.newKind, F.newSplit, F.newRow]
  repeat (first | refine wpAny_loadPart_at hC ?_ | (refine wpAny_isSubtype_exc hC ?_; rw [hcont]) | refine wpAny_staticBase_exc hC ?_ | refine wpAny_madeBy_exc hC ?_ | simp only [bne_self_eq_false, Bool.false_eq_true, if_false] | wp_step)
  exact hq
end
section
variable {prog : Program} {w : World} {A : Around} {E : Value → Shared → Prop} {R : Result → Shared → Prop} {h : Heap} {g : Array GenState} {d : Drawn} {t : Nat} {os : OsState}
variable {nm q : Str} {C N : Addr} {bs bm bmB : List Value} {hdct : Bool} {sn : List Str} {sub : List Value} {ab : Bool} {col : Option Bool} {dd : Option Addr} {k0 k1 k2 k3 k5 : Option Value} {B newId initId : String}

theorem kw_new (F : ExcBaseFacts B newId initId bmB) (hT : ∀ X : String, bm.contains (.type X) = bmB.contains (.type X)) {rest : List Value} {kw : List (Str × Value)}
    (hC : h.get? C = some (excClassObj nm q C N bs bm hdct sn sub ab col dd k0 k1 k2 k3 k5 newId))
    (hq : R (.ok (.ret (.ref (h.objs.size + 1)))) ⟨(h.push { cls := .type "tuple", data := .seq rest.toArray }).push
      { cls := .ref C, data := .fields #[.ref h.objs.size, .none, .none, .none, .bool false, .none] }, g, d, t, os⟩) (hrest : rest.length ≤ sizeLine) :
    codeAny (model prog w) A (.builtin newId ⟨.ref C :: rest, kw⟩) R ⟨h, g, d, t, os⟩ := by
  have hends := F.ends
  have hcB : (Value.ref C :: bm).contains (.type B) = true := by rw [List.contains_cons, hT, F.hasB, Bool.or_true]
  have hcA : (Value.ref C :: bm).contains (.type "AttributeError") = false := by rw [List.contains_cons, hT, F.noAttr]; rfl
  have hcN : (Value.ref C :: bm).contains (.type "NameError") = false := by rw [List.contains_cons, hT, F.noName]; rfl
  refine codeAny_builtinAt F.entry ?_
  unfold Builtin.«BaseException.__new__»
  refine wpAt_bind ?_
  show wpAt _ _ _ (stack >>= _) _ _ _
  refine wpAt_bind (wpAt_stack fun p below => wpAt_of_wpAny ?_)
  wp_walk
  refine wpAt_of_wpAny ?_
  rw [F.owner]
  repeat (first | with_reducible refine wpAny_madeHere_exc F.canon hC ?_ | with_reducible refine wpAny_loadPart_at hC ?_ | (with_reducible refine wpAny_isSubtype_exc hC ?_; first | rw [hcB] | rw [hcA] | rw [hcN]) | wp_step)
  show R _ _
  rw [Heap.size_push]
  exact hq

theorem kw_type_call (F : ExcBaseFacts B newId initId bmB) (hT : ∀ X : String, bm.contains (.type X) = bmB.contains (.type X)) {rest : List Value} {kw : List (Str × Value)} {fI : Addr} {Q : Fin → Shared → Prop}
    (hC : h.get? C = some (excClassObj nm q C N bs bm hdct sn sub ab col dd k0 k1 k2 k3 k5 newId))
    (hi : W.Looks (model prog w) h (typeLookup (.ref C) "__init__") (some (.ref fI))) (hb : ∀ self, W.Looks (model prog w) h (bindSpecial (.ref fI) self) (.ref fI, [self])) (hrest : rest.length ≤ sizeLine)
    (hq : codeAny (model prog w) A (.call (.ref fI) ⟨.ref (h.objs.size + 1) :: rest, kw⟩)
      (fun r s' => match r with | .ok (.ret v) => v = .none ∧ Q (.done (.ret (.ref (h.objs.size + 1)))) s' | .ok _ => False | .error e => E e s')
      ⟨(h.push (W.kdv_tup rest)).push (HandSPX.excO C h.objs.size), g, d, t, os⟩) :
    wpAny (model prog w) A (Builtin.«type.__call__» ⟨.ref C :: rest, kw⟩) Q E ⟨h, g, d, t, os⟩ := by
  repeat (first | with_reducible refine wpAny_loadPart_at hC ?_ | with_reducible refine wpAny_madeBy_exc hC ?_ | wp_step)
  refine codeAny_call_builtin_code (Code.quiet_builtin _ F.quiet) (kw_check_new F hT hC ?_)
  refine kw_new F hT hC ?_ hrest
  show wpAny _ _ _ _ _ _
  have k : ∀ b o, h.get? b = some o → ((h.push (W.kdv_tup rest)).push (HandSPX.excO C h.objs.size)).get? b = some o := fun b o e => Heap.get?_push_of_some _ (Heap.get?_push_of_some _ e)
  have hC₁ := k _ _ hC
  have hget : ((h.push (W.kdv_tup rest)).push (HandSPX.excO C h.objs.size)).get? (h.objs.size + 1) = some (HandSPX.excO C h.objs.size) := by heap_get
  have hcC : (Value.ref C :: bm).contains (.ref C) = true := by simp
  have i1 := hi.keeps k
  have b1 := (hb (.ref (h.objs.size + 1))).keeps k
  unfold isInstance
  repeat (first | with_reducible refine wpAny_loadPart_at hget ?_ | (with_reducible refine wpAny_isSubtype_exc hC₁ ?_; rw [hcC]) | wp_step)
  show wpAny _ _ (typeLookup (.ref C) _) _ _ _
  refine i1.at ?_
  refine wpAny_holding (wpAny_bind (b1.at ?_))
  refine wpAny_bind (wpAny_call (codeAny_mono hq fun r s' z => ?_))
  rcases r with e | (v | _ | _ | _) <;> first | exact z | exact z.elim | skip
  obtain ⟨rfl, z⟩ := z
  first
    | exact wpAny_pure (wpAny_pure z)
    | (wp_walk; exact z)

theorem kw_call_own (F : ExcBaseFacts B newId initId bmB) (hT : ∀ X : String, bm.contains (.type X) = bmB.contains (.type X)) {rest : List Value} {kw : List (Str × Value)} {fI : Addr}
    (hC : h.get? C = some (excClassObj nm q C N bs bm hdct sn sub ab col dd k0 k1 k2 k3 k5 newId))
    (hi : W.Looks (model prog w) h (typeLookup (.ref C) "__init__") (some (.ref fI))) (hb : ∀ self, W.Looks (model prog w) h (bindSpecial (.ref fI) self) (.ref fI, [self])) (hrest : rest.length ≤ sizeLine)
    (hq : codeAny (model prog w) (A.under (.builtin "type.__call__" ⟨.ref C :: rest, kw⟩)) (.call (.ref fI) ⟨.ref (h.objs.size + 1) :: rest, kw⟩) (W.InitBack (h.objs.size + 1) R)
      ⟨(h.push (W.kdv_tup rest)).push (HandSPX.excO C h.objs.size), g, d, t, os⟩) :
    codeAny (model prog w) A (.call (.ref C) ⟨rest, kw⟩) R ⟨h, g, d, t, os⟩ := by
  have f1 := tc_lookup
  have f2 := tc_bind (.ref C)
  have hTy : (⟨h, g, d, t, os⟩ : Shared).TypeIs (.ref C) "type" := ⟨_, hC, rfl⟩
  refine codeAny_of_tree ?_
  show wpAny _ _ (callAny (.ref C) _) _ _ _
  repeat (any_goals (first | assumption | with_reducible refine wpAny_loadPart_at hC ?_ | wp_step))
  refine ⟨rfl, ?_⟩
  refine codeAny_call_builtin_at (Code.quiet_builtin _ (by decide +kernel)) entry_typeCall (wpAny_check_type_call_sub hC (kw_type_call F hT hC hi hb hrest ?_))
  refine codeAny_mono hq fun r s' z => ?_
  rcases r with e | (v | _ | _ | _) <;> exact z
end

/-! ### what a call of such a class leaves -/
structure SuMade (h h' : Heap) (e C d : Addr) (mA : Str → Option Value) : Prop where
  keep : ∀ b o, h.get? b = some o → h'.get? b = some o
  new : h.objs.size ≤ e
  obj : ∃ t1, h'.get? e = some { cls := .ref C, dict := some d, data := .fields #[.ref t1, .none, .none, .none, .bool false, .none] }
  dbig : h.objs.size ≤ d
  dne : d ≠ e
  ns : h'.Ns1 d mA
/-- the class C, called with such arguments, makes an exception whose attributes are mA -/
def MkC (prog : Program) (w : World) (K : Frag) (mg : Str → Option Value) (C : Addr) (pos : List Value) (kw : List (Str × Value)) (mA : Str → Option Value) : Prop :=
  ∀ (A : Around) (s : Shared) (R : Result → Shared → Prop), K.In s.heap → SuMod mg s.heap → A.depth + 1 < recursionLimit →
    (∀ h' tk e d, SuMade s.heap h' e C d mA → R (.ok (.ret (.ref e))) { s with heap := h', toks := tk }) → codeAny (model prog w) A (.call (.ref C) ⟨pos, kw⟩) R s
section
variable {prog : Program} {w : World} {K : Frag} {mg : Str → Option Value} {C fI : Addr} {ps : List Str} {st : Stmt} {pos : List Value} {kw : List (Str × Value)} {mA : Str → Option Value}
theorem mkC_of (T : SuC K prog C fI ps st) (hz : pos.length ≤ sizeLine)
    (hinit : ∀ (A : Around) (s : Shared) (x t0 : Addr) (R : Result → Shared → Prop), K.In s.heap → SuMod mg s.heap → s.heap.get? x = some (HandSPX.excO C t0) → x ≠ C → K.lookup x = none → A.depth < recursionLimit →
      (∀ h' tk dx t1, SuEnd s.heap h' x C dx t1 mA → R (.ok (.ret .none)) { s with heap := h', toks := tk }) → codeAny (model prog w) A (.call (.ref fI) ⟨.ref x :: pos, kw⟩) R s) : MkC prog w K mg C pos kw mA := by
  intro A s R X Md hroom hq
  obtain ⟨nm, q, N, bs, bm, sn, sub, ab, col, dd, k0, k1, k2, k3, k5, hC, hbm⟩ := T.cls
  obtain ⟨hp, g, dr, tk, os⟩ := s
  have k : ∀ b o, hp.get? b = some o → ((hp.push (kdv_tup pos)).push (HandSPX.excO C hp.objs.size)).get? b = some o := fun b o e => Heap.get?_push_of_some _ (Heap.get?_push_of_some _ e)
  have hget : ((hp.push (kdv_tup pos)).push (HandSPX.excO C hp.objs.size)).get? (hp.objs.size + 1) = some (HandSPX.excO C hp.objs.size) := by heap_get
  have lt : ∀ {b : Addr} {o : Obj}, hp.get? b = some o → b ≠ hp.objs.size + 1 := fun e => Nat.ne_of_lt (Nat.lt_succ_of_lt (Heap.lt_size e))
  have hnx : K.lookup (hp.objs.size + 1) = none := by
    cases e : K.lookup (hp.objs.size + 1) with
    | none => rfl
    | some o => exact absurd rfl (lt (X _ _ e))
  refine kw_call_own F.excBase_ValueError (fun X => HandSPX.refsVE_contains X bm hbm) (X _ _ hC) (looks_findIn X T.iC) (fun self => bind_fn X self T.tI) hz ?_
  refine hinit _ ⟨(hp.push (kdv_tup pos)).push (HandSPX.excO C hp.objs.size), g, dr, tk, os⟩ _ hp.objs.size _ (X.keeps k) (Md.keeps k) hget (Ne.symm (lt (X _ _ hC))) hnx ?_ fun h' tk' dx t1 E => ?_
  · show A.depth + 1 < recursionLimit
    exact hroom
  · have z : hp.objs.size + 1 + 1 ≤ dx := by
      have q := E.dbig
      first
        | exact q
        | (simpa only [Heap.size_push] using q)
        | (rw [Heap.size_push, Heap.size_push] at q; exact q)
    exact ⟨rfl, hq h' tk' _ dx ⟨fun b o e => E.keep b o (lt e) (k b o e), Nat.le_succ _, ⟨t1, E.obj⟩, Nat.le_trans (Nat.le_trans (Nat.le_succ _) (Nat.le_succ _)) z, E.dne, E.ns⟩⟩
end
end DL
set_option maxHeartbeats 4000000
/-! E3: own exceptions as values: made, asked, read, raised. -/
namespace DL
open PySem PySem.Spec PySem.W PySem.Calls L2
open PyProof.Rows hiding St wpAt wpAt_bind wpAt_stack wpAt_mono

/-- an object that stands as it stands -/
def ExF (oe : Obj) (a : Addr) : HO := .ext fun h => h.get? a = some oe
theorem exF_ok {P : Program} {w : World} {H : Hp} {h : Heap} {a : Addr} {oe : Obj} (e : h.get? a = some oe) : ObjOk P w H h a (ExF oe a) := ⟨e, ⟨oe, e⟩, fun _ _ q k => k _ q⟩
theorem exF_at {P : Program} {w : World} {H : Hp} {h : Heap} {a : Addr} {oe : Obj} (x : HOk P w H h) (e : H a = some (ExF oe a)) : h.get? a = some oe := (x a _ e).1
/-- at a stands an exception of the class at C that never flew, its attributes fs -/
structure ExI (H : Hp) (C a : Addr) (fs : List (Str × V)) : Prop where
  ex : ∃ (oe : Obj) (vs : Array Value), H a = some (ExF oe a) ∧ oe.cls = .ref C ∧ oe.data = .fields vs ∧ vs[1]? = some .none ∧ ((oe.dict = none ∧ fs = []) ∨ ∃ d, oe.dict = some d ∧ H d = some (.xd fs))
theorem ExI.mono {H H' : Hp} {C a : Addr} {fs : List (Str × V)} (x : ExI H C a fs) (e : ∀ b o, (∀ xs, o ≠ .lst xs) → H b = some o → H' b = some o) : ExI H' C a fs := by
  obtain ⟨oe, vs, h1, h2, h3, h4, h5⟩ := x.ex
  refine ⟨oe, vs, e _ _ (fun _ z => nomatch z) h1, h2, h3, h4, ?_⟩
  rcases h5 with h5 | ⟨d, h5, h6⟩
  · exact .inl h5
  · exact .inr ⟨d, h5, e _ _ (fun _ z => nomatch z) h6⟩
theorem ExI.same {H H' : Hp} {C a : Addr} {fs : List (Str × V)} (x : ExI H C a fs) (e : Same H H') : ExI H' C a fs := x.mono fun b o _ h => e b o h

section
variable {X : Cx} {pins : List (Addr × Obj)} {σ : St} {H : Hp} {s : Shared}
/-- two new objects laid and tracked -/
theorem inv_laid2 {h' : Heap} {a d : Addr} {o u : HO} {t' : Nat} (I : Inv X pins σ H s) (k : ∀ b v, s.heap.get? b = some v → h'.get? b = some v) (ha : s.heap.objs.size ≤ a) (hd : s.heap.objs.size ≤ d) (hne : d ≠ a)
    (nu : ObjOk X.prog X.w (upd (upd H d u) a o) h' d u) (no : ObjOk X.prog X.w (upd (upd H d u) a o) h' a o) : Inv X pins σ (upd (upd H d u) a o) { s with heap := h', toks := t' } := by
  have na : H a = none := I.hok.fresh ha
  have nd : H d = none := I.hok.fresh hd
  have old : ∀ {b : Addr} {v : Obj}, s.heap.get? b = some v → b ≠ a ∧ b ≠ d := fun e => ⟨Nat.ne_of_lt (Nat.lt_of_lt_of_le (Heap.lt_size e) ha), Nat.ne_of_lt (Nat.lt_of_lt_of_le (Heap.lt_size e) hd)⟩
  have at_ : ∀ {b : Addr}, b ≠ a → b ≠ d → upd (upd H d u) a o b = H b := fun h1 h2 => by rw [upd_ne h1, upd_ne h2]
  have st : ∀ {b : Addr} {v : HO}, H b = some v → upd (upd H d u) a o b = some v := fun e => by
    rw [at_ (ne_of_none e na) (ne_of_none e nd)]
    exact e
  refine I.un ⟨fun b v e _ _ _ => k b v e, fun b v e _ _ _ => ⟨v.slots, k b v e⟩, fun b v e n _ => ?_, fun b v e _ => ⟨v, k b v e⟩, fun b xs e => st e, fun b v xs e => st e, fun b ps e => ⟨#[], by rw [st e]; simp⟩⟩ fun b v e => ?_
  · rw [at_ (old e).1 (old e).2]
    exact n
  · by_cases hb : b = a
    · subst hb
      rw [upd_same] at e
      cases e
      exact no
    · by_cases hb2 : b = d
      · subst hb2
        rw [upd_ne hb, upd_same] at e
        cases e
        exact nu
      · rw [at_ hb hb2] at e
        exact (I.hok b v e).stay (fun c v _ q => k c v q) (fun c q => st q) fun c xs q => st q
theorem suMod (I : Inv X pins σ H s) (hn : X.mg "super" = none) : SuMod X.mg s.heap := by
  obtain ⟨mb, b1, b2⟩ := I.mod.blt
  exact ⟨I.mod.glob.keeps I.bk, hn, ⟨mb, b1.keeps I.bk, (b2 "super" (by decide)).trans (by decide +kernel)⟩, I.nolimit⟩
/-- what a making leaves, tracked -/
theorem made_inv {h' : Heap} {tk : Nat} {e C d : Addr} {mA : Str → Option Value} {fs : List (Str × V)} (I : Inv X pins σ H s) (M : SuMade s.heap h' e C d mA) (hr : ∀ f, RelO (fs.lookup f) (mA f)) :
    ∃ H', Inv X pins σ H' { s with heap := h', toks := tk } ∧ Same H H' ∧ H e = none ∧ ExI H' C e fs := by
  obtain ⟨t1, ho⟩ := M.obj
  have na : H e = none := I.hok.fresh M.new
  have nd : H d = none := I.hok.fresh M.dbig
  refine ⟨upd (upd H d (.xd fs)) e (ExF _ e), inv_laid2 I M.keep M.new M.dbig M.dne ⟨mA, M.ns, hr⟩ (exF_ok ho), fun b o q => ?_, na, ⟨_, _, upd_same, rfl, rfl, rfl, .inr ⟨d, rfl, by rw [upd_ne M.dne, upd_same]⟩⟩⟩
  rw [upd_ne (ne_of_none q na), upd_ne (ne_of_none q nd)]
  exact q
end

/-- the reading of a making: the new exception's attributes by the arguments -/
def tSu (C : Addr) (fsOf : List V → Option (List (Str × V))) (ta : TA) : TE := fun σ H Q => ta σ H fun vs H1 => ∃ fs, fsOf vs = some fs ∧ ∀ a H2, Same H1 H2 → H1 a = none → ExI H2 C a fs → Q (.ref a) H2
/-- what a class must keep so that its call with such arguments is known: kw: the names of the arguments by name -/
structure SuK (P : Program) (w : World) (K : Frag) (mg : Str → Option Value) (C : Addr) (kw : List Str) (fsOf : List V → Option (List (Str × V))) : Prop where
  kC : keepIn K (.ref C) = true
  no : mg "super" = none
  mks : ∀ (vs : List V) (us : List Value) (fs : List (Str × V)), Vals vs us → fsOf vs = some fs → ∃ mA, MkC P w K mg C (us.take (us.length - kw.length)) (kw.zip (us.drop (us.length - kw.length))) mA ∧ ∀ f, RelO (fs.lookup f) (mA f)
section
variable {X : Cx} {C : Addr} {k : Nat} {fsOf : List V → Option (List (Str × V))} {x : Str} {e : Expr} {es : List Expr} {kws : List Keyword} {ta : TA} {p pos : Pos} {ks : List Str}
theorem pe_su (S : SuK X.prog X.w X.K X.mg C [] fsOf) (hr : X.A.depth + 1 < recursionLimit) (hg : Gl X x) (hm : X.mg x = some (.ref C)) (ha : PA X (e :: es) ta)
    (hdb : (x == ("__debug__" : Str)) = false := by decide) (he : starEach (e :: es) X.env = (false, eval e X.env) :: starEach es X.env := by rfl) (hpl : (backTo pos (starEach es X.env)).any (·.1) = false := by rfl) :
    PE X (.Call (.Name x p) (e :: es) [] pos) (tSu C fsOf ta) := by
  refine ⟨fun pins s σ H Q I h => ?_⟩
  refine wpAny_Call_Name_kw (ld_glob I hg hm ?_ hdb)
  refine PySem.W.callWith_K (h₀ := X.base) I.ok.mod.kin S.kC (thn (ha.run pos pins s σ H _ I h) fun us s1 ⟨vs, H1, I1, r1, fs, hf, q⟩ => ⟨I1.kIn, ?_⟩) he hpl
  obtain ⟨mA, M, hA⟩ := S.mks vs us fs r1 hf
  have M' : MkC X.prog X.w X.K X.mg C us [] mA := by simpa using M
  refine wpAny_call (M' _ _ _ I1.kIn (suMod I1 S.no) hr fun h' tk e d Md => ?_)
  obtain ⟨H', I', sm, ne, xi⟩ := made_inv (tk := tk) I1 Md hA
  exact ⟨.ref e, H', I', rfl, q _ _ sm ne xi⟩
theorem pe_suK (S : SuK X.prog X.w X.K X.mg C ks fsOf) (hr : X.A.depth + 1 < recursionLimit) (hg : Gl X x) (hm : X.mg x = some (.ref C)) (ha : PK X kws ta) (hl : ∀ vs fs, fsOf vs = some fs → vs.length = ks.length)
    (hall : (backToKw pos (keywordEach kws X.env)).all (·.1.isSome) = true := by rfl) (hks : (backToKw pos (keywordEach kws X.env)).filterMap (·.1) = ks := by rfl) (hdb : (x == ("__debug__" : Str)) = false := by decide)
    (hpl : ((backTo pos (starEach [] X.env)).any (·.1) || (backToKw pos (keywordEach kws X.env)).any (·.1.isNone)) = false := by rfl) :
    PE X (.Call (.Name x p) [] kws pos) (tSu C fsOf ta) := by
  refine ⟨fun pins s σ H Q I h => ?_⟩
  refine wpAny_Call_Name_kw (ld_glob I hg hm ?_ hdb)
  refine PySem.W.callWith_KW0 (h₀ := X.base) I.ok.mod.kin S.kC hall (thn (ha.run pos pins s σ H _ I h) fun us s1 ⟨vs, H1, I1, r1, fs, hf, q⟩ => ⟨I1.kIn, ?_⟩) hpl
  rw [hks]
  obtain ⟨mA, M, hA⟩ := S.mks vs us fs r1 hf
  have hlen : us.length = ks.length := r1.length.symm.trans (hl vs fs hf)
  have M' : MkC X.prog X.w X.K X.mg C [] (ks.zip us) mA := by simpa [hlen] using M
  refine wpAny_call (M' _ _ _ I1.kIn (suMod I1 S.no) hr fun h' tk e d Md => ?_)
  obtain ⟨H', I', sm, ne, xi⟩ := made_inv (tk := tk) I1 Md hA
  exact ⟨.ref e, H', I', rfl, q _ _ sm ne xi⟩
end
end DL
set_option maxHeartbeats 4000000
/-! E4: own exceptions raised; without __init__; asked by isinstance; read. -/
namespace DL
open PySem PySem.Spec PySem.W PySem.Calls L2
open PyProof.Rows hiding St wpAt wpAt_bind wpAt_stack wpAt_mono

/-! ### raised -/
section
variable {X : Cx} {pins : List (Addr × Obj)} {σ : St} {H : Hp} {s : Shared}
theorem made_mk {h' : Heap} {tk : Nat} {e C d : Addr} {mA : Str → Option Value} {fs : List (Str × V)} {Q : XK} (I : Inv X pins σ H s) (M : SuMade s.heap h' e C d mA) (hr : ∀ f, RelO (fs.lookup f) (mA f)) (R : Raises X (.ref C))
    (q : ∀ d, H d = none → Q (.ref C) (some d) (upd H d (.xd fs))) : MkP X pins σ Q (.ref e) { s with heap := h', toks := tk } := by
  obtain ⟨t1, ho⟩ := M.obj
  obtain ⟨G, g1, g2⟩ := restrict h' fun b => decide (b ≠ e)
  have gk : ∀ b, b ≠ e → G.get? b = h'.get? b := fun b hb => g1 b (decide_eq_true hb)
  have ge : G.get? e = none := g2 e (by simp)
  have nd : H d = none := I.hok.fresh M.dbig
  have ne : H e = none := I.hok.fresh M.new
  have old : ∀ {b : Addr} {o : Obj}, s.heap.get? b = some o → b ≠ e := fun z => Nat.ne_of_lt (Nat.lt_of_lt_of_le (Heap.lt_size z) M.new)
  have J : Inv X pins σ (upd H d (.xd fs)) { s with heap := G, toks := tk } := I.laidN (t' := tk) (fun b o z => by rw [gk b (old z)]; exact M.keep b o z) (Heap.get?_none_of_le M.dbig) nd
    ⟨mA, M.ns.at fun o y => (gk d M.dne).trans y, hr⟩
  refine ⟨e, _, _, { s with heap := G, toks := tk }, _, .ref C, some d, rfl, J, fun b o z => ?_, ge, ho, ⟨rfl, rfl⟩, rfl, rfl, ?_, rfl, I.bare, R, q d nd⟩
  · by_cases hb : b = e
    · have z' : G.get? b = some o := z
      rw [hb, ge] at z'
      cases z'
    · exact (gk b hb).symm.trans z
  · rw [upd_ne (Ne.symm M.dne)]
    exact ne
end
def tSuR (C : Addr) (fsOf : List V → Option (List (Str × V))) (ta : TA) : St → Hp → XK → Prop := fun σ H Q => ta σ H fun vs H1 => ∃ fs, fsOf vs = some fs ∧ ∀ d, H1 d = none → Q (.ref C) (some d) (upd H1 d (.xd fs))
section
variable {X : Cx} {C : Addr} {k : Nat} {fsOf : List V → Option (List (Str × V))} {x : Str} {e : Expr} {es : List Expr} {kws : List Keyword} {ta : TA} {p pos : Pos} {ks : List Str}
theorem pmk_su (S : SuK X.prog X.w X.K X.mg C [] fsOf) (hr : X.A.depth + 1 < recursionLimit) (hg : Gl X x) (hm : X.mg x = some (.ref C)) (R : Raises X (.ref C)) (ha : PA X (e :: es) ta)
    (hdb : (x == ("__debug__" : Str)) = false := by decide) (he : starEach (e :: es) X.env = (false, eval e X.env) :: starEach es X.env := by rfl) (hpl : (backTo pos (starEach es X.env)).any (·.1) = false := by rfl) :
    PMk X (.Call (.Name x p) (e :: es) [] pos) (tSuR C fsOf ta) := by
  intro pins s σ H Q I h
  refine wpAny_Call_Name_kw (ld_glob I hg hm ?_ hdb)
  refine PySem.W.callWith_K (h₀ := X.base) I.ok.mod.kin S.kC (thn (ha.run pos pins s σ H _ I h) fun us s1 ⟨vs, H1, I1, r1, fs, hf, q⟩ => ⟨I1.kIn, ?_⟩) he hpl
  obtain ⟨mA, M, hA⟩ := S.mks vs us fs r1 hf
  have M' : MkC X.prog X.w X.K X.mg C us [] mA := by simpa using M
  exact wpAny_call (M' _ _ _ I1.kIn (suMod I1 S.no) hr fun h' tk e d Md => made_mk (tk := tk) I1 Md hA R q)
theorem pmk_suK (S : SuK X.prog X.w X.K X.mg C ks fsOf) (hr : X.A.depth + 1 < recursionLimit) (hg : Gl X x) (hm : X.mg x = some (.ref C)) (R : Raises X (.ref C)) (ha : PK X kws ta) (hl : ∀ vs fs, fsOf vs = some fs → vs.length = ks.length)
    (hall : (backToKw pos (keywordEach kws X.env)).all (·.1.isSome) = true := by rfl) (hks : (backToKw pos (keywordEach kws X.env)).filterMap (·.1) = ks := by rfl) (hdb : (x == ("__debug__" : Str)) = false := by decide)
    (hpl : ((backTo pos (starEach [] X.env)).any (·.1) || (backToKw pos (keywordEach kws X.env)).any (·.1.isNone)) = false := by rfl) :
    PMk X (.Call (.Name x p) [] kws pos) (tSuR C fsOf ta) := by
  intro pins s σ H Q I h
  refine wpAny_Call_Name_kw (ld_glob I hg hm ?_ hdb)
  refine PySem.W.callWith_KW0 (h₀ := X.base) I.ok.mod.kin S.kC hall (thn (ha.run pos pins s σ H _ I h) fun us s1 ⟨vs, H1, I1, r1, fs, hf, q⟩ => ⟨I1.kIn, ?_⟩) hpl
  rw [hks]
  obtain ⟨mA, M, hA⟩ := S.mks vs us fs r1 hf
  have hlen : us.length = ks.length := r1.length.symm.trans (hl vs fs hf)
  have M' : MkC X.prog X.w X.K X.mg C [] (ks.zip us) mA := by simpa [hlen] using M
  exact wpAny_call (M' _ _ _ I1.kIn (suMod I1 S.no) hr fun h' tk e d Md => made_mk (tk := tk) I1 Md hA R q)

/-! ### a class without __init__, called without arguments -/
theorem pe_ex0 (q : excIn X.K C [.type "ValueError", .type "Exception", .type "BaseException", .type "object"] "ValueError.__new__" = true) (kC : keepIn X.K (.ref C) = true) (hg : Gl X x) (hm : X.mg x = some (.ref C))
    (hdb : (x == ("__debug__" : Str)) = false := by decide) : PE X (.Call (.Name x p) [] [] pos) (fun _ H Q => ∀ a H2, Same H H2 → H a = none → ExI H2 C a [] → Q (.ref a) H2) := by
  refine ⟨fun pins s σ H Q I h => ?_⟩
  refine wpAny_Call_Name_kw (ld_glob I hg hm ?_ hdb)
  refine PySem.W.callWith_K0 I.kIn kC ?_
  show wpAny _ _ (call (.ref C) []) _ _ _
  obtain ⟨bm, N, nm, qn, bs, hdct, sn, sub, ab, col, dd, k0, k1, k2, k3, k5, mN, hC, hN, hni, T⟩ := exc_obj I.kIn q
  refine wpAny_call_exc_subT F.excBase_ValueError T hC hN hni (fun h' a hm => ?_) (by show 0 ≤ sizeLine; omega)
  have hn : H a = none := I.hok.gone hm.new
  obtain ⟨t, ht, _, _⟩ := hm.there
  exact ⟨.ref a, upd H a (ExF _ a), I.laidN hm.keeps hm.new hn (exF_ok ht), rfl, h _ _ (fun b o e => by rw [upd_ne (ne_of_none e hn)]; exact e) hn ⟨_, _, upd_same, rfl, rfl, rfl, .inl ⟨rfl, rfl⟩⟩⟩
theorem pmk_ex0 (q : excIn X.K C [.type "ValueError", .type "Exception", .type "BaseException", .type "object"] "ValueError.__new__" = true) (kC : keepIn X.K (.ref C) = true) (hg : Gl X x) (hm : X.mg x = some (.ref C)) (R : Raises X (.ref C))
    (hdb : (x == ("__debug__" : Str)) = false := by decide) : PMk X (.Call (.Name x p) [] [] pos) (fun _ H Q => Q (.ref C) none H) := by
  intro pins s σ H Q I h
  refine wpAny_Call_Name_kw (ld_glob I hg hm ?_ hdb)
  refine PySem.W.callWith_K0 I.kIn kC ?_
  show wpAny _ _ (call (.ref C) []) _ _ _
  obtain ⟨bm, N, nm, qn, bs, hdct, sn, sub, ab, col, dd, k0, k1, k2, k3, k5, mN, hC, hN, hni, T⟩ := exc_obj I.kIn q
  refine wpAny_call_exc_subT F.excBase_ValueError T hC hN hni (fun h' a hm => ?_) (by show 0 ≤ sizeLine; omega)
  exact mk_of I hm R h (I.hok.gone hm.new)
end

/-! ### asked, read -/
/-- what a class must say so that its instances can be asked and read -/
structure EiC (K : Frag) (C : Addr) : Prop where
  ga : findIn K (.ref C) "__getattribute__" = some (some (.builtin "BaseException.__getattribute__"))
  gg : findIn K (.ref C) "__getattr__" = some none
  ex : subIn K (.ref C) (.type "BaseException") = some true
  hd : hasDictIn K C = true
  ca : findIn K (.ref C) "__class__" = some (some (.builtin "object.__class__"))
  hn : specialIn K (.builtin "object.__class__") "__get__" = some (some (.builtin "getset_descriptor.__get__"))
  ht : takesIn K (.builtin "object.__class__") = some true
  mo : mroIn K C (.type "object") = some true
  ty : typeIn K (.ref C) = some (.type "type")
/-- at a stands an exception of the class at C, whatever befell it, its attributes fs -/
structure ExJ (H : Hp) (C a : Addr) (fs : List (Str × V)) : Prop where
  ex : ∃ (oe : Obj) (vs : Array Value), H a = some (ExF oe a) ∧ oe.cls = .ref C ∧ oe.data = .fields vs ∧ ((oe.dict = none ∧ fs = []) ∨ ∃ d, oe.dict = some d ∧ H d = some (.xd fs))
theorem ExI.j {H : Hp} {C a : Addr} {fs : List (Str × V)} (x : ExI H C a fs) : ExJ H C a fs := by
  obtain ⟨oe, vs, h1, h2, h3, _, h5⟩ := x.ex
  exact ⟨oe, vs, h1, h2, h3, h5⟩
theorem ExJ.mono {H H' : Hp} {C a : Addr} {fs : List (Str × V)} (x : ExJ H C a fs) (e : ∀ b o, (∀ xs, o ≠ .lst xs) → H b = some o → H' b = some o) : ExJ H' C a fs := by
  obtain ⟨oe, vs, h1, h2, h3, h5⟩ := x.ex
  refine ⟨oe, vs, e _ _ (fun _ z => nomatch z) h1, h2, h3, ?_⟩
  rcases h5 with h5 | ⟨d, h5, h6⟩
  · exact .inl h5
  · exact .inr ⟨d, h5, e _ _ (fun _ z => nomatch z) h6⟩
theorem ExJ.same {H H' : Hp} {C a : Addr} {fs : List (Str × V)} (x : ExJ H C a fs) (e : Same H H') : ExJ H' C a fs := x.mono fun b o _ h => e b o h
/-- as the model's instance -/
theorem ExJ.inst {P : Program} {w : World} {H : Hp} {h : Heap} {C a : Addr} {fs : List (Str × V)} (x : ExJ H C a fs) (ok : HOk P w H h) : ∃ ox od, InstAt h a ox C od ∧
    ((od = none ∧ fs = []) ∨ ∃ (o : Obj) (mA : Str → Option Value), od = some o ∧ (∀ n, lookIn n o = some (mA n)) ∧ ∀ f, RelO (fs.lookup f) (mA f)) := by
  obtain ⟨oe, vs, h1, h2, h3, h5⟩ := x.ex
  have e := exF_at ok h1
  have nc : notCls oe = true := by unfold notCls; rw [h3] <;> rfl
  rcases h5 with ⟨h5, h6⟩ | ⟨d, h5, h6⟩
  · refine ⟨oe, none, ⟨e, h2, nc, ?_⟩, .inl ⟨rfl, h6⟩⟩
    rw [h5]
    trivial
  · obtain ⟨mA, hns, hr⟩ := (show ObjOk P w H h d (.xd fs) from ok d _ h6)
    obtain ⟨od, ho, hl⟩ := lookIn_ns hns
    refine ⟨oe, some od, ⟨e, h2, nc, ?_⟩, .inr ⟨od, mA, rfl, hl, hr⟩⟩
    rw [h5]
    exact ho
/-- isinstance(e, c) -/
def rIsX (K : Frag) : List V → Hp → VK → Prop := fun xs H Q => ∃ (a C : Addr) (fs : List (Str × V)) (c : V) (u : Value) (b : Bool), xs = [.ref a, c] ∧ ExJ H C a fs ∧ EiC K C ∧ ClsV c u ∧ kitOne K (.ref C) u = some b ∧ Q (.bl b) H
/-- isinstance(e, (c1, c2, ..)) -/
def rIsXT (K : Frag) : List V → Hp → VK → Prop := fun xs H Q => ∃ (a C tp : Addr) (fs : List (Str × V)) (cs : List V) (us : List Value) (b : Bool), xs = [.ref a, .ref tp] ∧ ExJ H C a fs ∧ EiC K C ∧ H tp = some (.tup cs) ∧ Paired ClsV cs us ∧ kitAny K (.ref C) us = some b ∧ Q (.bl b) H
section
variable {X : Cx}
theorem EiC.kit {K : Frag} {C a : Addr} {ox : Obj} {od : Option Obj} (T : EiC K C) : KitX K (.ref a) (.ref C) (fun h => InstAt h a ox C od) :=
  kitx_exc (by obtain ⟨cd, hc, _⟩ := any_some T.hd; rw [hc]; rfl) T.ga T.gg T.ex T.ca T.hn T.ht T.mo
theorem call_isX : CallR X (.builtin "isinstance") (rIsX X.K) := by
  intro pins s σ H xs us Q I r h
  obtain ⟨a, C, fs, c, u, b, rfl, xj, T, k, e, q⟩ := h
  obtain ⟨u1, u2, rfl, r1, r2⟩ := vals2 r
  cases (show u1 = Value.ref a from r1)
  have e2 := k.eq r2
  subst e2
  obtain ⟨ox, od, J, _⟩ := xj.inst I.hok
  exact kia_one T.kit I.kIn J e (fun z => nomatch z) fun tk => ⟨.bl b, H, I.tok tk, rfl, q⟩
theorem call_isXT : CallR X (.builtin "isinstance") (rIsXT X.K) := by
  intro pins s σ H xs us Q I r h
  obtain ⟨a, C, tp, fs, cs, ws, b, rfl, xj, T, hT, k, e, q⟩ := h
  obtain ⟨u1, u2, rfl, r1, r2⟩ := vals2 r
  cases (show u1 = Value.ref a from r1)
  cases (show u2 = Value.ref tp from r2)
  obtain ⟨ox, od, J, _⟩ := xj.inst I.hok
  obtain ⟨_, its, rv, o, h1, h2, n, h3⟩ := (show ObjOk X.prog X.w H s.heap tp (.tup cs) from I.hok tp _ hT)
  have e3 := ClsV.all k rv
  subst e3
  obtain ⟨oc, od', dt, sl⟩ := o
  simp only at h2 h3
  subst h2 h3
  exact kia_tup T.kit I.kIn J h1 e (fun z => nomatch z) fun tk => ⟨.bl b, H, I.tok tk, rfl, q⟩
/-- e.f -/
def tXj (K : Frag) (f : Str) (te : TE) : TE := fun σ H Q => te σ H fun x H1 => ∃ (a C : Addr) (fs : List (Str × V)) (v : V), x = .ref a ∧ ExJ H1 C a fs ∧ EiC K C ∧ findIn K (.ref C) f = some none ∧ fs.lookup f = some v ∧ Q v H1
theorem pe_xj {e : Expr} {te : TE} {pos : Pos} {n : Str} (he : PE X e te) (hb : attributeBase e n X.env (eval e X.env) = eval e X.env := by rfl) : PE X (.Attribute e n pos) (tXj X.K n te) := by
  refine ⟨fun pins s σ H Q I h => ?_⟩
  refine attr_of hb (thn (he.run pins s σ H _ I h) fun u s1 ⟨x, H1, I1, rx, a, C, fs, v, ex, xj, T, hno, l, q⟩ => ?_)
  subst ex
  obtain rfl : u = Value.ref a := rx
  obtain ⟨ox, od, J, hod⟩ := xj.inst I1.hok
  rcases hod with ⟨_, e2⟩ | ⟨o, mA, rfl, hl, hr⟩
  · rw [e2] at l
    cases l
  · obtain ⟨u, hu, ru⟩ := RelO.some_of (v := v) (o := mA n) (by rw [← l]; exact hr n)
    exact HandSPX.exc_get I1.kIn J T.ga T.gg T.ex (findObj_own T.hd hno rfl (by rw [hl, hu])) (handed_of ru) ⟨v, H1, I1.tok _, ru, q⟩
theorem EiC.raises {C : Addr} (T : EiC X.K C) : Raises X (.ref C) := raises_own T.ex T.ty
end

/-! ### one attribute, two attributes -/
def fs1 (n : Str) : List V → Option (List (Str × V))
  | [v] => some [(n, v)]
  | _ => none
def fs2 : List V → Option (List (Str × V))
  | [r, x] => some [("word", x), ("row", r)]
  | _ => none
def mA1 (n : Str) (u : Value) : Str → Option Value := fun y => if y = n then some u else none
def mA2 (v u : Value) : Str → Option Value := fun y => if y = "word" then some u else if y = "row" then some v else none
theorem rel1 {n : Str} {v : V} {u : Value} (r : RelV v u) (f : Str) : RelO (List.lookup f [(n, v)]) (mA1 n u f) := by
  unfold mA1
  rw [List.lookup_cons]
  by_cases e : f = n
  · subst e
    simp only [beq_self_eq_true, if_true]
    exact r
  · have q : (f == n) = false := beq_eq_false_iff_ne.mpr e
    rw [q, if_neg e]
    trivial
theorem rel2 {r x : V} {v u : Value} (rr : RelV r v) (rx : RelV x u) (f : Str) : RelO (List.lookup f [(("word" : Str), x), ("row", r)]) (mA2 v u f) := by
  unfold mA2
  rw [List.lookup_cons, List.lookup_cons]
  by_cases e : f = "word"
  · subst e
    simp only [beq_self_eq_true, if_true]
    exact rx
  · have q : (f == ("word" : Str)) = false := beq_eq_false_iff_ne.mpr e
    rw [q, if_neg e]
    by_cases e2 : f = "row"
    · subst e2
      simp only [beq_self_eq_true, if_true]
      exact rr
    · have q2 : (f == ("row" : Str)) = false := beq_eq_false_iff_ne.mpr e2
      rw [q2, if_neg e2]
      trivial
section
variable {P : Program} {w : World} {K : Frag} {mg : Str → Option Value} {C : Addr}
theorem suK1 {n : Str} (kC : keepIn K (.ref C) = true) (no : mg "super" = none) (h : ∀ u, MkC P w K mg C [u] [] (mA1 n u)) : SuK P w K mg C [] (fs1 n) := ⟨kC, no, fun vs us fs r e => by
  match vs, r, e with
  | [v], .cons r1 .nil, e =>
    cases e
    rename_i u
    exact ⟨mA1 n u, h u, rel1 r1⟩⟩
theorem suK1k {n : Str} (kC : keepIn K (.ref C) = true) (no : mg "super" = none) (h : ∀ u, MkC P w K mg C [] [(n, u)] (mA1 n u)) : SuK P w K mg C [n] (fs1 n) := ⟨kC, no, fun vs us fs r e => by
  match vs, r, e with
  | [v], .cons r1 .nil, e =>
    cases e
    rename_i u
    exact ⟨mA1 n u, h u, rel1 r1⟩⟩
theorem suK2 (kC : keepIn K (.ref C) = true) (no : mg "super" = none) (h : ∀ v u, MkC P w K mg C [v, u] [] (mA2 v u)) : SuK P w K mg C [] fs2 := ⟨kC, no, fun vs us fs r e => by
  match vs, r, e with
  | [v, x], .cons r1 (.cons r2 .nil), e =>
    cases e
    exact ⟨_, h _ _, rel2 r1 r2⟩⟩
theorem suK2k (kC : keepIn K (.ref C) = true) (no : mg "super" = none) (h : ∀ v u, MkC P w K mg C [] [("row", v), ("word", u)] (mA2 v u)) : SuK P w K mg C ["row", "word"] fs2 := ⟨kC, no, fun vs us fs r e => by
  match vs, r, e with
  | [v, x], .cons r1 (.cons r2 .nil), e =>
    cases e
    exact ⟨_, h _ _, rel2 r1 r2⟩⟩
end
end DL
set_option maxHeartbeats 4000000
/-! E5: quiet defs (no raise, no loop over an iterator's end): called anywhere, within an except suite too. -/
namespace DL
open PySem PySem.Spec PySem.W PySem.Calls L2
open PyProof.Rows hiding St wpAt wpAt_bind wpAt_stack wpAt_mono
open L2H (RoomH roomH_of)

/-- what a quiet def keeps -/
structure FnQ (P : Program) (w : World) (K : Frag) (mg : Str → Option Value) (base : Heap) (k : Nat) (f : Addr) (fd : FuncData) (ps : List Str) (sp : Sp) : Prop where
  size : ∀ vs H Q E, sp vs H Q E → vs.length = ps.length
  goes : ∀ (A : Around) (outer : List Env) (s : Shared) (H : Hp) (args : Args) (us : List Value) (vs : List V) (Q : VK) (E : XK), RoomH k A → Env0 P w K mg base A outer s H →
    BindsTo s fd args (ps.zip us) → Vals vs us → sp vs H Q E → codeAny (model P w) A (.call (.ref f) args) (CR CX0 outer P w H s Q E) s
/-- the context of such a def's body -/
def cxQ (P : Program) (w : World) (K : Frag) (mg : Str → Option Value) (base : Heap) (N : List Str) (qual : Str) (scope : Scope) (f : Addr) (cd : Value) (A : Around) (outer : List Env) (s : Shared) (H : Hp) (E : XK) : Cx :=
  { cxOf CX0 P w K mg base N qual scope f cd A outer s H E with calm := false }
section
variable {P : Program} {w : World} {K : Frag} {mg : Str → Option Value} {base : Heap}
theorem inv_startQ {N ps : List Str} {qual : Str} {scope : Scope} {f : Addr} {cd : Value} {A : Around} {outer : List Env} {s s1 : Shared} {H : Hp} {E : XK} {us : List Value} {vs : List V}
    (S : FnScope N ps scope) (e0 : Env0 P w K mg base A outer s H) (hl : vs.length = ps.length) (r : Vals vs us)
    (x : InCallC s s.heap.objs.size (bindL (envOfC qual scope s.heap.objs.size f cd).kindOf (ps.zip us) fun _ => none) (cellsFrom (s.heap.objs.size + 1) scope.names []) (bindC (envOfC qual scope s.heap.objs.size f cd).kindOf (ps.zip us) fun _ => none) s1) :
    Inv (cxQ P w K mg base N qual scope f cd A outer s H E) [] (L2.start N vs) H s1 := by
  have hpl : ps.length ≤ N.length := by have := congrArg List.length S.pre; rw [List.length_take] at this; omega
  obtain ⟨h1, tk, rfl, hk⟩ := x.done
  have noA : ∀ b : Addr, b ∉ (cxQ P w K mg base N qual scope f cd A outer s H E).ex := fun b z => absurd (show b ∈ ([] : List Addr) from z) (by simp)
  refine ⟨⟨e0.mod, S.kind, rfl, rfl, Nat.le_refl _, fun y z c h1 h2 => ?_, fun y hy => ?_, fun y c _ h => ?_, (fun z => Bool.noConfusion (show false = true from z)), Around.frames_deeper e0.frames, .inr ⟨rfl, rfl⟩, fun b z => absurd z (noA b), e0.bs, e0.bsz, fun b _ _ => noA b, fun b z => absurd z (noA b), e0.funs, e0.frf⟩,
    rfl, e0.bare, Un.kept hk, ⟨_, x.toInCall.ns, fun i y v h1 h2 h3 => ?_⟩, fun y c h => ⟨_, x.cell y c h⟩, e0.hok.fresh (Nat.le_refl _), fun y c h => ?_, fun p hp => absurd (show p ∈ ([] : List (Addr × Obj)) from hp) (by simp), e0.hok.kept hk, ?_⟩
  · exact name_of_addr x.apart (PySem.mem_of_lookup h1) (PySem.mem_of_lookup h2)
  · have hy : scope.names.lookup y = some .cell ∨ scope.names.lookup y = some .free := hy
    rcases hy with hy | hy
    · exact cell_has hy
    · exact absurd rfl (S.nofree _ (PySem.mem_of_lookup hy))
  · exact Nat.le_of_lt (x.above y c (PySem.mem_of_lookup h))
  · have hi : i < vs.length := by
      unfold L2.start at h2
      by_cases hi : i < vs.length
      · exact hi
      · rw [List.getElem?_append_right (by simpa using hi)] at h2
        rw [List.getElem?_replicate] at h2
        split at h2 <;> cases h2
    have ha : vs[i]? = some v := by
      unfold L2.start at h2
      rw [List.getElem?_append_left (by simpa using hi), List.getElem?_map] at h2
      cases e : vs[i]? with
      | none => rw [e] at h2; cases h2
      | some a => rw [e] at h2; cases h2; rfl
    obtain ⟨u, hu, rv⟩ := r.get ha
    have hp : ps[i]? = some y := by
      rw [← S.pre, List.getElem?_take_of_lt (by omega)]; exact h1
    have ndP : ps.Nodup := by rw [← S.pre]; exact S.nd.sublist (List.take_sublist _ _)
    refine ⟨u, rv, ?_⟩
    rcases S.par y (List.mem_of_getElem? hp) with k | k
    · exact .inl ⟨k, bindL_get ndP hp hu k⟩
    · obtain ⟨c, e⟩ := cell_has (n := s.heap.objs.size + 1) k
      refine .inr ⟨.inl k, c, e, ?_⟩
      have q := x.cell y c e
      rw [bindC_get ndP hp hu (by show scope.names.lookup y ≠ _; rw [k]; decide)] at q
      exact q
  · exact e0.hok.fresh (Nat.le_of_lt (x.above y c (PySem.mem_of_lookup h)))
  · unfold L2.start
    show _ = N.length
    rw [List.length_append, List.length_map, List.length_replicate]
    omega
theorem fnQ_mk {x qual : Str} {st : Stmt} {f : Addr} {fd : FuncData} {N ps : List Str} {k : Nat} {sp : Sp} (F : Fun K x qual st f fd) (S : FnScope N ps (defScope st)) (len : ∀ vs H Q E, sp vs H Q E → vs.length = ps.length)
    (body : ∀ (cdv : Value) (A : Around) (outer : List Env) (s : Shared) (H : Hp) (vs : List V) (Q : VK) (E : XK), RoomH k (A.deeper (envOfC qual (defScope st) s.heap.objs.size f cdv)) → sp vs H Q E →
      ∃ t, PSs (cxQ P w K mg base N qual (defScope st) f cdv A outer s H E).nox (defBody st) t ∧ t { nx := fun _ H' => Q .non H', rt := Q } (L2.start N vs) H) : FnQ P w K mg base (k + 1) f fd ps sp := by
  obtain ⟨oc, od, kV, doc, pm, an, cdv, ct, osl, rfl, look, code⟩ := F.ex
  refine ⟨len, fun A outer s H args us vs Q E room e0 bnd vals told => ?_⟩
  have lens := len _ _ _ _ told
  have inK : K.In s.heap := e0.mod.kin.keeps fun b o e => (e0.bs b o e).1
  have nol : s.heap.NoLimit := e0.mod.nolimit.keeps fun b o e => (e0.bs b o e).1
  have kinds : ∀ y ∈ ps.zip us, (defScope st).names.lookup y.1 = some .local ∨ ((defScope st).names.lookup y.1 = some .cell ∧ ((cellsFrom (s.heap.objs.size + 1) (defScope st).names []).lookup y.1).isSome = true) := by
    rintro ⟨n, v⟩ hy
    cases S.par n (List.of_mem_zip hy).1 with
    | inl q => exact .inl q
    | inr q => exact .inr ⟨q, PySem.W.cellsFrom_some _ _ _ (.inl q)⟩
  refine codeAny_call_function room.depth (inK _ _ look) rfl S.co S.gen rfl (PySem.W.codeRec_of inK code) ?_
  refine bnd _ _ _ _ (wpAny_newFunctionEnv_cells S.kind kinds fun env he s1 x => ?_)
  subst he
  refine ⟨nol.keeps x.toInCall.keep, codeAny_func ?_⟩
  obtain ⟨t, ht, hq⟩ := body cdv A outer s H vs Q E (room.deeper _) told
  have I : Inv (cxQ P w K mg base N qual (defScope st) f cdv A outer s H E) [] (L2.start N vs) H s1 := inv_startQ S e0 lens vals x
  refine wpAny_mono (ht.nox.run [] s1 (L2.start N vs) H _ I hq) (fun fl s' hs => ?_) fun _ _ hs => hs
  cases fl with
  | ret u =>
    obtain ⟨v, σ', H', J, rv, q⟩ := hs
    exact ⟨v, H', J.os, J.bare, J.base, J.hok, rv, q⟩
  | next =>
    obtain ⟨σ', H', J, q⟩ := hs
    exact ⟨V.non, H', J.os, J.bare, J.base, J.hok, rfl, q⟩
  | brk =>
    obtain ⟨_, _, _, q⟩ := hs
    exact q.elim
  | cont =>
    obtain ⟨_, _, _, q⟩ := hs
    exact q.elim
theorem FnQ.g {k : Nat} {f : Addr} {fd : FuncData} {ps : List Str} {sp : Sp} (F : FnQ P w K mg base k f fd ps sp) : FnG P w K mg base k f fd ps sp :=
  ⟨F.size, fun A outer s H args us vs Q E r _ e0 b v t => F.goes A outer s H args us vs Q E (roomH_of r) e0 b v t⟩
end
/-- a quiet def of the module, over any ground -/
structure ClbQ (P : Program) (w : World) (K : Frag) (mg : Str → Option Value) (k : Nat) (x : Str) (sp : Sp) : Prop where
  ex : ∃ (f : Addr) (fd : FuncData) (ps : List Str), (∀ base : Heap, K.In base → base.Ns mainGlobals mg → FnQ P w K mg base k f fd ps sp) ∧ mg x = some (.ref f) ∧ keepIn K (.ref f) = true ∧ Binds K fd ps []
theorem ClbQ.clb {P : Program} {w : World} {K : Frag} {mg : Str → Option Value} {k : Nat} {x : Str} {sp : Sp} (c : ClbQ P w K mg k x sp) {base : Heap} (X : K.In base) (N : base.Ns mainGlobals mg) : Clb P w K mg base k x sp [] := by
  obtain ⟨f, fd, ps, F, hm, kp, b⟩ := c.ex
  exact ⟨f, fd, ps, [], (F base X N).g, hm, kp, b, .nil⟩

/-! ### called within an except suite, the caught exception among what is tracked -/
/-- no object of the written part is of the class at C -/
def noInst (K : Frag) (C : Addr) : Bool := K.all fun p => p.2.cls != .ref C
theorem noInst_lookup {K : Frag} {C a : Addr} {o : Obj} (h : noInst K C = true) (e : K.lookup a = some o) : o.cls ≠ .ref C := by
  have m : ∀ l : List (Addr × Obj), List.lookup a l = some o → (a, o) ∈ l := by
    intro l
    induction l with
    | nil => intro z; cases z
    | cons p r ih =>
      intro z
      rw [List.lookup_cons] at z
      cases q : a == p.1 with
      | true =>
        rw [q] at z
        cases z
        have y : a = p.1 := beq_iff_eq.mp q
        rw [y]
        exact List.mem_cons_self
      | false =>
        rw [q] at z
        exact List.mem_cons_of_mem _ (ih z)
  have q := List.all_eq_true.mp h _ (m _ e)
  simpa using q
/-- the reading -/
def tHot (K : Frag) (a : Addr) (cls : Value) (d : Option Addr) (sp : Sp) (t : TA) : TE := fun σ H Q => t σ H fun vs H1 => (∃ C, cls = .ref C ∧ noInst K C = true) ∧
  ∀ oe : Obj, Zc cls d oe → (∃ ws, oe.data = .fields ws) → sp vs (upd H1 a (ExF oe a)) (fun v H2 => H2 a = some (ExF oe a) ∧ Q v (delH H2 a)) E0
section
variable {X : Cx} {k : Nat} {x : Str} {sp : Sp} {p pos : Pos} {e : Expr} {es : List Expr} {t : TA} {a : Addr} {oe : Obj} {cls : Value} {d : Option Addr} {K : Frag}
theorem pe_hot (hK : X.K = K) (c : ClbQ X.prog X.w X.K X.mg k x sp) (hr : RoomH k X.A) (hp : (a, oe) ∈ X.pn) (hz : Zc cls d oe) (hf : ∃ vs, oe.data = .fields vs) (hg : Gl X x) (ha : PA X (e :: es) t)
    (hdb : (x == ("__debug__" : Str)) = false := by decide) (he : starEach (e :: es) X.env = (false, eval e X.env) :: starEach es X.env := by rfl) (hpl : (backTo pos (starEach es X.env)).any (·.1) = false := by rfl) :
    PE X (.Call (.Name x p) (e :: es) [] pos) (tHot K a cls d sp t) := by
  subst hK
  obtain ⟨f, fd, ps, F, hm, kp, bnd⟩ := c.ex
  refine ⟨fun pins s σ H Q I h => ?_⟩
  refine wpAny_Call_Name_kw (ld_glob I hg hm ?_ hdb)
  refine PySem.W.callWith_K (h₀ := X.base) I.ok.mod.kin kp (thn (ha.run pos pins s σ H _ I h) fun us s1 ⟨vs, H1, I1, r1, ⟨C, hC, hno⟩, q0⟩ => ⟨I1.kIn, ?_⟩) he hpl
  show wpAny _ _ (call (.ref f) us) _ _ _
  have hc : oe.cls = .ref C := hz.1.trans hC
  have q := q0 oe hz hf
  obtain ⟨P1, P2, P3, P4, P5⟩ := I1.pin (a, oe) (List.mem_append_left _ hp)
  obtain ⟨vo, hvo⟩ := hf
  -- the ground without a
  have na : ∀ {b : Addr} {o : Obj}, X.base.get? b = some o → (∀ w, o.data ≠ .fields w) → b ≠ a := fun z d y => by
    have q := (I1.bs _ _ z).1
    rw [y] at q
    have P1' : s1.heap.get? a = some oe := P1
    rw [P1'] at q
    cases q
    exact d _ hvo
  have hide : ∀ {b : Addr} {o : Obj}, X.base.get? b = some o → b ≠ a → (hideAll X.base [a]).get? b = some o := fun z y => hideAll_get _ z (by simpa using y)
  have inB : X.K.In (hideAll X.base [a]) := fun b o z => hide (I1.ok.mod.kin b o z) fun y => by
    have q := I1.kIn b o z
    have P1' : s1.heap.get? a = some oe := P1
    rw [y, P1'] at q
    cases q
    exact noInst_lookup hno z hc
  have space : ∀ {b : Addr} {m : Str → Option Value}, X.base.Ns b m → (hideAll X.base [a]).Ns b m := fun ⟨o, es, ep, z, d, r⟩ => ⟨o, es, ep, hide z (na z fun w y => by rw [d] at y; cases y), d, r⟩
  obtain ⟨mb, b1, b2⟩ := I1.ok.mod.blt
  obtain ⟨mc, c1, c2⟩ := id I1.ok.mod.nolimit
  have e1 := I1.env0
  have env' : Env0 X.prog X.w X.K X.mg (hideAll X.base [a]) X.A X.stack s1 (upd H1 a (ExF oe a)) := {
    frames := e1.frames
    mod := ⟨inB, space I1.ok.mod.glob, ⟨mb, space b1, b2⟩, ⟨mc, space c1, c2⟩⟩
    bs := fun b o z => by
      have z' := of_hideAll [a] z
      have nb : b ≠ a := fun y => by
        have q : (hideAll X.base [a]).get? a = none := hideAll_none [a] (by simp)
        rw [y, q] at z
        cases z
      have q := e1.bs b o z'
      exact ⟨q.1, by rw [upd_ne nb]; exact q.2⟩
    bsz := by rw [hideAll_size]; exact e1.bsz
    funs := funFrames_none e1.funs fun L hL => by
      cases q : (hideAll X.base [a]).get? L with
      | none => rfl
      | some o =>
        have z := of_hideAll [a] q
        obtain ⟨n, _⟩ := e1.funs.mem hL
        rw [n] at z
        cases z
    frf := fun b hb => by
      have nb : b ≠ a := fun y => by
        rw [y] at hb
        exact (List.mem_cons.mp (I1.stkSub a hb)).elim P3 P4
      rw [upd_ne nb]
      exact e1.frf b hb
    hok := fun b v z => by
      by_cases hb : b = a
      · subst hb
        rw [upd_same] at z
        cases z
        exact exF_ok P1
      · rw [upd_ne hb] at z
        exact (I1.hok b v z).stay (fun c v _ q => q) (fun c q => by rw [upd_ne (ne_of_none q P2)]; exact q) fun c xs q => by rw [upd_ne (ne_of_none q P2)]; exact q
    bare := e1.bare }
  have lens : us.length = ps.length := r1.length.symm.trans ((F _ inB (space I1.ok.mod.glob)).size _ _ _ _ q)
  have bn := bnd s1 us I1.kIn (by rw [List.append_nil]; exact lens)
  rw [List.append_nil] at bn
  refine wpAny_call (codeAny_mono ((F _ inB (space I1.ok.mod.glob)).goes X.A X.stack s1 _ ⟨us, []⟩ us vs _ E0 hr env' bn r1 q) fun res s' hq => ?_)
  match res, hq with
  | .error e, hq => exact hq.elim
  | .ok (.ret u), ⟨v, H2, os, bare, un, hok, rv, h2a, q2⟩ =>
    have at' : s'.heap.get? a = some oe := exF_at hok h2a
    refine I1.after ⟨v, delH H2 a, os, bare, ⟨fun b o z n hf hx => ?_, fun b o z n hf hx => ?_, fun b o z n hx => ?_, un.there, fun b xs z => ?_, fun b o u z => ?_, fun b ps z => ?_⟩, fun b v z => ?_, rv, q2⟩
    · by_cases hb : b = a
      · subst hb
        have P1' : s1.heap.get? b = some oe := P1
        rw [P1'] at z
        cases z
        exact at'
      · exact un.keep b o z (by rw [upd_ne hb]; exact n) hf hx
    · have hb : b ≠ a := fun y => by
        rw [y] at hf
        exact (List.mem_cons.mp (I1.stkSub a hf)).elim P3 P4
      exact un.slot b o z (by rw [upd_ne hb]; exact n) hf hx
    · by_cases hb : b = a
      · rw [hb]
        exact delH_same
      · rw [delH_ne hb]
        exact un.free b o z (by rw [upd_ne hb]; exact n) hx
    · have hb : b ≠ a := ne_of_none z P2
      rw [delH_ne hb]
      exact un.tups b xs (by rw [upd_ne hb]; exact z)
    · have hb : b ≠ a := ne_of_none z P2
      rw [delH_ne hb]
      exact un.frzs b o u (by rw [upd_ne hb]; exact z)
    · have hb : b ≠ a := ne_of_none z P2
      rw [delH_ne hb]
      exact un.tbls b ps (by rw [upd_ne hb]; exact z)
    · by_cases hb : b = a
      · rw [hb, delH_same] at z
        cases z
      · rw [delH_ne hb] at z
        exact (hok b v z).stay (fun c v _ q => q) (fun c q => by
            rw [delH_ne (fun y => by rw [y, h2a] at q; cases q)]
            exact q) fun c xs q => by
            rw [delH_ne (fun y => by rw [y, h2a] at q; cases q)]
            exact q
end
end DL
set_option maxHeartbeats 4000000
/-! E6: repr of data that is tracked (None, bools, ints, texts, lists, tuples, the empty dict). -/
namespace DL
open PySem PySem.Spec PySem.W PySem.Calls L2
open PyProof.Rows hiding St wpAt wpAt_bind wpAt_stack wpAt_mono

mutual
/-- what a value is, by what is tracked -/
inductive Rz (F : Hp) : V → PyData → Prop
  | non : Rz F .non .none
  | bl (b : Bool) : Rz F (.bl b) (.bool b)
  | int (i : Int) : Rz F (.int i) (.int i)
  | str (x : Str) : Rz F (.str x) (.str x)
  | lst {a : Addr} {vs : List V} {ds : List PyData} : F a = some (.lst vs) → a ≠ sysModules → RzAll F vs ds → Rz F (.ref a) (.list ds)
  | tup {a : Addr} {vs : List V} {ds : List PyData} : F a = some (.tup vs) → RzAll F vs ds → Rz F (.ref a) (.tuple ds)
  | emp {a : Addr} : F a = some (.dK []) → Rz F (.ref a) (.dict [])
inductive RzAll (F : Hp) : List V → List PyData → Prop
  | nil : RzAll F [] []
  | cons {v : V} {vs : List V} {d : PyData} {ds : List PyData} : Rz F v d → RzAll F vs ds → RzAll F (v :: vs) (d :: ds)
end
mutual
theorem Rz.mono {F F' : Hp} (e : Same F F') : ∀ {v : V} {d : PyData}, Rz F v d → Rz F' v d
  | _, _, .non => .non
  | _, _, .bl b => .bl b
  | _, _, .int i => .int i
  | _, _, .str x => .str x
  | _, _, .lst h n r => .lst (e _ _ h) n (RzAll.mono e r)
  | _, _, .tup h r => .tup (e _ _ h) (RzAll.mono e r)
  | _, _, .emp h => .emp (e _ _ h)
theorem RzAll.mono {F F' : Hp} (e : Same F F') : ∀ {vs : List V} {ds : List PyData}, RzAll F vs ds → RzAll F' vs ds
  | _, _, .nil => .nil
  | _, _, .cons h r => .cons (Rz.mono e h) (RzAll.mono e r)
end
mutual
theorem Rz.reads {P : Program} {w : World} {F : Hp} {h : Heap} (ok : HOk P w F h) : ∀ {v : V} {u : Value} {d : PyData}, Rz F v d → RelV v u → ∃ as, Reads h u d as ∧ sysModules ∉ as
  | _, _, _, .non, r => by
    cases (show _ = Value.none from r)
    exact ⟨[], .none, by simp⟩
  | _, _, _, .bl b, r => by
    cases (show _ = Value.bool b from r)
    exact ⟨[], .bool b, by simp⟩
  | _, _, _, .int i, r => by
    obtain ⟨t, rfl⟩ := (show ∃ t, _ = Value.int i t from r)
    exact ⟨[], .int i t, by simp⟩
  | _, _, _, .str x, r => by
    obtain ⟨t, rfl⟩ := (show ∃ t, _ = Value.str x t from r)
    exact ⟨[], .str x t, by simp⟩
  | _, _, _, .lst (a := a) e n rs, r => by
    cases (show _ = Value.ref a from r)
    obtain ⟨_, its, n2, rv, h1⟩ := ok a _ e
    obtain ⟨as, q1, q2⟩ := RzAll.reads ok rs rv
    exact ⟨a :: as, .list h1 rfl rfl q1, by simp only [List.mem_cons, not_or]; exact ⟨Ne.symm n, q2⟩⟩
  | _, _, _, .tup (a := a) e rs, r => by
    cases (show _ = Value.ref a from r)
    obtain ⟨_, its, rv, o, h1, h2, n2, h3⟩ := ok a _ e
    obtain ⟨as, q1, q2⟩ := RzAll.reads ok rs rv
    exact ⟨as, .tuple h1 h2 h3 q1, q2⟩
  | _, _, _, .emp (a := a) e, r => by
    cases (show _ = Value.ref a from r)
    obtain ⟨_, hs, vs, rk, o, es, ep, h1, h2, h3, h4, h5, _⟩ := ok a _ e
    cases rk
    have es0 : es.toList = [] := by
      generalize es.toList = l at h5
      cases h5
      rfl
    refine ⟨a :: [] ++ [], .dict (kvs := []) h1 h2.1 h3 (by rw [es0]; exact .nil) (by rw [es0]; exact .nil), ?_⟩
    have z : a ≠ sysModules := by simpa using hs
    simpa using Ne.symm z
theorem RzAll.reads {P : Program} {w : World} {F : Hp} {h : Heap} (ok : HOk P w F h) : ∀ {vs : List V} {us : List Value} {ds : List PyData}, RzAll F vs ds → Vals vs us → ∃ as, ReadsAll h us ds as ∧ sysModules ∉ as
  | _, _, _, .nil, r => by
    cases r
    exact ⟨[], .nil, by simp⟩
  | _, _, _, .cons q rs, r => by
    cases r with
    | cons r1 r2 =>
      obtain ⟨as, q1, q2⟩ := Rz.reads ok q r1
      obtain ⟨bs, q3, q4⟩ := RzAll.reads ok rs r2
      exact ⟨as ++ bs, .cons q1 q3, by simp only [List.mem_append, not_or]; exact ⟨q2, q4⟩⟩
end
/-- repr(x) -/
def rRepr : List V → Hp → VK → Prop := fun xs H Q => ∃ (v : V) (d : PyData), xs = [v] ∧ Rz H v d ∧ d.showable = true ∧ d.shown.length ≤ sizeLine ∧ d.depth ≤ 100 ∧ Q (.str d.shown) H
theorem call_reprZ {X : Cx} (gd : X.A.guards = some []) (hu : X.A.units + 200 < cLine) : CallR X (.builtin "repr") rRepr := by
  intro pins s σ H xs us Q I r h
  obtain ⟨v, d, rfl, rz, hs, hz, hd, q⟩ := h
  obtain ⟨u, rfl, ru⟩ := vals1 r
  have fin : ∀ (h' : Heap) (tk t : Nat), (∀ b o, s.heap.get? b = some o → h'.get? b = some o) → EP X pins σ Q (.str d.shown t) { s with heap := h', toks := tk } := fun h' tk t k => ⟨.str d.shown, H, I.kept (t' := tk) k, ⟨t, rfl⟩, q⟩
  have deep : ∀ a : Addr, u = .ref a → wpAny (model X.prog X.w) X.A (call (.builtin "repr") [u]) (EP X pins σ Q) X.xe s := fun a e => by
    obtain ⟨as, rd, ns⟩ := rz.reads I.hok ru
    subst e
    exact repr_of_reads' rd hs (fun _ => ns) gd (by omega) (fun b o z => z) (fun h' t tk k => fin h' tk t k) hz
  cases rz with
  | non =>
    cases (show u = Value.none from ru)
    exact PySem.P.repr_of_none (fin _ _ _ fun _ _ z => z)
  | bl b =>
    cases (show u = Value.bool b from ru)
    exact PySem.P.repr_of_bool (fin _ _ _ fun _ _ z => z)
  | int i =>
    obtain ⟨t, rfl⟩ := (show ∃ t, u = Value.int i t from ru)
    exact PySem.P.repr_of_int (by simpa [PyData.showable] using hs) (fin _ _ _ fun _ _ z => z)
  | str x =>
    obtain ⟨t, rfl⟩ := (show ∃ t, u = Value.str x t from ru)
    exact PySem.P.repr_of_str (fin _ _ _ fun _ _ z => z) (by simpa [PyData.shown] using hz)
  | lst e n rs => exact deep _ ru
  | tup e rs => exact deep _ ru
  | emp e => exact deep _ ru
/-- a list display, its place known not to be sys.modules' -/
def tLstB (t : TA) : TE := fun σ H Q => t σ H fun xs H1 => xs.length ≤ sizeLine ∧ ∀ p, H1 p = none → p ≠ sysModules → Q (.ref p) (upd H1 p (.lst xs))
theorem pe_lstB {X : Cx} {es : List Expr} {t : TA} {pos : Pos} (h : PA X es t) : PE X (.List es pos) (tLstB t) := by
  refine ⟨fun pins s σ H Q I hq => ?_⟩
  refine wpAny_List_spliced (thn (h.run pos pins s σ H _ I hq) fun us s1 ⟨xs, H1, I1, r, z, q⟩ => ⟨by rw [← r.length]; exact z, ?_⟩)
  have hf : H1 s1.heap.objs.size = none := I1.hok.fresh (Nat.le_refl _)
  refine ⟨.ref s1.heap.objs.size, upd H1 s1.heap.objs.size (.lst xs), I1.laid (t' := s1.toks) (fun b u e => Heap.get?_push_of_some _ e) (Nat.le_refl _) ?_, rfl, q _ hf (Nat.ne_of_gt I1.big)⟩
  exact ⟨z, us, 0, r, Heap.get?_push_size _ rfl⟩
end DL
set_option maxHeartbeats 4000000
/-! M0: the places, names and scopes of the defs that the law reaches. -/
namespace K11
open PySem PySem.Spec L2 DL
open PyProof.Rows hiding St wpAt wpAt_bind wpAt_stack wpAt_mono
abbrev prg : Program := PySem.Challenge.pw_frametongue_k11_desks_undone_and_equal
abbrev topS (j : Nat) : Stmt := prg.main.body.getD j (.Pass ⟨0, 0, 0, 0⟩)
/-- the built-in names that the law's defs use -/
structure Nms (mg : Str → Option Value) : Prop where
  n_len : mg "len" = none
  n_int : mg "int" = none
  n_abs : mg "abs" = none
  n_range : mg "range" = none
  n_max : mg "max" = none
  n_min : mg "min" = none
  n_all : mg "all" = none
  n_isinstance : mg "isinstance" = none
  n_repr : mg "repr" = none
  n_super : mg "super" = none
  n_str : mg "str" = none
  n_tuple : mg "tuple" = none
  n_bool : mg "bool" = none
  n_list : mg "list" = none
  n_enumerate : mg "enumerate" = none
abbrev sWhole : Stmt := topS 56
abbrev nWhole : List Str := ["value"]
theorem fsWhole : FnScope nWhole ["value"] (defScope sWhole) := ⟨rfl, rfl, rfl, by decide +kernel, rfl, by decide +kernel, by decide +kernel⟩
abbrev sNumber : Stmt := topS 57
abbrev nNumber : List Str := ["value", "low", "high"]
theorem fsNumber : FnScope nNumber ["value", "low", "high"] (defScope sNumber) := ⟨rfl, rfl, rfl, by decide +kernel, rfl, by decide +kernel, by decide +kernel⟩
abbrev sString : Stmt := topS 58
abbrev nString : List Str := ["value"]
theorem fsString : FnScope nString ["value"] (defScope sString) := ⟨rfl, rfl, rfl, by decide +kernel, rfl, by decide +kernel, by decide +kernel⟩
abbrev sIsRow : Stmt := topS 59
abbrev nIsRow : List Str := ["value", "least", "most"]
theorem fsIsRow : FnScope nIsRow ["value", "least", "most"] (defScope sIsRow) := ⟨rfl, rfl, rfl, by decide +kernel, rfl, by decide +kernel, by decide +kernel⟩
abbrev sWrong : Stmt := topS 60
abbrev nWrong : List Str := ["value", "is_right", "index", "each"]
theorem fsWrong : FnScope nWrong ["value", "is_right"] (defScope sWrong) := ⟨rfl, rfl, rfl, by decide +kernel, rfl, by decide +kernel, by decide +kernel⟩
abbrev sDeskRow : Stmt := topS 215
abbrev nDeskRow : List Str := ["value"]
theorem fsDeskRow : FnScope nDeskRow ["value"] (defScope sDeskRow) := ⟨rfl, rfl, rfl, by decide +kernel, rfl, by decide +kernel, by decide +kernel⟩
abbrev sCheckRows : Stmt := topS 216
abbrev nCheckRows : List Str := ["value", "wrong"]
theorem fsCheckRows : FnScope nCheckRows ["value"] (defScope sCheckRows) := ⟨rfl, rfl, rfl, by decide +kernel, rfl, by decide +kernel, by decide +kernel⟩
abbrev sHasForm : Stmt := topS 217
abbrev nHasForm : List Str := ["value"]
theorem fsHasForm : FnScope nHasForm ["value"] (defScope sHasForm) := ⟨rfl, rfl, rfl, by decide +kernel, rfl, by decide +kernel, by decide +kernel⟩
abbrev sCheckDeed : Stmt := topS 218
abbrev nCheckDeed : List Str := ["value"]
theorem fsCheckDeed : FnScope nCheckDeed ["value"] (defScope sCheckDeed) := ⟨rfl, rfl, rfl, by decide +kernel, rfl, by decide +kernel, by decide +kernel⟩
abbrev sReason : Stmt := topS 219
abbrev nReason : List Str := ["rows", "deed"]
theorem fsReason : FnScope nReason ["rows", "deed"] (defScope sReason) := ⟨rfl, rfl, rfl, by decide +kernel, rfl, by decide +kernel, by decide +kernel⟩
abbrev sBehind : Stmt := topS 220
abbrev nBehind : List Str := ["rows", "deed", "behind"]
theorem fsBehind : FnScope nBehind ["rows", "deed"] (defScope sBehind) := ⟨rfl, rfl, rfl, by decide +kernel, rfl, by decide +kernel, by decide +kernel⟩
abbrev sTextOf : Stmt := topS 221
abbrev nTextOf : List Str := ["rows", "row"]
theorem fsTextOf : FnScope nTextOf ["rows"] (defScope sTextOf) := ⟨rfl, rfl, rfl, by decide +kernel, rfl, by decide +kernel, by decide +kernel⟩
abbrev sPurse : Stmt := topS 225
abbrev nPurse : List Str := ["cells", "at", "cell", "seed", "other"]
theorem fsPurse : FnScope nPurse ["cells", "at"] (defScope sPurse) := ⟨rfl, rfl, rfl, by decide +kernel, rfl, by decide +kernel, by decide +kernel⟩
abbrev sTake : Stmt := topS 226
abbrev nTake : List Str := ["draws", "many", "figures", "seed", "turn"]
theorem fsTake : FnScope nTake ["draws", "many"] (defScope sTake) := ⟨rfl, rfl, rfl, by decide +kernel, rfl, by decide +kernel, by decide +kernel⟩
abbrev sPick : Stmt := topS 227
abbrev nPick : List Str := ["draws", "some"]
theorem fsPick : FnScope nPick ["draws", "some"] (defScope sPick) := ⟨rfl, rfl, rfl, by decide +kernel, rfl, by decide +kernel, by decide +kernel⟩
abbrev sSame : Stmt := topS 228
abbrev nSame : List Str := ["told", "due"]
theorem fsSame : FnScope nSame ["told", "due"] (defScope sSame) := ⟨rfl, rfl, rfl, by decide +kernel, rfl, by decide +kernel, by decide +kernel⟩
abbrev sMove : Stmt := topS 229
abbrev nMove : List Str := ["rows", "deed"]
theorem fsMove : FnScope nMove ["rows", "deed"] (defScope sMove) := ⟨rfl, rfl, rfl, by decide +kernel, rfl, by decide +kernel, by decide +kernel⟩
abbrev sSaid : Stmt := topS 230
abbrev nSaid : List Str := ["act", "e"]
theorem fsSaid : FnScope nSaid ["act"] (defScope sSaid) := ⟨rfl, rfl, rfl, by decide +kernel, rfl, by decide +kernel, by decide +kernel⟩
abbrev sIsSo : Stmt := topS 231
abbrev nIsSo : List Str := ["desk", "rows", "deeds_here"]
theorem fsIsSo : FnScope nIsSo ["desk", "rows", "deeds_here"] (defScope sIsSo) := ⟨rfl, rfl, rfl, by decide +kernel, rfl, by decide +kernel, by decide +kernel⟩
abbrev sPage : Stmt := topS 232
abbrev nPage : List Str := ["draws", "some", "found", "lap", "a", "b", "c", "n", "f", "e", "rows", "more"]
theorem fsPage : FnScope nPage ["draws"] (defScope sPage) := ⟨rfl, rfl, rfl, by decide +kernel, rfl, by decide +kernel, by decide +kernel⟩
abbrev sDeed : Stmt := topS 233
abbrev nDeed : List Str := ["draws", "rows", "more", "way", "at", "row"]
theorem fsDeed : FnScope nDeed ["draws", "rows", "more"] (defScope sDeed) := ⟨rfl, rfl, rfl, by decide +kernel, rfl, by decide +kernel, by decide +kernel⟩
abbrev sIsEmpty : Stmt := topS 234
abbrev nIsEmpty : List Str := ["desk"]
theorem fsIsEmpty : FnScope nIsEmpty ["desk"] (defScope sIsEmpty) := ⟨rfl, rfl, rfl, by decide +kernel, rfl, by decide +kernel, by decide +kernel⟩
abbrev sRun : Stmt := topS 235
abbrev nRun : List Str := ["draws", "first", "more", "desk", "states", "deeds_here", "turn", "deed", "found"]
theorem fsRun : FnScope nRun ["draws", "first", "more", "desk"] (defScope sRun) := ⟨rfl, rfl, rfl, by decide +kernel, rfl, by decide +kernel, by decide +kernel⟩
abbrev sAreEqual : Stmt := topS 236
abbrev nAreEqual : List Str := ["desk", "first", "again", "deed", "far", "odds", "each"]
theorem fsAreEqual : FnScope nAreEqual ["desk", "first"] (defScope sAreEqual) := ⟨rfl, rfl, rfl, by decide +kernel, rfl, by decide +kernel, by decide +kernel⟩
abbrev sIsRefused : Stmt := topS 237
abbrev nIsRefused : List Str := ["odd", "index", "e"]
theorem fsIsRefused : FnScope nIsRefused ["odd", "index"] (defScope sIsRefused) := ⟨rfl, rfl, rfl, by decide +kernel, rfl, by decide +kernel, by decide +kernel⟩
abbrev sRight : Stmt := topS 238
abbrev nRight : List Str := ["draws", "turn", "first", "more", "desk", "states", "bends", "odd", "index"]
theorem fsRight : FnScope nRight ["draws"] (defScope sRight) := ⟨rfl, rfl, rfl, by decide +kernel, rfl, by decide +kernel, by decide +kernel⟩
abbrev sLaw : Stmt := topS 239
abbrev nLaw : List Str := ["cells", "at"]
theorem fsLaw : FnScope nLaw ["cells"] (defScope sLaw) := ⟨rfl, rfl, rfl, by decide +kernel, rfl, by decide +kernel, by decide +kernel⟩
abbrev sInit : Stmt := inClass (topS 223) 0
abbrev nInit : List Str := ["self", "rows"]
theorem fsInit : FnScope nInit ["self", "rows"] (defScope sInit) := ⟨rfl, rfl, rfl, by decide +kernel, rfl, by decide +kernel, by decide +kernel⟩
abbrev sDo : Stmt := inClass (topS 223) 1
abbrev nDo : List Str := ["self", "deed", "reason"]
theorem fsDo : FnScope nDo ["self", "deed"] (defScope sDo) := ⟨rfl, rfl, rfl, by decide +kernel, rfl, by decide +kernel, by decide +kernel⟩
abbrev sUndo : Stmt := inClass (topS 223) 2
abbrev nUndo : List Str := ["self"]
theorem fsUndo : FnScope nUndo ["self"] (defScope sUndo) := ⟨rfl, rfl, rfl, by decide +kernel, rfl, by decide +kernel, by decide +kernel⟩
abbrev sText : Stmt := inClass (topS 223) 3
abbrev nText : List Str := ["self"]
theorem fsText : FnScope nText ["self"] (defScope sText) := ⟨rfl, rfl, rfl, by decide +kernel, rfl, by decide +kernel, by decide +kernel⟩
abbrev sEq : Stmt := inClass (topS 223) 9
abbrev nEq : List Str := ["self", "other"]
theorem fsEq : FnScope nEq ["self", "other"] (defScope sEq) := ⟨rfl, rfl, rfl, by decide +kernel, rfl, by decide +kernel, by decide +kernel⟩
end K11
set_option maxHeartbeats 4000000
/-! M1: calls of quiet defs by name; == and != by an own __eq__ with both answers; the truth of an instance; what is kept while lists and instances change. -/
namespace DL
open PySem PySem.Spec PySem.W PySem.Calls L2
open PyProof.Rows hiding St wpAt wpAt_bind wpAt_stack wpAt_mono

/-- a def of the module, ready to be called by its name; CX: how it may be left by an exception -/
structure ClO (P : Program) (w : World) (K : Frag) (mg : Str → Option Value) (base : Heap) (CX : CXT) (k : Nat) (x : Str) (sp : Sp) (dvs : List V) : Prop where
  ex : ∃ (f : Addr) (fd : FuncData) (ps : List Str) (ds : List Value), FnOk P w K mg base CX k f fd ps sp ∧ mg x = some (.ref f) ∧ keepIn K (.ref f) = true ∧ L2.Binds K fd ps ds ∧ Vals dvs ds
section
variable {X : Cx} {CX : CXT} {k j : Nat} {sp : Sp} {dvs : List V} {x : Str} {p pos : Pos} {e : Expr} {es : List Expr} {t : TA} {E : XK}
theorem pe_clo (c : ClO X.prog X.w X.K X.mg X.base CX0 k x sp dvs) (hr : Room j X.A) (hk : k ≤ j) (hg : Gl X x)
    (ha : PA X (e :: es) t) (hdb : (x == ("__debug__" : Str)) = false := by decide) (he : starEach (e :: es) X.env = (false, eval e X.env) :: starEach es X.env := by rfl) (hpl : (backTo pos (starEach es X.env)).any (·.1) = false := by rfl) :
    PE X (.Call (.Name x p) (e :: es) [] pos) (tCall sp dvs E0 t) := by
  obtain ⟨f, fd, ps, ds, F, hm, kp, b, d⟩ := c.ex
  exact pe_call F (hr.mono hk) hg hm kp b d pass0 ha hdb he hpl
/-- .. a def that may raise: hx, where its exceptions go -/
theorem pe_clx (c : ClO X.prog X.w X.K X.mg X.base CX k x sp dvs) (hr : Room j X.A) (hk : k ≤ j) (hg : Gl X x) (hx : Passes CX X E)
    (ha : PA X (e :: es) t) (hdb : (x == ("__debug__" : Str)) = false := by decide) (he : starEach (e :: es) X.env = (false, eval e X.env) :: starEach es X.env := by rfl) (hpl : (backTo pos (starEach es X.env)).any (·.1) = false := by rfl) :
    PE X (.Call (.Name x p) (e :: es) [] pos) (tCall sp dvs E t) := by
  obtain ⟨f, fd, ps, ds, F, hm, kp, b, d⟩ := c.ex
  exact pe_call F (hr.mono hk) hg hm kp b d hx ha hdb he hpl
end

/-! ### == and != of an instance with its own __eq__ -/
section
variable {M : Model} {prog : Program} {w : World} {A : Around} {E : Value → Shared → Prop} {s : Shared} {K : Frag} {x C : Addr} {ox : Obj} {od : Option Obj}
theorem bound_ne {args : List Value} {Q : Option Value → Shared → Prop} (kx : K.In s.heap) (inst : InstAt s.heap x ox C od) (ne : findIn K (.ref C) "__ne__" = some (some (.builtin "object.__ne__")))
    (h : wpAny M A (call (.builtin "object.__ne__") (.ref x :: args)) (fun v => Q (some v)) E s) : wpAny M A (callSpecialIfBound? (.ref x) "__ne__" args) Q E s := by
  have last : wpAny M A (call (.builtin "object.__ne__") ([.ref x] ++ args) >>= fun v => pure (some v)) Q E s := wpAny_bind (wpAny_mono h (fun v s' q => wpAny_pure q) fun _ _ q => q)
  unfold callSpecialIfBound? bindSpecialIfBound?
  refine wpAny_holding (wpAny_bind (wpAny_bind (wpAny_bind (inst.type.here ((looks_findIn kx ne).here (wpAny_bind (wpAny_askSetting (wpAny_ite ?_))))))))
  split
  · exact wpAny_bind (wpAny_of_eq (F.cmp_object.ne.bind _) (wpAny_pure last))
  · exact wpAny_tryCatch (wpAny_bind (wpAny_of_eq (F.cmp_object.ne.bind _) (wpAny_pure last)))
/-- object.__ne__ turns the answer of the own __eq__ round -/
theorem entry_neOwn {f : Addr} {b : Value} {Q : Value → Shared → Prop} (hu : A.units + 1 < cLine) (kx : K.In s.heap) (inst : InstAt s.heap x ox C od) (hs : findIn K (.ref C) "__eq__" = some (some (.ref f))) (hf : isFn K (.ref f) = true)
    (hm : mroIn K C (.type "object") = some true) (h : wpAny (model prog w) A.in1 (call (.ref f) [.ref x, b]) (fun v s' => ∃ r, v = .bool r ∧ Q (.bool (!r)) s') E s) :
    wpAny (model prog w) A (call (.builtin "object.__ne__") [.ref x, b]) Q E s := by
  refine wpAny_call (codeAny_call_builtin F.cmp_object.ne.plain F.cmpEntry_ne (check_slot F.cmpKind_ne F.cmpSplit_ne (inst.type.andThen (looks_mroIn kx hm)) (F.cmpArgs_ne _ _) ?_))
  have hu1 : A.in1.units < cLine := hu
  unfold Builtin.«object.__ne__»
  refine wpAny_bind (wpAny_pure ?_)
  refine wpAny_bind (wpAny_cRoomFor hu1 (wpAny_bind (m := callSpecialIfBound? (.ref x) "__eq__" [b]) (ifBound_K kx inst hs hf (wpAny_mono h (fun v s' q => ?_) fun _ _ q => q))))
  obtain ⟨r, rfl, q⟩ := q
  exact wpAny_bind (wpAny_truthy_bool (wpAny_pure q))
end
/-- what == and != ask of the class at C: its __eq__ stands at g, its __ne__ is object's -/
structure EqC (K : Frag) (C g : Addr) : Prop where
  eq : findIn K (.ref C) "__eq__" = some (some (.ref g))
  fn : isFn K (.ref g) = true
  ne : findIn K (.ref C) "__ne__" = some (some (.builtin "object.__ne__"))
  ob : mroIn K C (.type "object") = some true
/-- x == y (neg: x != y), x an instance of the class at C -/
def rOwnV (K : Frag) (C : Addr) (sp : Sp) (neg : Bool) : R2 := fun x y H Q => ∃ (a dx : Addr) (fs : List (Str × V)) (t : Value), x = .ref a ∧ H a = some (.ins C dx fs) ∧ TyX K H y t ∧ notFirst K C t = true ∧ sp [x, y] H (fun v H' => ∃ b : Bool, v = .bl b ∧ Q (.bl (if neg then !b else b)) H') E0
section
variable {X : Cx} {C g : Addr} {fd : FuncData} {ps : List Str} {n : Nat} {sp : Sp}
theorem run_eqC {A : Around} {pins : List (Addr × Obj)} {σ : St} {H : Hp} {s : Shared} {x y : V} {u v : Value} {Q : VK} (F : FnOk X.prog X.w X.K X.mg X.base CX0 n g fd ps sp) (hb : L2.Binds X.K fd ps []) (hr : Room n A) (e0 : Env0 X.prog X.w X.K X.mg X.base A X.stack s H)
    (I : Inv X pins σ H s) (rx : RelV x u) (ry : RelV y v) (h : sp [x, y] H Q E0) {E : Value → Shared → Prop} : wpAny (model X.prog X.w) A (call (.ref g) [u, v]) (EP X pins σ Q) E s := by
  have len : [u, v].length = ps.length := by rw [show [u, v].length = [x, y].length from rfl]; exact F.len _ _ _ _ h
  have b2 : BindsTo s fd ⟨[u, v], []⟩ (ps.zip [u, v]) := by
    have z := hb s [u, v] I.kIn (by rw [List.append_nil]; exact len)
    rw [List.append_nil] at z
    exact z
  refine wpAny_call (codeAny_mono (F.run A X.stack s H ⟨[u, v], []⟩ [u, v] [x, y] Q E0 hr e0 b2 (.cons rx (.cons ry .nil)) h) fun r s' q => ?_)
  match r, q with
  | .error e, q => exact q.elim
  | .ok (.ret w), q => exact I.after q
theorem op_ownEq (T : EqC X.K C g) (F : FnOk X.prog X.w X.K X.mg X.base CX0 n g fd ps sp) (hb : L2.Binds X.K fd ps []) (hr : Room n X.A) : OpR X (compareOp .Eq) (rOwnV X.K C sp false) := by
  intro pins s σ H x y u v Q I rx ry h
  obtain ⟨a, dx, fs, t, rfl, ha, ty, nf, q⟩ := h
  cases (show u = Value.ref a from rx)
  obtain ⟨mA, J, _⟩ := ins_get I.hok ha
  obtain ⟨od, J, _⟩ := J.look
  obtain ⟨m, fr⟩ := I.fr
  obtain ⟨P, Z, pz, _⟩ := kit_of I ry ty
  show wpAny (model X.prog X.w) X.A (richCompare .Eq (.ref a) v) (EP X pins σ Q) X.xe s
  refine cmp_K (op := .Eq) (tb := t) hr.units0 fr I.ok.mod.kin J (Z.ty _ _ I.kIn pz) nf T.eq T.fn (wpAny_mono (run_eqC (E := X.xe) F hb hr I.env0 I (x := .ref a) rfl ry q) (fun w s' z => ?_) fun _ _ z => z)
  obtain ⟨z, H', I', rz, b, rfl, q'⟩ := z
  cases (show w = Value.bool b from rz)
  exact ⟨.bl b, H', I', rfl, q'⟩
theorem op_ownNe (T : EqC X.K C g) (F : FnOk X.prog X.w X.K X.mg X.base CX0 n g fd ps sp) (hb : L2.Binds X.K fd ps []) (hr : Room (n + 1) X.A) : OpR X (compareOp .NotEq) (rOwnV X.K C sp true) := by
  intro pins s σ H x y u v Q I rx ry h
  obtain ⟨a, dx, fs, t, rfl, ha, ty, nf, q⟩ := h
  cases (show u = Value.ref a from rx)
  obtain ⟨mA, J, _⟩ := ins_get I.hok ha
  obtain ⟨od, J, _⟩ := J.look
  obtain ⟨P, Z, pz, _⟩ := kit_of I ry ty
  have hu1 : X.A.units + 1 < cLine := (Room.in1 hr).units0
  have one : wpAny (model X.prog X.w) X.A (tryCompare (.ref a) "__ne__" v) (fun r s' => ∃ w, r = some w ∧ EP X pins σ Q w s') X.xe s := by
    unfold tryCompare
    refine wpAny_bind (bound_ne I.kIn J T.ne (entry_neOwn hu1 I.kIn J T.eq T.fn T.ob (wpAny_mono (run_eqC (E := X.xe) F hb (Room.in1 hr) I.env0.in1 I (x := .ref a) rfl ry q) (fun w s' z => ?_) fun _ _ z => z)))
    obtain ⟨z, H', I', rz, b, rfl, q'⟩ := z
    cases (show w = Value.bool b from rz)
    exact ⟨b, rfl, wpAny_pure ⟨_, rfl, .bl (!b), H', I', rfl, q'⟩⟩
  show wpAny (model X.prog X.w) X.A (richCompare .NotEq (.ref a) v) (EP X pins σ Q) X.xe s
  unfold richCompare
  simp only [oneThing_ref]
  refine wpAny_holding (wpAny_bind (wpAny_cRoomFor hr.units0 (wpAny_bind (J.type.here (wpAny_bind ((Z.ty _ _ I.kIn pz).here ?_))))))
  split
  · rename_i q
    have no : subIn X.K t (.ref C) = some false := by
      rcases Bool.or_eq_true_iff.mp nf with e | e
      · rw [beq_iff_eq.mp e] at q
        simp at q
      · exact beq_iff_eq.mp e
    refine wpAny_bind ((looks_subIn I.kIn no).here ?_)
    simp only [Bool.false_eq_true, if_false]
    refine wpAny_bind (wpAny_mono one (fun r s' z => ?_) fun _ _ z => z)
    obtain ⟨w, rfl, z⟩ := z
    exact wpAny_pure z
  · refine wpAny_bind (wpAny_pure ?_)
    simp only [Bool.false_eq_true, if_false]
    refine wpAny_bind (wpAny_mono one (fun r s' z => ?_) fun _ _ z => z)
    obtain ⟨w, rfl, z⟩ := z
    exact wpAny_pure z
/-- the truth of an instance without __bool__ and __len__ -/
def rTruI (K : Frag) : V → Hp → (Bool → Hp → Prop) → Prop := fun x H Q => ∃ (a C dx : Addr) (fs : List (Str × V)), x = .ref a ∧ H a = some (.ins C dx fs) ∧ findIn K (.ref C) "__bool__" = some none ∧ findIn K (.ref C) "__len__" = some none ∧ Q true H
theorem tru_ins : TruR X (rTruI X.K) := by
  intro pins s σ H x v Q I rx h
  obtain ⟨a, C, dx, fs, rfl, ha, n1, n2, q⟩ := h
  cases (show v = Value.ref a from rx)
  obtain ⟨mA, J, _⟩ := ins_get I.hok ha
  obtain ⟨od, J, _⟩ := J.look
  have nb : ∀ {R : Option Value → Shared → Prop}, R none s → wpAny (model X.prog X.w) X.A (callSpecial? (.ref a) "__bool__") R X.xe s := fun {R} q => by
    unfold callSpecial? specialOf
    exact wpAny_bind (wpAny_bind (J.type.here ((looks_findIn I.kIn n1).here (wpAny_pure q))))
  have nl : ∀ {R : Option Value → Shared → Prop}, R none s → wpAny (model X.prog X.w) X.A (specialOf (.ref a) "__len__") R X.xe s := fun {R} q => by
    unfold specialOf
    exact wpAny_bind (J.type.here ((looks_findIn I.kIn n2).here q))
  unfold truthy
  refine wpAny_bind (nb ?_)
  exact wpAny_bind (m := specialOf (.ref a) "__len__") (nl (wpAny_pure ⟨H, I, q⟩))
end
end DL
set_option maxHeartbeats 4000000
/-! M2: enumerate over a tuple. -/
namespace DL
open PySem PySem.Spec L2
open PyProof.Rows hiding St wpAt wpAt_bind wpAt_stack wpAt_mono
open AutoSeq1 (wpAny_loadPart')
/-- enumerate over the tuple at l: its iterator is new, and it -/
theorem new_enumT (l : Addr) (items : Array Value) (n : Nat) (dct : Option Addr) (sl : Array (Option Value)) :
    Meets (Builtin.«enumerate.__new__» ⟨[.type "enumerate", .ref l], []⟩) (fun _ R s => s.heap.get? l = some { cls := .type "tuple", dict := dct, data := .seq items n, slots := sl } ∧
      R (.ok (.ret (.ref (s.heap.push { cls := .type "tuple_iterator", data := .fields #[.ref l, .int 0 0] }).objs.size)))
        { s with heap := (s.heap.push { cls := .type "tuple_iterator", data := .fields #[.ref l, .int 0 0] }).push { cls := .type "enumerate", data := .fields #[.none, .bool false, .ref s.heap.objs.size, rawInt 0, .none, .none] } }) :=
  .of_wp fun prog w A R s h => by
    obtain ⟨hp, g, d, tk, os⟩ := s
    obtain ⟨hl, h⟩ := h
    have subE := sub_enumerate
    have tupl : Heap.IsTuple (Shared.heap ⟨hp, g, d, tk, os⟩) l items := ⟨_, hl, rfl, n, rfl⟩
    wp_walk using wpAny_loadPart' hl
    refine wpAny_stack_any fun st => wpAny_pure ?_
    split
    · rename_i c _ _ _ _ _
      cases (c == Value.type "enumerate") <;> (wp_walk using wpAny_loadPart' hl, wpAny_pyIter_tuple tupl; exact ⟨_, rfl, h⟩)
    · wp_walk using wpAny_loadPart' hl, wpAny_pyIter_tuple tupl
      exact ⟨_, rfl, h⟩
section
variable {prog : Program} {w : World} {A : Around} {E : Value → Shared → Prop} {s : Shared}
theorem call_enumT {l : Addr} {items : Array Value} {Q : Value → Shared → Prop} (tupl : s.heap.IsTuple l items)
    (h : ∀ h', IsEnum h' (s.heap.objs.size + 1) s.heap.objs.size 0 .none → h'.IsTupleIter s.heap.objs.size l 0 → h'.objs.size = s.heap.objs.size + 2 →
      (∀ b o, s.heap.get? b = some o → h'.get? b = some o) → Q (.ref (s.heap.objs.size + 1)) { s with heap := h' }) :
    wpAny (model prog w) A (call (.type "enumerate") [.ref l]) Q E s := by
  obtain ⟨⟨c, dct, dt, sl⟩, hl, rfl, n, rfl⟩ := tupl
  refine callType_new F.called_enumerate (by decide) (F.typeCall_enumerate_1 _) (F.newCall_enumerate_1 _) (fun obj => F.args_object_init_2 obj _) F.entry_enumerate_new (new_enumT l items n dct sl) ⟨hl, ?_⟩
  have sz : (s.heap.push { cls := .type "tuple_iterator", data := .fields #[.ref l, .int 0 0] }).objs.size = s.heap.objs.size + 1 := Heap.size_push ..
  show _ ∧ _
  rw [sz]
  have en : IsEnum ((s.heap.push { cls := .type "tuple_iterator", data := .fields #[.ref l, .int 0 0] }).push { cls := .type "enumerate", data := .fields #[.none, .bool false, .ref s.heap.objs.size, rawInt 0, .none, .none] }) (s.heap.objs.size + 1) s.heap.objs.size 0 .none := by
    have z := Heap.get?_push_size (s.heap.push { cls := .type "tuple_iterator", data := .fields #[.ref l, .int 0 0] }) (o := { cls := .type "enumerate", data := .fields #[.none, .bool false, .ref s.heap.objs.size, rawInt 0, .none, .none] }) rfl
    rw [sz] at z
    exact z
  exact ⟨⟨_, en, rfl⟩, h _ en ⟨_, Heap.get?_push_of_some _ (Heap.get?_push_size _ rfl), rfl, rfl⟩ (by rw [Heap.size_push, sz]) fun b o x => Heap.get?_push_of_some _ (Heap.get?_push_of_some _ x)⟩
theorem IsTuple_up {h h' : Heap} {t : Addr} {items : Array Value} (x : h.IsTuple t items) (e : ∀ o, h.get? t = some o → h'.get? t = some o) : h'.IsTuple t items := let ⟨o, ho, r⟩ := x; ⟨o, e o ho, r⟩
theorem IsTupleIter_up {h h' : Heap} {it t : Addr} {i : Nat} (x : h.IsTupleIter it t i) (e : ∀ o, h.get? it = some o → h'.get? it = some o) : h'.IsTupleIter it t i := let ⟨o, ho, r⟩ := x; ⟨o, e o ho, r⟩
theorem drawsT {A : Around} (hh : A.handled = none) (it t : Addr) (hne : t ≠ it) (items : Array Value) :
    Draws prog w A it [it, t] items.size (fun i v => items[i]? = some v) (fun i h => h.IsTupleIter it t i ∧ h.IsTuple t items) where
  live := fun _ _ st => let ⟨o, ho, _⟩ := st.1; ⟨o, ho⟩
  frame := fun _ _ _ st hk => ⟨IsTupleIter_up st.1 fun o e => hk it (by simp) o e, IsTuple_up st.2 fun o e => hk t (by simp) o e⟩
  item := fun i s Q E hi st hQ => by
    unfold Builtin.SmallTypes.nextOf
    exact wpAny_bind (L2.special_tup_item st.1 st.2 (x := items[i]) (by simp [hi]) fun h' a b => wpAny_pure (hQ _ h' s.toks (by simp [hi]) ⟨a, IsTuple_up st.2 fun o e => (b.2 t hne).trans e⟩ b))
  done := fun s Q E st hE => by
    unfold Builtin.SmallTypes.nextOf
    refine wpAny_bind (L2.special_tup_end hh st.1 st.2 (by simp) fun e h' sx eb => ?_)
    obtain ⟨a, o, vs, rfl, ho, hc, _⟩ := sx
    exact hE h' _ eb ⟨_, ho, hc⟩
end
/-- the tuple at a, each item with its place in a new pair -/
def IteT (K : PySem.W.Frag) (a : Addr) : It :=
  ⟨fun i H => ∃ (xs : List V) (x : V), SqT K H a xs ∧ xs[i]? = some x, fun i H v H' => ∃ T x, v = .ref T ∧ H T = none ∧ H' = upd H T (.tup [.int (i : Nat), x]) ∧ ∀ xs, SqT K H a xs → xs[i]? = some x, fun i H => ∃ xs : List V, SqT K H a xs ∧ xs.length ≤ i⟩
theorem turn_enumT {P : Program} {w : World} {K : PySem.W.Frag} {elts : List Expr} {kk : Nat} {tpos : Pos} (a e it : Addr) :
    Turn P w K (.Tuple elts kk tpos) (IteT K a) [e, it] e (fun i h => (∃ old, IsEnum h e it ((i : Nat) : Int) old) ∧ h.IsTupleIter it a i ∧ e ≠ it) where
  mem := by simp
  obj := fun i h ⟨⟨old, he⟩, ⟨o, ho, hc, hd⟩, _⟩ b hb => by
    rcases (show b = e ∨ b = it by simpa using hb) with rfl | rfl
    · exact ⟨_, he, fun v q => nomatch q⟩
    · exact ⟨o, ho, fun v q => by rw [hd] at q; cases q⟩
  keep := fun i h h' ⟨⟨old, he⟩, hi, hne⟩ k => ⟨⟨old, k e (by simp) _ he⟩, IsTupleIter_up hi fun o q => k it (by simp) o q, hne⟩
  item := by
    intro X hP hw hK hc i pins s σ H E I hf st hg
    subst hP hw hK
    obtain ⟨⟨old, he⟩, hit, hne⟩ := st
    obtain ⟨xs, x, hq, hx⟩ := hg
    obtain ⟨its, rv, p, hz⟩ := I.tuple hq
    obtain ⟨u, hu, ru⟩ := rv.get hx
    have hel : e < s.heap.objs.size := Heap.lt_size he
    have hil : it < s.heap.objs.size := by obtain ⟨_, q, _⟩ := hit; exact Heap.lt_size q
    obtain ⟨ot, hot, hct, nt, hdt⟩ := id p
    have nai : a ≠ it := fun z => by
      obtain ⟨o, ho, hc', _⟩ := id hit
      rw [z, ho] at hot
      cases hot
      rw [hc'] at hct
      exact absurd hct (by decide)
    have nae : e ∉ [it, a] := fun z => by
      rcases (show e = it ∨ e = a by simpa using z) with z | z
      · exact hne z
      · rw [← z, he] at hot
        cases hot
        exact absurd hct (by show ¬ (Value.type "enumerate" = Value.type "tuple"); decide)
    have hi : i < its.toArray.size := by
      have h1 : i < its.length := (List.getElem?_eq_some_iff.mp hu).1
      simpa using h1
    refine wpAny_pyNext_enum_itemD (drawsT (A := X.A.in1) (I.ok.hd hc) it a nai its.toArray) he ⟨hit, p⟩ hi hne nae fun v h' tk hv ho hit' hT hsz hk => ?_
    have ev : v = u := by
      have z : its.toArray[i]? = some u := by simpa using hu
      rw [z] at hv
      exact (Option.some.inj hv).symm
    subst ev
    refine ⟨_, rfl, wpAny_letOwnedTupleGo_enum (s := { s with heap := h', toks := tk + 1 }) ho fun h'' he' sb => ?_⟩
    have hT2 : h''.get? s.heap.objs.size = some { cls := .type "tuple", data := .seq #[.int i tk, v] } := (sb.2 _ (Nat.ne_of_gt hel)).trans hT
    have new : ObjOk X.prog X.w (upd H s.heap.objs.size (.tup [.int (i : Nat), x])) h'' s.heap.objs.size (.tup [.int (i : Nat), x]) :=
      ⟨by show 2 ≤ sizeLine; decide, [.int i tk, v], .cons ⟨_, rfl⟩ (.cons ru .nil), ⟨_, hT2, rfl, _, rfl⟩⟩
    have I1 : Inv X pins σ (upd H s.heap.objs.size (.tup [.int (i : Nat), x])) { s with heap := h'', toks := tk + 1 } :=
      I.turnedNew (ch := [e, it]) (fun b ob hb q => (sb.2 b (fun z => hb (by simp [z]))).trans (hk b ob (fun z => hb (by simp [z])) (fun z => hb (by simp [z])) q)) hf (Nat.le_refl _) new
    refine ⟨.ref s.heap.objs.size, _, I1, rfl, ⟨_, x, rfl, I.hok.fresh (Nat.le_refl _), rfl, fun ys hy => by rw [I.tuple_inj hy hq]; exact hx⟩, ⟨⟨v, ?_⟩, IsTupleIter_up hit'.1 fun o q => (sb.2 it (Ne.symm hne)).trans q, hne⟩, fun b hb => ?_⟩
    · rw [show ((i + 1 : Nat) : Int) = (i : Int) + 1 by omega]
      exact he'
    · have hb' : b < s.heap.objs.size := by
        rcases (show b = e ∨ b = it by simpa using hb) with z | z
        · rw [z]; exact hel
        · rw [z]; exact hil
      rw [upd_ne (Nat.ne_of_lt hb')]
      exact (hf b hb).1
  done := by
    intro X hP hw hK hc i pins s σ H E I hf st hg
    subst hP hw hK
    obtain ⟨⟨old, he⟩, hit, hne⟩ := st
    obtain ⟨xs, hq, hx⟩ := hg
    obtain ⟨its, rv, p, hz⟩ := I.tuple hq
    obtain ⟨f0, f1, f2, f3, f4, f5⟩ := hf it (by simp)
    have hl := rv.length
    have hend : (Builtin.SmallTypes.nextOf (.ref it)) = (Builtin.SmallTypes.nextOf (.ref it)) := rfl
    have hT : s.TypeIs (.ref e) "enumerate" := ⟨_, he, rfl⟩
    unfold pyNext
    refine wpAny_bind (wpAny_attempt (wpAny_callSpecial?_slot (name := Str.ofString "__next__") hT F.slot_enumerate_next
      (wpAny_call_entry F.slot_enumerate_next hT F.entry_enumerate_next ?_ (F.args_enumerate_next_1 _))))
    show wpAny _ _ (field (.ref e) 2 >>= _) _ _ _
    refine wpAny_bind (wpAny_field he rfl (x := .ref it) rfl ?_)
    show wpAny _ _ (Builtin.SmallTypes.nextOf (.ref it) >>= _) _ _ _
    unfold Builtin.SmallTypes.nextOf
    refine wpAny_bind (wpAny_bind (L2.special_tup_end (I.ok.hd hc) hit p (by simp; omega) fun x h' sx eb => ?_))
    obtain ⟨b, o, vs, rfl, ho, hc, _⟩ := sx
    refine wpAny_bind (wpAny_isInstance (T := "StopIteration") (b := true) ⟨o, ho, hc⟩ isSubtype_stop ?_)
    exact wpAny_pure ⟨rfl, I.turned (t' := s.toks) (fun b o hb q => eb b o hb q) f0 f1 f3 f4 f5⟩
  self := fun A i s Q E ⟨⟨_, he⟩, _⟩ h => wpAny_pyIter_enum he h
def iEnumT (K : PySem.W.Frag) (ta : TA) : TI := fun σ H R => ta σ H fun vs H1 => ∃ a xs, vs = [.ref a] ∧ SqT K H1 a xs ∧ R (IteT K a) H1
theorem pi_enumT {X : Cx} {e : Expr} {ta : TA} {p pos tpos : Pos} {elts : List Expr} {kk : Nat} (hg : Gl X "enumerate") (hm : X.mg "enumerate" = none) (ha : PA X [e] ta) (hs : starEach [e] X.env = [(false, eval e X.env)] := by rfl) :
    PI X (.Tuple elts kk tpos) (.Call (.Name "enumerate" p) [e] [] pos) (iEnumT X.K ta) := by
  refine ⟨fun pins s σ H R I h => Call_ (ld_blt I hg hm boot_enumerate (PyProof.Rows.callWith_type1 (thn (ha.run pos pins s σ H _ I h) fun us s1 ⟨vs, H1, I1, r1, a, xs, ex, hq, q⟩ => ?_) hs rfl))⟩
  subst ex
  obtain ⟨u, rfl, ru⟩ := r1.one
  cases (show u = Value.ref a from ru)
  obtain ⟨its, rv, p', hz⟩ := I1.tuple hq
  refine call_enumT p' fun h' he hit hsz hk => wpAny_pyIter_enum he ?_
  have I2 : Inv X pins σ H1 { s1 with heap := h' } := I1.kept (t' := s1.toks) hk
  refine ⟨s1.heap.objs.size + 1, [s1.heap.objs.size + 1, s1.heap.objs.size], _, _, H1, rfl, I2, turn_enumT a (s1.heap.objs.size + 1) s1.heap.objs.size, ⟨⟨.none, he⟩, hit, Nat.succ_ne_self _⟩, fun b hb => ?_, q⟩
  have hle : s1.heap.objs.size ≤ b := by
    rcases (show b = s1.heap.objs.size + 1 ∨ b = s1.heap.objs.size by simpa using hb) with z | z
    · rw [z]; exact Nat.le_add_right _ _
    · rw [z]; exact Nat.le_refl _
  exact I1.fpOk hle (I1.hok.fresh hle)
end DL
set_option maxHeartbeats 4000000
/-! M3: t[::-1] of a tuple; a text repeated. -/
namespace DL
open PySem PySem.Spec L2
open PyProof.Rows hiding St wpAt wpAt_bind wpAt_stack wpAt_mono
theorem filterMap_of {α β : Type} {f g : α → Option β} : ∀ {l : List α}, (∀ m ∈ l, f m = g m) → l.filterMap f = l.filterMap g
  | [], _ => rfl
  | x :: l, h => by rw [List.filterMap_cons, List.filterMap_cons, h x List.mem_cons_self, filterMap_of fun m hm => h m (List.mem_cons_of_mem _ hm)]
section
variable {prog : Program} {w : World} {A : Around} {E : Value → Shared → Prop} {s : Shared}
theorem adjust_back (n : Nat) : Builtin.Slice.sliceAdjust none none (-1) (n : Int) = ((n : Int) - 1, -1) := by
  unfold Builtin.Slice.sliceAdjust
  simp
theorem places_back (n : Nat) : Builtin.Slice.slicePlaces ((n : Int) - 1) (-1) (-1) = n := by
  unfold Builtin.Slice.slicePlaces
  simp
  split <;> omega
theorem applied_back {sl : Addr} {vl vu vs : Value} {n : Nat} {Q : Int × Int × Nat → Shared → Prop} (hs : s.heap.IsSliceOf sl vl vu vs) (pl : IsPart vl none) (pu : IsPart vu none) (ps : IsPart vs (some (-1)))
    (h : Q ((n : Int) - 1, -1, n) s) : wpAny (model prog w) A (Builtin.Slice.sliceApplied (.ref sl) (pure (n : Int))) Q E s := by
  obtain ⟨os, hos, hcs, hds⟩ := id hs
  unfold Builtin.Slice.sliceApplied Builtin.Slice.sliceFields
  refine wpAny_bind (wpAny_bind (wpAny_field hos hds (x := vl) rfl (wpAny_bind (wpAny_field hos hds (x := vu) rfl (wpAny_bind (wpAny_field hos hds (x := vs) rfl (wpAny_pure ?_)))))))
  refine wpAny_bind (HT.slicePart_ ps ?_)
  show wpAny _ _ (if ((-1 : Int) == 0) = true then _ else _) _ _ s
  rw [if_neg (by decide)]
  refine wpAny_bind (HT.slicePart_ pl (wpAny_bind (HT.slicePart_ pu (wpAny_bind (wpAny_pure ?_)))))
  show wpAny _ _ (match Builtin.Slice.sliceAdjust none none (-1) (n : Int) with | (lo, hi) => pure (lo, (-1 : Int), Builtin.Slice.slicePlaces lo hi (-1))) _ _ s
  rw [adjust_back n]
  show wpAny _ _ (pure ((n : Int) - 1, (-1 : Int), Builtin.Slice.slicePlaces ((n : Int) - 1) (-1) (-1))) _ _ s
  rw [places_back]
  exact wpAny_pure h
theorem pick_back (xs : Array Value) : ((List.range xs.size).filterMap fun (m : Nat) => xs[(((xs.size : Int) - 1) + (m : Int) * (-1)).toNat]?).toArray = xs.toList.reverse.toArray := by
  congr 1
  have e : ((List.range xs.size).filterMap fun (m : Nat) => xs[(((xs.size : Int) - 1) + (m : Int) * (-1)).toNat]?) = ((List.range xs.size).map fun m => xs.size - 1 - m).filterMap fun m => xs[m]? := by
    rw [List.filterMap_map]
    refine filterMap_of fun m hm => ?_
    have h1 := List.mem_range.mp hm
    have h2 : (((xs.size : Int) - 1) + (m : Int) * (-1)).toNat = xs.size - 1 - m := by omega
    show xs[_]? = xs[_]?
    rw [h2]
  rw [e]
  have z := PySem.W.krv_pick xs
  unfold slicePick at z
  rw [PySem.W.krv_bounds] at z
  have z2 : ((sliceRange ((xs.size : Int) - 1) (-1) (-1)).filterMap (xs[·]?)).toArray = xs.toList.reverse.toArray := z
  rw [PySem.W.krv_sliceRange] at z2
  have z3 := congrArg Array.toList z2
  simpa using z3
theorem item_back {t sl : Addr} {items : Array Value} {vl vu vs : Value} {Q : Value → Shared → Prop} (ht : IsTup s.heap t items) (hs : s.heap.IsSliceOf sl vl vu vs) (pl : IsPart vl none) (pu : IsPart vu none) (ps : IsPart vs (some (-1)))
    (h : Q (.ref s.heap.objs.size) { s with heap := s.heap.push { cls := .type "tuple", data := .seq items.toList.reverse.toArray } }) (hsz : items.size ≤ sizeLine) : wpAny (model prog w) A (getItem (.ref t) (.ref sl)) Q E s := by
  have fits : sizeOk (.seq items.toList.reverse.toArray) := by
    show items.toList.reverse.toArray.size ≤ sizeLine
    rw [List.size_toArray, List.length_reverse, Array.length_toList]
    exact hsz
  obtain ⟨os, hos, hcs, hds⟩ := id hs
  have hTs : s.TypeIs (.ref sl) "slice" := ⟨os, hos, hcs⟩
  unfold getItem
  try with_reducible refine wpAny_holding ?_
  first | refine wpAny_bind (wpAny_pure ?_) | skip
  refine wpAny_bind (wpAny_sequenceKey ht.typeIs (by decide) (wpAny_bind (wpAny_callSpecial?_slot (name := Str.ofString "__getitem__") ht.typeIs PyProof.Rows.slot_tuple_getitem
    (wpAny_call_entry PyProof.Rows.slot_tuple_getitem ht.typeIs entry_tuple_getitem ?_ (args_tuple_getitem _ _)))))
  show wpAny _ _ (Builtin.Tuple.tupleItemsOf (.ref t) >>= _) _ _ s
  refine wpAny_bind (tupleItemsOf_ ht (wpAny_bind (wpAny_typeOf hTs ?_)))
  rw [if_pos (by decide)]
  refine wpAny_bind (applied_back hs pl pu ps ?_)
  show wpAny _ _ (if (((items.size : Int) - 1) == 0 && (-1 : Int) == 1 && items.size == items.size) = true then _ else _) _ _ s
  rw [if_neg (by simp), pick_back]
  first
    | exact wpAny_bind (m := Builtin.Tuple.tupleExact _) (wpAny_newObj_type (wpAny_pure ⟨_, rfl, wpAny_pure h⟩) fits)
    | exact wpAny_bind (m := Builtin.Tuple.tupleExact _) (wpAny_newObj_type (wpAny_bind (wpAny_pure (wpAny_pure ⟨_, rfl, wpAny_pure h⟩))) fits)
    | exact wpAny_bind (wpAny_bind (m := Builtin.Tuple.tupleExact _) (wpAny_newObj_type (wpAny_pure (wpAny_pure ⟨_, rfl, wpAny_pure h⟩)) fits))
    | exact wpAny_bind (wpAny_bind (m := Builtin.Tuple.tupleExact _) (wpAny_newObj_type (wpAny_pure ⟨_, rfl, wpAny_pure h⟩) fits))
end
/-- t[::-1] -/
def tRevT (K : PySem.W.Frag) (te : TE) : TE := fun σ H Q => te σ H fun x H1 => ∃ a xs, x = .ref a ∧ SqT K H1 a xs ∧ ∀ p, H1 p = none → Q (.ref p) (upd H1 p (.tup xs.reverse))
theorem pe_revT {X : Cx} {e : Expr} {te : TE} {k : Nat} {p1 p2 p3 pos : Pos} (he : PE X e te) : PE X (.Subscript e (.Slice none none (some (.UnaryOp .USub (.Constant (.int 1) k p1) p2)) p3) pos) (tRevT X.K te) := by
  refine ⟨fun pins s σ H Q I h => Subscript_ (thn (he.run pins s σ H _ I h) fun v s1 ⟨x, H1, I1, r1, a, xs, ex, hx, q⟩ => ?_)⟩
  subst ex
  cases r1
  have step : PO X (some (.UnaryOp .USub (.Constant (.int 1) k p1) p2)) (tPart (tUn (rU fun i => .int (-i)) (tC (.int 1)))) := po_some (pe_un un_neg pe_int)
  refine wpAny_Slice (thn (po_none.run pins s1 σ H1 (fun o H2 => o = none ∧ H2 = H1) I1 ⟨rfl, rfl⟩) fun vl s2 ⟨l, H2, I2, pl, el, e2⟩ => ?_)
  subst el e2
  refine thn (po_none.run pins s2 σ H2 (fun o H3 => o = none ∧ H3 = H2) I2 ⟨rfl, rfl⟩) fun vu s3 ⟨u, H3, I3, pu, eu, e3⟩ => ?_
  subst eu e3
  refine thn (step.run pins s3 σ H3 (fun o H4 => o = some (-1) ∧ H4 = H3) I3 ⟨1, rfl, -1, rfl, rfl, rfl⟩) fun vs s4 ⟨o, H4, I4, ps, eo, e4⟩ => ?_
  subst eo e4
  have I5 : Inv X pins σ H4 { s4 with heap := s4.heap.push { cls := .type "slice", data := .fields #[vl, vu, vs] } } := I4.kept (t' := s4.toks) fun b ob q => Heap.get?_push_of_some _ q
  obtain ⟨its, r, ht, hz⟩ := I5.tuple hx
  have hlen := r.length
  show wpAny (model X.prog X.w) X.A (subscriptTail e (.Slice none none (some (.UnaryOp .USub (.Constant (.int 1) k p1) p2)) p3) (.ref a) (.ref s4.heap.objs.size)) (EP X pins σ Q) X.xe { s4 with heap := s4.heap.push { cls := .type "slice", data := .fields #[vl, vu, vs] } }
  refine tail_any (ops := [.ref a, .ref s4.heap.objs.size]) ht.typeIs PyProof.Rows.slot_tuple_getitem.lookup ?_ (by with_unfolding_all rfl)
  refine item_back ht (Heap.IsSliceOf.new _ vl vu vs) pl pu ps ?_ (by rw [List.size_toArray]; omega)
  refine ⟨.ref _, _, I5.laid (t' := s4.toks) (o := .tup xs.reverse) (fun b ob q => Heap.get?_push_of_some _ q) (Nat.le_refl _) ?_, rfl, q _ (I5.hok.fresh (Nat.le_refl _))⟩
  exact ⟨by rw [List.length_reverse]; omega, _, r.reverse, IsTup.new _ _⟩
end DL
set_option maxHeartbeats 4000000
/-! M4: a text repeated; list(text). -/
namespace DL
open PySem PySem.Spec L2
open PyProof.Rows hiding St wpAt wpAt_bind wpAt_stack wpAt_mono
def mulS (x : Str) (k : Nat) : Str := ⟨(List.replicate k x.cps).foldl (· ++ ·) #[]⟩
theorem fold_size (a : Array Nat) : ∀ (k : Nat) (acc : Array Nat), ((List.replicate k a).foldl (· ++ ·) acc).size = acc.size + a.size * k
  | 0, acc => rfl
  | k + 1, acc => by
    rw [List.replicate_succ, List.foldl_cons, fold_size a k, Array.size_append, Nat.mul_succ]
    omega
theorem mulS_length (x : Str) (k : Nat) : (mulS x k).cps.size = x.cps.size * k := by
  unfold mulS
  rw [fold_size]
  simp
def rMulS : R2 := fun x y H Q => ∃ (z : Str) (k : Int), x = .str z ∧ y = .int k ∧ 2 ≤ k ∧ k ≤ 1000 ∧ 1 ≤ z.length ∧ z.length ≤ 1000 ∧ Q (.str (mulS z k.toNat)) H
def signs (x : Str) : List V := x.cps.toList.map fun c => V.str ⟨#[c]⟩
theorem vals_signs : ∀ {cs : List Nat} {vs : List Value}, vs.length = cs.length → (∀ (j : Nat) (v : Value), vs[j]? = some v → ∃ (c : Nat) (u : Tok), cs[j]? = some c ∧ v = Value.str ⟨#[c]⟩ u) → Vals (cs.map fun c => V.str ⟨#[c]⟩) vs
  | [], [], _, _ => .nil
  | c :: cs, v :: vs, h, f => by
    obtain ⟨c', u, e1, e2⟩ := f 0 v rfl
    cases e1
    exact .cons ⟨u, e2⟩ (vals_signs (by simpa using h) fun j w e => by simpa using f (j + 1) w (by simpa using e))
section
variable {X : Cx}
theorem op_mulS : OpR X (binaryOp .Mult) rMulS := by
  intro pins s σ H x y v u Q I rx ry h
  obtain ⟨z, k, rfl, rfl, h1, h2, h3, h4, q⟩ := h
  obtain ⟨t, rfl⟩ := (show ∃ t, v = Value.str z t from rx)
  obtain ⟨t', rfl⟩ := (show ∃ t, u = Value.int k t from ry)
  have sl : sizeLine = 16777216 := sizeLine_eq
  have n1 : ¬ k < 1 := by omega
  have n2 : (k == 1 || z.length == 0) = false := by
    rw [beq_eq_false_iff_ne.mpr (by omega), beq_eq_false_iff_ne.mpr (by omega)]
    rfl
  have bound : z.length * k.toNat ≤ 1000 * 1000 := Nat.mul_le_mul h4 (by omega)
  refine PySem.P.mul_str (by rw [decide_eq_false (by omega), decide_eq_false (by omega)]; rfl) (fun _ _ => ?_) (fun _ _ => ?_) ?_
  · have d : (1000 : Int) ≤ (2 ^ 63 - 1) / k := Int.le_ediv_of_mul_le (by omega) (by omega)
    omega
  · exact decide_eq_false (by omega)
  · rw [if_neg n1, n2]
    exact ⟨by have l := mulS_length z k.toNat; show (mulS z k.toNat).cps.size ≤ sizeLine; have b2 : z.cps.size * k.toNat ≤ 1000000 := bound; omega, .str _, H, I.tok _, ⟨_, rfl⟩, q⟩
theorem call_listS (hc : X.calm = true) : CallR X (.type "list") (fun xs H Q => ∃ x : Str, xs = [.str x] ∧ x.length ≤ 100000 ∧ ∀ l, H l = none → Q (.ref l) (upd H l (.lst (signs x)))) := by
  intro pins s σ H xs us Q I r h
  obtain ⟨x, rfl, hz, q⟩ := h
  obtain ⟨u, rfl, ru⟩ := r.one
  obtain ⟨t, rfl⟩ := (show ∃ t, u = Value.str x t from ru)
  have sl : sizeLine = 16777216 := sizeLine_eq
  have hz' : x.cps.size ≤ 100000 := hz
  refine call_list_str (I.ok.hd hc) x t (fun h' tk acc c' kp e it => ?_) (by omega)
  have rv : Vals (signs x) acc.toList := by
    refine vals_signs ?_ fun j v e => ?_
    · rw [Array.length_toList, Array.length_toList]
      exact it.1
    · obtain ⟨c, u, e1, e2⟩ := it.2 j v (by simpa using e)
      exact ⟨c, u, by simpa using e1, e2⟩
  have lens : (signs x).length ≤ sizeLine := by
    unfold signs
    rw [List.length_map, Array.length_toList]
    omega
  exact ⟨.ref s.heap.objs.size, _, I.laid (t' := tk) (o := .lst (signs x)) kp (Nat.le_refl _) ⟨lens, acc.toList, c', rv, by rw [e]⟩, rfl, q _ (I.hok.fresh (Nat.le_refl _))⟩
end
end DL
set_option maxHeartbeats 4000000
/-! M5: a lambda with parameters and without captured names, as a value: made, and called by the name that holds it. -/
namespace DL
open PySem PySem.Spec L2 LamX
open PyProof.Rows hiding St wpAt wpAt_bind wpAt_stack wpAt_mono
/-- at f: such a lambda -/
def LamO (f c' : Addr) (q : Str) (pm0 : Arguments) (b : Expr) (sc : Scope) : HO := .ext fun h => ∃ pm ctv : Value, h.get? f = some (PySem.W.kla_obj "<lambda>" q pm0 b sc [] pm c' ctv)
theorem lamO_ok {P : Program} {w : World} {H : Hp} {h : Heap} {f c' : Addr} {q : Str} {pm0 : Arguments} {b : Expr} {sc : Scope} {pm ctv : Value} (e : h.get? f = some (PySem.W.kla_obj "<lambda>" q pm0 b sc [] pm c' ctv)) : ObjOk P w H h f (LamO f c' q pm0 b sc) :=
  ⟨⟨pm, ctv, e⟩, ⟨_, e⟩, fun h1 h2 ⟨pm, ctv, q⟩ k => ⟨pm, ctv, k _ q⟩⟩
theorem lamO_at {P : Program} {w : World} {H : Hp} {h : Heap} {f c' : Addr} {q : Str} {pm0 : Arguments} {b : Expr} {sc : Scope} (ok : HOk P w H h) (e : H f = some (LamO f c' q pm0 b sc)) : ∃ pm ctv : Value, h.get? f = some (PySem.W.kla_obj "<lambda>" q pm0 b sc [] pm c' ctv) := (ok f _ e).1
theorem lamO_ne {f c' : Addr} {q : Str} {pm0 : Arguments} {b : Expr} {sc : Scope} (ps : Array Value) : LamO f c' q pm0 b sc ≠ .tbl ps := fun z => by
  unfold LamO at z
  cases z
section
variable {X : Cx} {pins : List (Addr × Obj)} {σ : L2.St} {H : Hp} {s : Shared}
theorem closure_nil {sc : Scope} {env : Env} (no : ∀ y ∈ sc.names, y.2 ≠ .free) : closureFor sc env = pure [] := by
  have z := closure_ok (scope := sc) (env := env) (fun y hy e => absurd e (no y hy))
  have e : cloFrom env.cells sc.names [] = [] := by
    cases q : cloFrom env.cells sc.names [] with
    | nil => rfl
    | cons p r =>
      have m : p ∈ cloFrom env.cells sc.names [] := by rw [q]; exact List.mem_cons_self
      obtain ⟨y, c⟩ := p
      rcases cloFrom_mem m with k | ⟨h1, _⟩
      · cases k
      · exact absurd rfl (no _ h1)
  rw [e] at z
  exact z
/-- the lambda is made: its code object is new, or found in the table -/
theorem lam_makeP {T : List (Addr × Str)} {c P : Addr} {params : Arguments} {body : Expr} {scope : Scope} {pos : Pos} {E : Value → Shared → Prop} {Q : VK} (I : Inv X pins σ H s) (TB : TabB X.base X.mg c P) (hcode : X.env.code = .ref c)
    (hm : (P, X.env.qual ++ "<lambda>") ∈ T) (hu : ∀ p ∈ T, p.1 = P → p.2 = X.env.qual ++ "<lambda>") (hT : Tabs T H) (hdef : defaultsOf params X.env = ([], [])) (no : ∀ y ∈ scope.names, y.2 ≠ .free)
    (h : ∀ (f c' : Addr) (H1 : Hp), ExtN H H1 → Tabs T H1 → H f = none → H1 f = some (LamO f c' (X.env.qual ++ "<lambda>") params body scope) → H1 c' = some (CodeO c' (X.env.qual ++ "<lambda>")) → Q (.ref f) H1) :
    wpAny (model X.prog X.w) X.A (eval (.Lambda params body scope pos) X.env) (EP X pins σ Q) E s := by
  obtain ⟨ps, hP, ht, ha⟩ := hT _ hm
  have bP : s.heap.BuiltinsAt X.mg P := TB.bm.keeps I.bk
  have hP' : s.heap.get? P = some { cls := .none, data := .fields ps } := I.hok P _ hP
  refine PySem.W.kla_eval hdef ?_
  cases hc : codeAmong pos ps.toList with
  | none =>
    refine PySem.W.kla_makeFunction (mg := X.mg) (c := c) (P := P) (ps := ps) (clos := []) (closure_nil no) I.ok.glob (I.mod.glob.keeps I.bk) hcode (TB.code.keeps I.bk) hP' ht hc TB.gP bP fun c' ctv h' tk hx hge hlt hrec htb => ?_
    obtain ⟨c2, oc, vs, t, e2, hoc, hd, hv⟩ := hrec
    cases e2
    have nC : H c' = none := I.hok.fresh hge
    have I0 := inv_table (t' := tk) (more := #[rawInt pos.line, rawInt pos.col, .ref c']) (h' := h') I hP hx htb hge ⟨oc, vs, t, hoc, hd, hv⟩
    have szs : s.heap.objs.size ≤ h'.objs.size := Nat.le_trans hge (Nat.le_of_lt hlt)
    have nF : H h'.objs.size = none := I.hok.fresh szs
    have nF1 : upd (upd H P (.tbl (ps ++ #[rawInt pos.line, rawInt pos.col, .ref c']))) c' (CodeO c' (X.env.qual ++ "<lambda>")) h'.objs.size = none := I0.hok.fresh (Nat.le_refl _)
    have I1 := I0.laid (t' := tk) (a := h'.objs.size) (o := LamO h'.objs.size c' (X.env.qual ++ "<lambda>") params body scope) (h' := h'.push (PySem.W.kla_obj "<lambda>" (X.env.qual ++ "<lambda>") params body scope [] ((X.mg "__name__").getD .none) c' ctv))
      (fun b u e => Heap.get?_push_of_some _ e) (Nat.le_refl _) (lamO_ok (Heap.get?_push_size _ rfl))
    have grow : ExtN H (upd (upd H P (.tbl (ps ++ #[rawInt pos.line, rawInt pos.col, .ref c']))) c' (CodeO c' (X.env.qual ++ "<lambda>"))) := fun b o e n => by
      rw [upd_ne (ne_of_none e nC), upd_ne (fun z => n ps (Option.some.inj (e.symm.trans (by rw [z]; exact hP))))]
      exact e
    have grow2 : ExtN H (upd (upd (upd H P (.tbl (ps ++ #[rawInt pos.line, rawInt pos.col, .ref c']))) c' (CodeO c' (X.env.qual ++ "<lambda>"))) h'.objs.size (LamO h'.objs.size c' (X.env.qual ++ "<lambda>") params body scope)) := fun b o e n => by
      rw [upd_ne (ne_of_none e nF)]
      exact grow b o e n
    have eL : (ps ++ #[rawInt pos.line, rawInt pos.col, .ref c']).toList = ps.toList ++ [rawInt pos.line, rawInt pos.col, .ref c'] := by simp
    have nCF : c' ≠ h'.objs.size := Nat.ne_of_lt hlt
    refine ⟨.ref h'.objs.size, _, I1, rfl, h h'.objs.size c' _ grow2 (fun p hp => ?_) nF upd_same (by rw [upd_ne nCF, upd_same])⟩
    by_cases hb : p.1 = P
    · rw [hu p hp hb, hb]
      refine ⟨_, by rw [upd_ne (fun z => by rw [← z, hP] at nF; cases nF), upd_ne (ne_of_none hP nC), upd_same], by rw [eL]; exact PySem.TriplesOk_snoc _ _ _ _ ht, fun p' cv hcv => ?_⟩
      rw [eL] at hcv
      rcases among_app _ ht hcv with z | z
      · obtain ⟨c0, e1, e2⟩ := ha p' cv z
        exact ⟨c0, e1, grow2 _ _ e2 codeO_ne⟩
      · exact ⟨c', z, by rw [upd_ne nCF, upd_same]⟩
    · obtain ⟨ps', a1, a2, a3⟩ := hT p hp
      refine ⟨ps', by rw [upd_ne (ne_of_none a1 nF), upd_ne (ne_of_none a1 nC), upd_ne hb]; exact a1, a2, fun p' cv hcv => ?_⟩
      obtain ⟨c0, e1, e2⟩ := a3 p' cv hcv
      exact ⟨c0, e1, grow2 _ _ e2 codeO_ne⟩
  | some cv =>
    obtain ⟨c', e, hco⟩ := ha pos cv hc
    subst e
    refine PySem.W.kla_makeFunctionHit (mg := X.mg) (c := c) (P := P) (ps := ps) (clos := []) (closure_nil no) I.ok.glob (I.mod.glob.keeps I.bk) hcode (TB.code.keeps I.bk) hP' ht hc bP fun ctv h' tk hx hsz => ?_
    have nF : H h'.objs.size = none := I.hok.fresh hsz
    have I1 := I.laid (t' := tk) (a := h'.objs.size) (o := LamO h'.objs.size c' (X.env.qual ++ "<lambda>") params body scope) (h' := h'.push (PySem.W.kla_obj "<lambda>" (X.env.qual ++ "<lambda>") params body scope [] ((X.mg "__name__").getD .none) c' ctv))
      (fun b u e => Heap.get?_push_of_some _ (hx b u e)) hsz (lamO_ok (Heap.get?_push_size _ rfl))
    have grow : ∀ b o, H b = some o → upd H h'.objs.size (LamO h'.objs.size c' (X.env.qual ++ "<lambda>") params body scope) b = some o := fun b o e => by
      rw [upd_ne (ne_of_none e nF)]
      exact e
    exact ⟨.ref h'.objs.size, _, I1, rfl, h h'.objs.size c' _ (.of grow) (Tabs.ext hT grow) nF upd_same (grow _ _ hco)⟩
/-- the lambda as a value -/
def tLamV (T : List (Addr × Str)) (q : Str) (pm0 : Arguments) (b : Expr) (sc : Scope) : TE := fun _ H Q => Tabs T H ∧ ∀ (f c' : Addr) (H1 : Hp), ExtN H H1 → Tabs T H1 → H f = none → H1 f = some (LamO f c' q pm0 b sc) → H1 c' = some (CodeO c' q) → Q (.ref f) H1
theorem pe_lam {T : List (Addr × Str)} {c P : Addr} {params : Arguments} {body : Expr} {scope : Scope} {pos : Pos} (TB : TabB X.base X.mg c P) (hcode : X.env.code = .ref c) (hm : (P, X.env.qual ++ "<lambda>") ∈ T) (hu : ∀ p ∈ T, p.1 = P → p.2 = X.env.qual ++ "<lambda>")
    (hdef : defaultsOf params X.env = ([], [])) (no : ∀ y ∈ scope.names, y.2 ≠ .free) : PE X (.Lambda params body scope pos) (tLamV T (X.env.qual ++ "<lambda>") params body scope) :=
  ⟨fun pins s σ H Q I h => lam_makeP I TB hcode hm hu h.1 hdef no h.2⟩
end
/-- what such a lambda keeps, by its body -/
structure LmOk (P : Program) (w : World) (K : PySem.W.Frag) (mg : Str → Option Value) (base : Heap) (k : Nat) (q : Str) (pm0 : Arguments) (b : Expr) (sc : Scope) (ps : List Str) (sp : Sp) : Prop where
  size : ∀ vs H Q E, sp vs H Q E → vs.length = ps.length
  goes : ∀ (f c' : Addr) (A : Around) (outer : List Env) (s : Shared) (H : Hp) (us : List Value) (vs : List V) (Q : VK) (E : XK), Room k A → Env0 P w K mg base A outer s H → H f = some (LamO f c' q pm0 b sc) → H c' = some (CodeO c' q) → Vals vs us → sp vs H Q E →
    codeAny (model P w) A (.call (.ref f) ⟨us, []⟩) (CR CX0 outer P w H s Q E) s
theorem lm_mk {P : Program} {w : World} {K : PySem.W.Frag} {mg : Str → Option Value} {base : Heap} {k : Nat} {q : Str} {pm0 : Arguments} {b : Expr} {sc : Scope} {N ps : List Str} {sp : Sp} (S : FnScope N ps sc) (len : ∀ vs H Q E, sp vs H Q E → vs.length = ps.length)
    (bnd : ∀ (pm cv ctv : Value) (us : List Value), us.length = ps.length → bindArgs (PySem.W.kla_fn "<lambda>" q pm0 b sc [] pm cv ctv) ⟨us, []⟩ = pure (ps.zip us))
    (body : ∀ (f c' : Addr) (A : Around) (outer : List Env) (s : Shared) (H : Hp) (vs : List V) (Q : VK) (E : XK), Room k (A.deeper (envOfC q sc s.heap.objs.size f (.ref c'))) → sp vs H Q E →
      ∃ t, PE (cxOf CX0 P w K mg base N q sc f (.ref c') A outer s H E).nox b t ∧ t (start N vs) H Q) : LmOk P w K mg base (k + 1) q pm0 b sc ps sp := by
  refine ⟨len, fun f c' A outer s H us vs Q E room e0 hf hc vals told => ?_⟩
  have lens : us.length = ps.length := vals.length.symm.trans (len _ _ _ _ told)
  obtain ⟨pm, ctv, ho⟩ := lamO_at e0.hok hf
  have code := NdefX.codeO_at e0.hok hc
  have nol : s.heap.NoLimit := e0.mod.nolimit.keeps fun b o e => (e0.bs b o e).1
  have kinds : ∀ y ∈ ps.zip us, sc.names.lookup y.1 = some .local ∨ (sc.names.lookup y.1 = some .cell ∧ ((cellsFrom (s.heap.objs.size + 1) sc.names []).lookup y.1).isSome = true) := by
    rintro ⟨n, v⟩ hy
    rcases S.par n (List.of_mem_zip hy).1 with z | z
    · exact .inl z
    · exact .inr ⟨z, PySem.W.cellsFrom_some _ _ _ (.inl z)⟩
  refine PySem.W.kla_callFunE room.depth ho rfl S.co S.gen rfl code ?_
  rw [bnd pm (.ref c') ctv us lens]
  refine wpAny_pure (wpAny_newFunctionEnv_cells S.kind kinds fun env he s1 x => ?_)
  subst he
  refine ⟨nol.keeps x.toInCall.keep, PySem.W.kla_codeExpr ?_⟩
  obtain ⟨t, ht, hq⟩ := body f c' A outer s H vs Q E (room.deeper _) told
  have I : Inv (cxOf CX0 P w K mg base N q sc f (.ref c') A outer s H E) [] (start N vs) H s1 := inv_start S room.hd e0 (len _ _ _ _ told) vals x
  refine wpAny_mono (ht.nox.run [] s1 (start N vs) H Q I hq) (fun v s' z => ?_) fun _ _ z => z
  obtain ⟨v', H', J, rv, z⟩ := z
  exact ⟨v', H', J.os, J.bare, J.base, J.hok, rv, z⟩
/-- a(..), a a name that holds such a lambda -/
def tCallL (i : Nat) (q : Str) (pm0 : Arguments) (b : Expr) (sc : Scope) (sp : Sp) (t : TA) : TE := fun σ H Q => ∃ f c' : Addr, σ[i]? = some (some (.ref f)) ∧ H f = some (LamO f c' q pm0 b sc) ∧ t σ H fun vs H1 => H1 f = some (LamO f c' q pm0 b sc) ∧ H1 c' = some (CodeO c' q) ∧ sp vs H1 Q E0
theorem pe_callL2 {X : Cx} {k j i : Nat} {x q : Str} {pm0 : Arguments} {b : Expr} {sc : Scope} {ps : List Str} {sp : Sp} {t : TA} {e : Expr} {es : List Expr} {p pos : Pos} (L : LmOk X.prog X.w X.K X.mg X.base k q pm0 b sc ps sp) (hr : Room j X.A) (hk : k ≤ j) (hN : X.N[i]? = some x) (hv : Vis X.env.scope x) (ha : PA X (e :: es) t)
    (hd : (x == ("__debug__" : Str)) = false := by decide) (hcd : (x == ("__classdict__" : Str)) = false := by decide)
    (he : starEach (e :: es) X.env = (false, eval e X.env) :: starEach es X.env := by rfl) (hpl : (backTo pos (starEach es X.env)).any (·.1) = false := by rfl) :
    PE X (.Call (.Name x p) (e :: es) [] pos) (tCallL i q pm0 b sc sp t) := by
  refine ⟨fun pins s σ H Q I ⟨f, c', hs, hf, ht⟩ => wpAny_Call_Name_kw (thn ((pe_var (pos := p) hN hv hd hcd).run pins s σ H (fun v H1 => v = .ref f ∧ H1 = H) I ⟨.ref f, hs, rfl, rfl⟩) fun u s1 ⟨v, H1, I1, r1, q1⟩ => ?_)⟩
  obtain ⟨rfl, rfl⟩ := q1
  obtain rfl : u = Value.ref f := r1
  have isF : ∀ {H : Hp} {s : Shared}, Inv X pins σ H s → H f = some (LamO f c' q pm0 b sc) → PySem.W.FnAt f s.heap := fun I e => by
    obtain ⟨pm, ctv, o⟩ := lamO_at I.hok e
    exact ⟨_, _, _, _, o⟩
  refine PySem.W.callWith_F (first := []) (isF I1 hf) (thn (ha.run pos pins s1 σ _ _ I1 ht) fun us s2 ⟨vs, H2, I2, r, h1, h2, z⟩ => ⟨isF I2 h1, ?_⟩) he hpl
  show wpAny _ _ (call (.ref f) us) _ _ _
  refine wpAny_call (codeAny_mono (L.goes f c' X.A X.stack s2 H2 us vs Q E0 (hr.mono hk) I2.env0 h1 h2 r z) fun r s' hq => ?_)
  match r, hq with
  | .error e, hq => exact hq.elim
  | .ok (.ret u), hq => exact I2.after hq
end DL
set_option maxHeartbeats 4000000
/-! M6: try: .. except X as n: .. and more clauses, where the first one catches. -/
namespace DL
open PySem PySem.Spec L2
open PyProof.Rows hiding St wpAt wpAt_bind wpAt_stack wpAt_mono
/-- what the first clause wishes of the body's exception -/
def wFst (K : PySem.W.Frag) (n : Nat) (c : Value) (i : Nat) (ts : Addr → Value → Option Addr → TS) (D : Ends) : WX := fun cls d σ H => σ.length = n → PySem.W.exmOne K cls c = some true ∧
  ∀ a, H a = none → ts a cls d { nx := fun σ' H' => D.nx (σ'.set i none) H', rt := D.rt, bk := fun σ' H' => D.bk (σ'.set i none) H', ct := fun σ' H' => D.ct (σ'.set i none) H' } (σ.set i (some (.ref a))) H
section
variable {X : Cx} {x n : Str} {c : Value} {i : Nat} {body suite : List Stmt} {b₀ : Stmt} {hds : List ExceptHandler} {np pos pos' : Pos} {tb : WX → TS} {ts : Addr → Value → Option Addr → TS}
theorem ps_try_fst (hs : X.stack = X.env :: X.outer) (hf : X.env.frame = some X.env.locals) (hN : X.N.Nodup) (hi : X.N[i]? = some n) (hln : X.env.kindOf n = some .local) (hc : Names X x c)
    (hb : ∀ (W : WX) (pn : List (Addr × Obj)) (xe : Value → Shared → Prop), Takes (X.tr pn xe) W → PassesOwn (model X.prog X.w) X.A X.env xe → PSs (X.tr pn xe) body (tb W))
    (hsu : ∀ (a : Addr) (oe : Obj) (cls : Value) (d : Option Addr) (pn : List (Addr × Obj)), Zc cls d oe → (∃ vs, oe.data = .fields vs) → PSs (X.suite a ((a, oe) :: pn)) (b₀ :: suite) (ts a cls d)) :
    PS X (.Try body (.ExceptHandler (some (.Name x np)) (some n) (b₀ :: suite) pos' :: hds) [] [] pos) (fun D σ H => tb (wFst X.K X.N.length c i ts D) D σ H) := by
  refine ⟨fun pins s σ H D I h => ?_⟩
  have ok := I.ok
  have frs_ : X.A.frames = some (X.env :: X.outer) := by rw [ok.frames, hs]
  have loc_ : Loc X.env.scope n := .inl hln
  refine wpAny_Try_except (wpAny_mono ((hb (wFst X.K X.N.length c i ts D) (X.pn ++ pins) (fun e s₁ => wpAny (model X.prog X.w) X.A (noteFrame e X.env) (fun _ s₂ => wpAny (model X.prog X.w) X.A (setFlight e none) (fun _ s₃ =>
    wpAny (model X.prog X.w) X.A (handleBy e X.env (.ExceptHandler (some (.Name x np)) (some n) (b₀ :: suite) pos' :: hds)) (SP X pins D) X.xe s₃) X.xe s₂) X.xe s₁) (fun u s' xx => ?_) PassesOwn.looking).run [] s σ H D (I.toTry _) h) (fun f s1 hsp => ?_) (fun e s1 he => he))
  · obtain ⟨a, B, sI, pins', σ', H', cls, d, rfl, J', nb, up, sky, na, os, ag, hW⟩ := xx
    obtain ⟨hb1, hyes⟩ := hW J'.len
    have J : Inv X pins σ' H' sI := J'.ofTry ok
    have sky_ : Sky B (X.env :: X.outer) a (Zc cls d) X.env.locals s'.heap := by rw [← hs]; exact sky
    show wpAny (model X.prog X.w) X.A (noteFrame (.ref a) X.env) _ _ _
    refine Sky.land Zc.steady frs_ hf sky_ fun h3 fl3 up3 => ?_
    have J3 : Inv X pins σ' H' { s' with heap := h3 } := J.landed nb fl3.1 (up.trans up3) os ag
    obtain ⟨oe3, vs3, he3, hz3, hd3⟩ := fl3.there
    have notF : ∀ {h : Heap} {o : Obj} {vs : Array Value}, h.FunFrames B (X.env :: X.outer) → h.get? a = some o → o.data = .fields vs → a ∉ frs (X.env :: X.outer) := fun {h o vs} ff e dd hm => by
      obtain ⟨_, o', e', no⟩ := ff.mem hm
      cases e.symm.trans e'
      exact no _ dd
    have nfr := notF fl3.2.2.1 he3 hd3
    have nL : a ≠ X.env.locals := fun z => nfr (List.mem_filterMap.mpr ⟨X.env, List.mem_cons_self, by rw [hf, z]⟩)
    have nF : a ∉ X.fs := fun hm => by
      obtain ⟨e, he, q⟩ := List.mem_filterMap.mp hm
      exact nfr (List.mem_filterMap.mpr ⟨e, List.mem_cons_of_mem _ he, q⟩)
    have S3 := J3.suite he3 hd3 na nL nF
    refine wpAny_handleBy_cons (codeAny_handlers_test ?_) (by intro q; cases q)
    have lt : PySem.W.Looks (model X.prog X.w) h3 (typeOf (.ref a)) cls := fun A Q E s k q => wpAny_typeOf_ref (k _ _ he3) (by rw [hz3.1]; exact q)
    have lm := PySem.W.exm_one (M := model X.prog X.w) (J3.kIn) lt hb1
    have test : ∀ {Q : Value → Shared → Prop} {E : Value → Shared → Prop}, Q c { s' with heap := h3 } → wpAny (model X.prog X.w) (X.A.mark (some (.ref a))) (eval (.Name x np) X.env) Q E { s' with heap := h3 } := fun {Q E} q => by
      obtain ⟨hg, hdbg, hm | ⟨hm, hv, hnn⟩⟩ := hc
      · exact ld_glob (X := X.suite a ((a, oe3) :: (X.pn ++ pins))) S3 hg hm q hdbg
      · exact ld_blt (X := X.suite a ((a, oe3) :: (X.pn ++ pins))) S3 hg hm hv q hnn hdbg
    refine test (lm.here (codeAny_handlers_suite_as (HandSPX.lands_againZ fl3 fun h4 fl4 up4 => ?_)))
    have J4 : Inv X pins σ' H' { s' with heap := h4 } := J.landed nb fl4.1 ((up.trans up3).trans up4) os ag
    obtain ⟨oe4, vs4, he4, hz4, hd4⟩ := fl4.there
    have S4 := J4.suite he4 hd4 na nL nF
    refine store_ok (X := X.suite a ((a, oe4) :: (X.pn ++ pins))) (v := .ref a) S4 hN hi loc_ rfl (fun s5 S5 => ?_) (.inr hln)
    refine wpAny_mono ((hsu a oe4 cls d (X.pn ++ pins) hz4 ⟨_, hd4⟩).run [] s5 _ H' _ S5 (hyes a na)) (fun f s6 hsp => ?_) (fun _ _ z => False.elim z)
    have fin : ∀ {σ6 : St} {H6 : Hp} {Q : Shared → Prop}, Inv (X.suite a ((a, oe4) :: (X.pn ++ pins))) [] σ6 H6 s6 → (∀ s7, Inv X pins (σ6.set i none) H6 s7 → Q s7) →
        wpAny (model X.prog X.w) X.A (do bindName X.env n .none; unbindBehindTheSuite X.env n pos') (fun _ s7 => Q s7) X.xe s6 := fun {σ6 H6 Q} S6 q => gone_ok (S6.unsuite ok) hN hi hln q
    match f, hsp with
    | .next, ⟨σ6, H6, S6, q6⟩ => exact fin S6 fun s7 J7 => ⟨_, _, J7, q6⟩
    | .brk, ⟨σ6, H6, S6, q6⟩ => exact fin S6 fun s7 J7 => ⟨_, _, J7, q6⟩
    | .cont, ⟨σ6, H6, S6, q6⟩ => exact fin S6 fun s7 J7 => ⟨_, _, J7, q6⟩
    | .ret u, ⟨v6, σ6, H6, S6, r6, q6⟩ => exact fin S6 fun s7 J7 => ⟨_, _, _, J7, r6, q6⟩
  · match f, hsp with
    | .next, ⟨σ', H', J', q⟩ => exact wpAny_execs_nil ⟨σ', H', J'.ofTry ok, q⟩
    | .brk, ⟨σ', H', J', q⟩ => exact ⟨σ', H', J'.ofTry ok, q⟩
    | .cont, ⟨σ', H', J', q⟩ => exact ⟨σ', H', J'.ofTry ok, q⟩
    | .ret u, ⟨v, σ', H', J', r, q⟩ => exact ⟨v, σ', H', J'.ofTry ok, r, q⟩
end
end DL
set_option maxHeartbeats 4000000
/-! M7: what is kept while lists and instances change; rows, deeds, desks; what a deed does. -/
namespace K11
open PySem PySem.Spec L2 DL LamX
open PySem.W (Frag keepIn findIn typeIn subIn kitOne kitAny excIn)
open PyProof.Rows hiding St wpAt wpAt_bind wpAt_stack wpAt_mono
/-- what may change: lists and instances -/
def Ch : HO → Bool
  | .lst _ => true
  | .ins _ _ _ => true
  | _ => false
/-- all is kept but the lists and instances at D, and the tables -/
def Kp (D : List Addr) (H H' : Hp) : Prop := ∀ b o, H b = some o → (Ch o = true → b ∉ D) → (∀ ps, o ≠ .tbl ps) → H' b = some o
section
variable {D D' : List Addr} {H H1 H2 H' : Hp} {a p : Addr} {o u : HO}
theorem Kp.refl : Kp D H H := fun _ _ e _ _ => e
theorem Kp.trans (h : Kp D H H1) (h' : Kp D H1 H2) : Kp D H H2 := fun b o e c n => h' b o (h b o e c n) c n
theorem Kp.mono (h : Kp D H H') (s : ∀ b, b ∈ D → b ∈ D') : Kp D' H H' := fun b o e c n => h b o e (fun z m => c z (s b m)) n
theorem Kp.of (h : Kp [] H H') : Kp D H H' := h.mono fun b m => absurd m (by simp)
theorem Kp.new (h : H p = none) : Kp D H (upd H p o) := fun b u e _ _ => by
  rw [upd_ne (ne_of_none e h)]
  exact e
theorem Kp.put (h : H a = some u) (c : Ch u = true) (m : a ∈ D) : Kp D H (upd H a o) := fun b v e k _ => by
  by_cases z : b = a
  · subst z
    rw [h] at e
    cases e
    exact absurd m (k c)
  · rw [upd_ne z]
    exact e
theorem Kp.same (h : Same H H') : Kp D H H' := fun b o e _ _ => h b o e
theorem Kp.ext (h : ExtN H H') : Kp D H H' := fun b o e _ n => h b o e n
/-- what cannot change -/
theorem Kp.at_ (h : Kp D H H') (e : H a = some o) (c : Ch o = false) (n : ∀ ps, o ≠ .tbl ps) : H' a = some o := h a o e (fun z => by rw [c] at z; cases z) n
theorem Kp.tup {xs : List V} (h : Kp D H H') (e : H a = some (.tup xs)) : H' a = some (.tup xs) := h.at_ e rfl (fun ps z => by cases z)
theorem Kp.chg (h : Kp D H H') (e : H a = some o) (m : a ∉ D) (n : ∀ ps, o ≠ .tbl ps) : H' a = some o := h a o e (fun _ => m) n
theorem Kp.lst {xs : List V} (h : Kp D H H') (e : H a = some (.lst xs)) (m : a ∉ D) : H' a = some (.lst xs) := h.chg e m (fun ps z => by cases z)
theorem Kp.ins {C dx : Addr} {fs : List (Str × V)} (h : Kp D H H') (e : H a = some (.ins C dx fs)) (m : a ∉ D) : H' a = some (.ins C dx fs) := h.chg e m (fun ps z => by cases z)
end
/-! ### data -/
inductive Dd where
  | put (i : Nat) (r : Str) | row (i : Nat) (r : Str) | out (i : Nat)
def ddV : Dd → List V
  | .put i r => [.str "put", .int i, .str r]
  | .row i r => [.str "row", .int i, .str r]
  | .out i => [.str "out", .int i]
/-- a text that may stand as a row -/
def okR (r : Str) : Bool := decide (r.length ≤ 200) && !decide (10 ∈ r.cps.toList)
/-- the rows behind a deed, or the word by which it is barred -/
def mv (rs : List Str) : Dd → Str ⊕ List Str
  | .put i r => if rs.length > 19 then .inl "full" else if i ≤ rs.length then .inr (rs.take i ++ [r] ++ rs.drop i) else .inl "far"
  | .out i => if rs.length ≤ i then .inl "none" else .inr (rs.take i ++ rs.drop (i + 1))
  | .row i r => if rs.length ≤ i then .inl "none" else if rs[i]? = some r then .inl "same" else .inr (rs.take i ++ [r] ++ rs.drop (i + 1))
/-- .. and its signs are signs -/
def okS (r : Str) : Bool := okR r && r.cps.toList.all fun c => decide (c < 1114112)
theorem okS_R {r : Str} (h : okS r = true) : okR r = true := (Bool.and_eq_true_iff.mp h).1
theorem okS_c {r : Str} (h : okS r = true) : ∀ c ∈ r.cps.toList, c < 1114112 := fun c m => of_decide_eq_true (List.all_eq_true.mp (Bool.and_eq_true_iff.mp h).2 c m)
theorem okR_len {r : Str} (h : okR r = true) : r.length ≤ 200 := of_decide_eq_true (Bool.and_eq_true_iff.mp h).1
theorem okR_nl {r : Str} (h : okR r = true) : 10 ∉ r.cps.toList := by
  have z := (Bool.and_eq_true_iff.mp h).2
  simpa using z
/-- a deed that is right in itself -/
def okD : Dd → Prop
  | .put i r => i ≤ 30 ∧ okS r = true
  | .row i r => i ≤ 30 ∧ okS r = true
  | .out i => i ≤ 30
theorem mv_len {rs rs' : List Str} {d : Dd} (h : mv rs d = .inr rs') (l : rs.length ≤ 20) : rs'.length ≤ 20 := by
  cases d with
  | put i r =>
    simp only [mv] at h
    split at h
    · cases h
    · split at h
      · cases h
        simp only [List.length_append, List.length_take, List.length_drop, List.length_singleton]
        omega
      · cases h
  | row i r =>
    simp only [mv] at h
    split at h
    · cases h
    · split at h
      · cases h
      · cases h
        simp only [List.length_append, List.length_take, List.length_drop, List.length_singleton]
        omega
  | out i =>
    simp only [mv] at h
    split at h
    · cases h
    · cases h
      simp only [List.length_append, List.length_take, List.length_drop]
      omega
theorem mv_ok {rs rs' : List Str} {d : Dd} (h : mv rs d = .inr rs') (l : ∀ r ∈ rs, okS r = true) (k : okD d) : ∀ r ∈ rs', okS r = true := by
  have tk : ∀ i, ∀ r ∈ rs.take i, okS r = true := fun i r m => l r (List.mem_of_mem_take m)
  have dr : ∀ i, ∀ r ∈ rs.drop i, okS r = true := fun i r m => l r (List.mem_of_mem_drop m)
  cases d with
  | put i r =>
    simp only [mv] at h
    split at h
    · cases h
    · split at h
      · cases h
        intro x m
        simp only [List.mem_append, List.mem_singleton] at m
        rcases m with (m | rfl) | m
        · exact tk i x m
        · exact k.2
        · exact dr i x m
      · cases h
  | row i r =>
    simp only [mv] at h
    split at h
    · cases h
    · split at h
      · cases h
      · cases h
        intro x m
        simp only [List.mem_append, List.mem_singleton] at m
        rcases m with (m | rfl) | m
        · exact tk i x m
        · exact k.2
        · exact dr (i + 1) x m
  | out i =>
    simp only [mv] at h
    split at h
    · cases h
    · cases h
      intro x m
      simp only [List.mem_append] at m
      rcases m with m | m
      · exact tk i x m
      · exact dr (i + 1) x m
/-! ### data in the heap -/
def RowsAt (H : Hp) (p : Addr) (rs : List Str) : Prop := H p = some (.tup (rs.map V.str))
def DeedAt (H : Hp) (q : Addr) (d : Dd) : Prop := H q = some (.tup (ddV d))
def DeedsAt (H : Hp) (p : Addr) (ds : List Dd) : Prop := ∃ qs : List Addr, H p = some (.tup (qs.map V.ref)) ∧ qs.length = ds.length ∧ ∀ (i : Nat) q d, qs[i]? = some q → ds[i]? = some d → DeedAt H q d
def TextsAt (H : Hp) (pps : List Addr) (ps : List (List Str)) : Prop := pps.length = ps.length ∧ ∀ (i : Nat) p r, pps[i]? = some p → ps[i]? = some r → RowsAt H p r
section
variable {D : List Addr} {H H' : Hp}
theorem RowsAt.kp {p : Addr} {rs : List Str} (h : RowsAt H p rs) (k : Kp D H H') : RowsAt H' p rs := k.tup h
theorem DeedAt.kp {p : Addr} {d : Dd} (h : DeedAt H p d) (k : Kp D H H') : DeedAt H' p d := k.tup h
theorem DeedsAt.kp {p : Addr} {ds : List Dd} (h : DeedsAt H p ds) (k : Kp D H H') : DeedsAt H' p ds := by
  obtain ⟨qs, e, l, f⟩ := h
  exact ⟨qs, k.tup e, l, fun i q d a b => (f i q d a b).kp k⟩
theorem TextsAt.kp {pps : List Addr} {ps : List (List Str)} (h : TextsAt H pps ps) (k : Kp D H H') : TextsAt H' pps ps := ⟨h.1, fun i p r a b => (h.2 i p r a b).kp k⟩
theorem TextsAt.snoc {pps : List Addr} {ps : List (List Str)} {p : Addr} {r : List Str} (h : TextsAt H pps ps) (e : RowsAt H p r) : TextsAt H (pps ++ [p]) (ps ++ [r]) := by
  refine ⟨by rw [List.length_append, List.length_append, h.1]; rfl, fun i q x a b => ?_⟩
  by_cases hi : i < pps.length
  · rw [List.getElem?_append_left hi] at a
    rw [List.getElem?_append_left (by rw [← h.1]; exact hi)] at b
    exact h.2 i q x a b
  · rw [List.getElem?_append_right (by omega)] at a
    rw [List.getElem?_append_right (by rw [← h.1]; omega), ← h.1] at b
    cases z : i - pps.length with
    | zero =>
      rw [z] at a b
      cases a
      cases b
      exact e
    | succ n =>
      rw [z] at a
      simp at a
theorem TextsAt.dropLast {pps : List Addr} {ps : List (List Str)} (h : TextsAt H pps ps) : TextsAt H pps.dropLast ps.dropLast := by
  refine ⟨by rw [List.length_dropLast, List.length_dropLast, h.1], fun i q x a b => h.2 i q x ?_ ?_⟩
  · rw [List.getElem?_dropLast] at a
    split at a
    · exact a
    · cases a
  · rw [List.getElem?_dropLast] at b
    split at b
    · exact b
    · cases b
theorem DeedsAt.snoc {p p' q : Addr} {ds : List Dd} {d : Dd} {qs : List Addr} (e : H p = some (.tup (qs.map V.ref))) (l : qs.length = ds.length) (f : ∀ (i : Nat) q d, qs[i]? = some q → ds[i]? = some d → DeedAt H q d) (hq : DeedAt H q d) (e' : H p' = some (.tup ((qs ++ [q]).map V.ref))) : DeedsAt H p' (ds ++ [d]) := by
  refine ⟨qs ++ [q], e', by rw [List.length_append, List.length_append, l]; rfl, fun i x y a b => ?_⟩
  by_cases hi : i < qs.length
  · rw [List.getElem?_append_left hi] at a
    rw [List.getElem?_append_left (by rw [← l]; exact hi)] at b
    exact f i x y a b
  · rw [List.getElem?_append_right (by omega)] at a
    rw [List.getElem?_append_right (by rw [← l]; omega), ← l] at b
    cases z : i - qs.length with
    | zero =>
      rw [z] at a b
      cases a
      cases b
      exact hq
    | succ n =>
      rw [z] at a
      simp at a
end
/-- a desk's attributes -/
def flds (pr pb pd l : Addr) : List (Str × V) := [("rows", .ref pr), ("begun", .ref pb), ("deeds", .ref pd), ("past", .ref l)]
/-- a desk stands at d, its past's list at l: what it began with, its rows, its deeds, its past -/
structure DeskAt (C : Addr) (H : Hp) (d l : Addr) (b rs : List Str) (ds : List Dd) (ps : List (List Str)) : Prop where
  ex : ∃ (dx pr pb pd : Addr) (pps : List Addr), H d = some (.ins C dx (flds pr pb pd l)) ∧ RowsAt H pr rs ∧ RowsAt H pb b ∧ DeedsAt H pd ds ∧ H l = some (.lst (pps.map V.ref)) ∧ TextsAt H pps ps
theorem DeskAt.kp {C d l : Addr} {D : List Addr} {H H' : Hp} {b rs : List Str} {ds : List Dd} {ps : List (List Str)} (h : DeskAt C H d l b rs ds ps) (k : Kp D H H') (hd : d ∉ D) (hl : l ∉ D) : DeskAt C H' d l b rs ds ps := by
  obtain ⟨dx, pr, pb, pd, pps, e1, e2, e3, e4, e5, e6⟩ := h.ex
  exact ⟨dx, pr, pb, pd, pps, k.ins e1 hd, e2.kp k, e3.kp k, e4.kp k, k.lst e5 hl, e6.kp k⟩
end K11
set_option maxHeartbeats 4000000
/-! M8: the small defs over values. -/
namespace K11
open PySem PySem.Spec L2 DL LamX
open PySem.W (Frag keepIn findIn typeIn subIn kitOne kitAny excIn)
open PyProof.Rows hiding St wpAt wpAt_bind wpAt_stack wpAt_mono
/-- a value whose type is not T -/
def NotTy (K : Frag) (H : Hp) (x : V) (T : String) : Prop := ∃ t, TyX K H x t ∧ kitOne K t (.type T) = some false
def spString (K : Frag) : Sp := fun vs H Q _ => ∃ x, vs = [x] ∧ ((∃ r, x = .str r ∧ Q (.bl true) H) ∨ (NotTy K H x "str" ∧ Q (.bl false) H))
def spIsRow (K : Frag) : Sp := fun vs H Q _ => ∃ x, vs = [x, .int 0, .int 20] ∧ ((∃ p xs, x = .ref p ∧ H p = some (.tup xs) ∧ Q (.bl (decide (xs.length ≤ 20))) H) ∨ (NotTy K H x "tuple" ∧ Q (.bl false) H))
def spDeskRow (K : Frag) : Sp := fun vs H Q _ => ∃ x, vs = [x] ∧ ((∃ r, x = .str r ∧ r.length ≤ 100000 ∧ Q (.bl (okR r)) H) ∨ (NotTy K H x "str" ∧ Q (.bl false) H))
theorem kit_same {K : Frag} {T : String} : kitOne K (.type T) (.type T) = some true := kit_ty (by unfold kitB; simp)
section
variable {w : World} {K : Frag} {mg : Str → Option Value} {base : Heap} {f : Addr} {fd : FuncData}
theorem ok_string (F : L2.Fun K "is_string" "is_string" sString f fd) (T : Nms mg) : FnOk prg w K mg base CX0 1 f fd ["value"] (spString K) := by
  have S := fsString
  refine F.ok S (fun vs H Q E h => by obtain ⟨x, rfl, _⟩ := h; rfl) fun cdv A outer s H vs Q E hr hsp => ?_
  obtain ⟨x, rfl, hsp⟩ := hsp
  refine ⟨_, pss_one (ps_ret (pe_callB call_isi (by rfl) T.n_isinstance (by decide +kernel) (pa_cons (pv 0) (pa_cons (pe_bltn (v := .ty "str") rfl T.n_str (by decide +kernel) rfl) pa_nil)))), ?_⟩
  rcases hsp with ⟨r, rfl, q⟩ | ⟨⟨t, ty, e⟩, q⟩
  · exact ⟨_, rfl, .str r, .ty "str", _, _, true, rfl, .ty _, .base (.str r), kit_same, q⟩
  · exact ⟨_, rfl, x, .ty "str", t, _, false, rfl, .ty _, ty, e, q⟩
theorem ok_isRow (F : L2.Fun K "is_row" "is_row" sIsRow f fd) (T : Nms mg) : FnOk prg w K mg base CX0 1 f fd ["value", "least", "most"] (spIsRow K) := by
  have S := fsIsRow
  refine F.ok S (fun vs H Q E h => by obtain ⟨x, rfl, _⟩ := h; rfl) fun cdv A outer s H vs Q E hr hsp => ?_
  obtain ⟨x, rfl, hsp⟩ := hsp
  refine ⟨_, pss_one (ps_ret (pe_and (pe_callB call_isi (by rfl) T.n_isinstance (by decide +kernel) (pa_cons (pv 0) (pa_cons (pe_bltn (v := .ty "tuple") rfl T.n_tuple (by decide +kernel) rfl) pa_nil)))
    (pe_one (pe_chain op_le op_le (pv 1) (pe_callB call_len_seq (by rfl) T.n_len (by decide +kernel) (pa_cons (pv 0) pa_nil)) (pv 2))))), ?_⟩
  rcases hsp with ⟨p, xs, rfl, hp, q⟩ | ⟨⟨t, ty, e⟩, q⟩
  · refine ⟨_, rfl, .ref p, .ty "tuple", _, _, true, rfl, .ty _, .base (.tup hp), kit_same, true, rfl, ?_⟩
    refine ⟨_, rfl, _, rfl, p, xs, rfl, .inr (SqT.of hp), 0, _, rfl, rfl, _, rfl, ?_⟩
    rw [decide_eq_true (show (0 : Int) ≤ (xs.length : Int) by omega)]
    refine ⟨_, rfl, _, _, rfl, rfl, ?_⟩
    show Q (.bl (decide ((xs.length : Int) ≤ 20))) H
    rw [show decide ((xs.length : Int) ≤ 20) = decide (xs.length ≤ 20) by by_cases h : xs.length ≤ 20 <;> simp [h] <;> omega]
    exact q
  · exact ⟨_, rfl, x, .ty "tuple", t, _, false, rfl, .ty _, ty, e, false, rfl, q⟩
theorem ok_deskRow (F : L2.Fun K "is_desk_row" "is_desk_row" sDeskRow f fd) (T : Nms mg) (c200 : ∃ t, mg "MOST_SIGNS" = some (.int 200 t)) (cS : ClO prg w K mg base CX0 1 "is_string" (spString K) []) : FnOk prg w K mg base CX0 2 f fd ["value"] (spDeskRow K) := by
  have S := fsDeskRow
  obtain ⟨t200, g200⟩ := c200
  refine F.ok S (fun vs H Q E h => by obtain ⟨x, rfl, _⟩ := h; rfl) fun cdv A outer s H vs Q E hr hsp => ?_
  obtain ⟨x, rfl, hsp⟩ := hsp
  refine ⟨_, pss_one (ps_ret (pe_and (pe_clo cS hr (by decide) rfl (pa_cons (pv 0) pa_nil)) (pe_and (pe_cmpR op_le (pe_callB call_len_str (by rfl) T.n_len (by decide +kernel) (pa_cons (pv 0) pa_nil)) (pe_glob (v := .int 200) rfl g200 ⟨_, rfl⟩) (nomark _)) (pe_one (pe_cmpR op_notInS pe_str (pv 0) rfl))))), ?_⟩
  have sl : sizeLine = 16777216 := sizeLine_eq
  rcases hsp with ⟨r, rfl, hl, q⟩ | ⟨nt, q⟩
  · refine ⟨_, rfl, .str r, rfl, .inl ⟨r, rfl, true, rfl, ?_⟩⟩
    refine ⟨_, rfl, r, rfl, by omega, _, _, rfl, rfl, _, rfl, ?_⟩
    have e0 : decide (((r.length : Nat) : Int) ≤ 200) = decide (r.length ≤ 200) := by by_cases h : r.length ≤ 200 <;> simp [h] <;> omega
    rw [e0]
    unfold okR at q
    by_cases h : r.length ≤ 200
    · rw [decide_eq_true h] at q ⊢
      rw [if_pos rfl]
      rw [Bool.true_and] at q
      exact ⟨_, rfl, 10, r, rfl, rfl, q⟩
    · rw [decide_eq_false h] at q ⊢
      rw [Bool.false_and] at q
      exact q
  · exact ⟨_, rfl, x, rfl, .inr ⟨nt, false, rfl, q⟩⟩
end
end K11
set_option maxHeartbeats 4000000
/-! M9: what is kept, tables too; a new desk by keyword, or within a try whose suite looks at the slots; the loop over enumerate. -/
namespace K11
open PySem PySem.Spec L2 DL LamX
open PySem.W (Frag keepIn findIn typeIn subIn kitOne kitAny excIn)
open PyProof.Rows hiding St wpAt wpAt_bind wpAt_stack wpAt_mono
/-- all is kept but the lists and instances at D; the tables stay good -/
structure Kt (T : List (Addr × Str)) (D : List Addr) (H H' : Hp) : Prop where
  kp : Kp D H H'
  tb : Tabs T H → Tabs T H'
section
variable {T : List (Addr × Str)} {D D' : List Addr} {H H1 H2 H' : Hp} {a p : Addr} {o u : HO}
theorem Kt.refl : Kt T D H H := ⟨Kp.refl, id⟩
theorem Kt.trans (h : Kt T D H H1) (h' : Kt T D H1 H2) : Kt T D H H2 := ⟨h.kp.trans h'.kp, fun z => h'.tb (h.tb z)⟩
theorem Kt.mono (h : Kt T D H H') (s : ∀ b, b ∈ D → b ∈ D') : Kt T D' H H' := ⟨h.kp.mono s, h.tb⟩
theorem Kt.of (h : Kt T [] H H') : Kt T D H H' := h.mono fun b m => absurd m (by simp)
theorem Kt.new (h : H p = none) : Kt T D H (upd H p o) := ⟨Kp.new h, fun z => z.ext fun b v e => by rw [upd_ne (ne_of_none e h)]; exact e⟩
theorem Kt.put (h : H a = some u) (c : Ch u = true) (m : a ∈ D) : Kt T D H (upd H a o) := ⟨Kp.put h c m, fun z q hq => by
  obtain ⟨ps, h1, h2, h3⟩ := z q hq
  have n1 : q.1 ≠ a := fun e => by
    rw [e, h] at h1
    cases h1
    cases c
  refine ⟨ps, by rw [upd_ne n1]; exact h1, h2, fun pos cv hc => ?_⟩
  obtain ⟨c0, e1, e2⟩ := h3 pos cv hc
  refine ⟨c0, e1, ?_⟩
  rw [upd_ne]
  · exact e2
  · intro e
    rw [e, h] at e2
    cases e2
    cases c⟩
theorem Kt.same (h : Same H H') : Kt T D H H' := ⟨Kp.same h, fun z => z.ext h⟩
theorem Kt.ext (h : ExtN H H') (t : Tabs T H') : Kt T D H H' := ⟨Kp.ext h, fun _ => t⟩
end
/-- a def that may raise, its code object known -/
theorem okXc {P : Program} {w : World} {K : Frag} {mg : Str → Option Value} {base : Heap} {x qual : Str} {st : Stmt} {f c : Addr} {fd : FuncData} {N ps : List Str} {k : Nat} {sp : Sp} (F : L2.Fun K x qual st f fd) (hc : fd.code = .ref c) (S : FnScope N ps (defScope st)) (len : ∀ vs H Q E, sp vs H Q E → vs.length = ps.length)
    (body : ∀ (A : Around) (outer : List Env) (s : Shared) (H : Hp) (vs : List V) (Q : VK) (E : XK), Room k (A.deeper (envOfC qual (defScope st) s.heap.objs.size f (.ref c))) → sp vs H Q E →
      ∃ t, PSs (cxOf (L2.CX P w) P w K mg base N qual (defScope st) f (.ref c) A outer s H E) (defBody st) t ∧ t { nx := fun _ H' => Q .non H', rt := Q } (start N vs) H) : FnOk P w K mg base (L2.CX P w) (k + 1) f fd ps sp := by
  obtain ⟨oc, od, kV, doc, pm, an, cdv, ct, osl, rfl, lk, hcd⟩ := F.ex
  have hc' : cdv = .ref c := hc
  subst hc'
  exact fn_of lk hcd S len fun A outer s H vs Q E hr told => body A outer s H vs Q E hr told
/-- where no repr is under way -/
theorem fnG_mkC {P : Program} {w : World} {K : Frag} {mg : Str → Option Value} {base : Heap} {x qual : Str} {st : Stmt} {f c : Addr} {fd : FuncData} {N ps : List Str} {k : Nat} {sp : Sp} (F : L2.Fun K x qual st f fd) (hc : fd.code = .ref c) (S : FnScope N ps (defScope st)) (len : ∀ vs H Q E, sp vs H Q E → vs.length = ps.length)
    (body : ∀ (A : Around) (outer : List Env) (s : Shared) (H : Hp) (vs : List V) (Q : VK) (E : XK), Room k (A.deeper (envOfC qual (defScope st) s.heap.objs.size f (.ref c))) → (A.deeper (envOfC qual (defScope st) s.heap.objs.size f (.ref c))).guards = some [] → sp vs H Q E →
      ∃ t, PSs (cxOf CX0 P w K mg base N qual (defScope st) f (.ref c) A outer s H E).nox (defBody st) t ∧ t { nx := fun _ H' => Q .non H', rt := Q } (start N vs) H) : FnG P w K mg base (k + 1) f fd ps sp := by
  refine fnG_mk0 F S len fun cdv e => ?_
  have e' : cdv = .ref c := e.symm.trans hc
  subst e'
  exact body
/-- a body's reading with a wish that is chosen later -/
theorem pss_ex {X : Cx} {b : List Stmt} {tb : XK → TS} {hW : XK → Prop} (h : ∀ E, hW E → PSs X b (tb E)) : PSs X b (fun D σ H => ∃ E, hW E ∧ tb E D σ H) :=
  ⟨fun pins s σ H D I ⟨E, a, q⟩ => (h E a).run pins s σ H D I q⟩
/-! ### new instances -/
section
variable {X : Cx} {CX : CXT} {k n : Nat} {f C : Addr} {fd : FuncData} {ps ks : List Str} {sp : Sp} {E : XK} {ES : L2.St → XK} {x : Str} {p pos : Pos} {e : Expr} {es : List Expr} {kws : List Keyword} {t tk : TA} {g : List Value → List Value → List Value} {gV : List V → List V → List V}
/-- C(k = v, ..) -/
def tMakeK (C : Addr) (m : Nat) (sp : Sp) (gV : List V → List V → List V) (E : XK) (tk : TA) : TE := fun σ H Q => tk σ H fun zs H1 => zs.length = m ∧
  ∀ y dy, H1 y = none → H1 dy = none → dy ≠ y → sp (gV [.ref y] zs) (upd (upd H1 dy (.own y)) y (.ins C dy [])) (fun v H2 => v = .non ∧ Q (.ref y) H2) E
theorem pe_makeK (M : L2.Mk X.K C f) (F : FnOk X.prog X.w X.K X.mg X.base CX k f fd ps sp) (hr : Room (k + 1) X.A) (hg : Gl X x) (hm : X.mg x = some (.ref C)) (hb : KBn X.K fd ps 1 ks g gV) (hx : Passes CX X E) (ha : PK X kws tk)
    (hall : (backToKw pos (keywordEach kws X.env)).all (·.1.isSome) = true := by rfl) (hks : (backToKw pos (keywordEach kws X.env)).filterMap (·.1) = ks := by rfl) (hdb : (x == ("__debug__" : Str)) = false := by decide)
    (hpl : ((backTo pos (starEach [] X.env)).any (·.1) || (backToKw pos (keywordEach kws X.env)).any (·.1.isNone)) = false := by rfl) :
    PE X (.Call (.Name x p) [] kws pos) (tMakeK C ks.length sp gV E tk) := by
  refine ⟨fun pins s σ H Q I h => ?_⟩
  refine wpAny_Call_Name_kw (ld_glob I hg hm ?_ hdb)
  refine PySem.W.callWith_KW0 (h₀ := X.base) I.ok.mod.kin M.kp hall (thn (ha.run pos pins s σ H _ I h) fun us s1 ⟨vs, H1, I1, r1, l1, q⟩ => ⟨I1.kIn, ?_⟩) hpl
  rw [hks]
  exact run_makeN (n := 0) (us := []) (vs := []) M F hr hb hx I1 .nil r1 rfl l1 q
/-- C(e, ..), what it raises asked at the slots -/
def tMakeS (C : Addr) (sp : Sp) (ES : L2.St → XK) (t : TA) : TE := fun σ H Q => t σ H fun vs H1 => ∀ y dy, H1 y = none → H1 dy = none → dy ≠ y →
  sp (.ref y :: vs) (upd (upd H1 dy (.own y)) y (.ins C dy [])) (fun v H2 => v = .non ∧ Q (.ref y) H2) (ES σ)
theorem pe_makeS (M : L2.Mk X.K C f) (F : FnOk X.prog X.w X.K X.mg X.base CX k f fd ps sp) (hr : Room (k + 1) X.A) (hg : Gl X x) (hm : X.mg x = some (.ref C)) (hb : L2.Binds X.K fd ps []) (hx : ∀ σ, PassesAt CX X σ (ES σ))
    (ha : PA X (e :: es) t) (hdb : (x == ("__debug__" : Str)) = false := by decide) (he : starEach (e :: es) X.env = (false, eval e X.env) :: starEach es X.env := by rfl) (hpl : (backTo pos (starEach es X.env)).any (·.1) = false := by rfl) :
    PE X (.Call (.Name x p) (e :: es) [] pos) (tMakeS C sp ES t) := by
  refine ⟨fun pins s σ H Q I h => ?_⟩
  refine wpAny_Call_Name_kw (ld_glob I hg hm ?_ hdb)
  refine PySem.W.callWith_K (h₀ := X.base) I.ok.mod.kin M.kp (thn (ha.run pos pins s σ H _ I h) fun us s1 ⟨vs, H1, I1, rr, q⟩ => ⟨I1.kIn, ?_⟩) he hpl
  have told := q (s1.heap.objs.size + 1) s1.heap.objs.size (I1.hok.fresh (Nat.le_succ _)) (I1.hok.fresh (Nat.le_refl _)) (Nat.ne_of_lt (Nat.lt_succ_self _))
  have J := Inv.made (C := C) I1
  have r2 : Vals (V.ref (s1.heap.objs.size + 1) :: vs) (Value.ref (s1.heap.objs.size + 1) :: us) := .cons rfl rr
  have len : (Value.ref (s1.heap.objs.size + 1) :: us).length = ps.length := r2.length.symm.trans (F.len _ _ _ _ told)
  have bn := hb _ (Value.ref (s1.heap.objs.size + 1) :: us) J.kIn (by rw [List.append_nil]; exact len)
  rw [List.append_nil] at bn
  refine wpAny_call (make_map (f := f) I1.kIn M.makes M.init (beq_iff_eq.mp M.fn) (codeAny_mono (F.run _ X.stack _ _ ⟨Value.ref (s1.heap.objs.size + 1) :: us, []⟩ _ _ _ (ES σ) (hr.make C us []) (J.env0.make C us []) bn r2 told) fun r s' hq' => ?_))
  match r, hq' with
  | .error e, hq' => exact hx σ pins _ _ e s' J hq'
  | .ok (.ret u), hq' =>
    obtain ⟨v, H', J3, rv, ev, q3⟩ := J.after hq'
    subst ev
    exact ⟨rv, ⟨V.ref (s1.heap.objs.size + 1), H', J3, rfl, q3⟩⟩
end
/-- a loop over enumerate of a tuple -/
theorem for_enumT {K : Frag} {a : Addr} {xs : List V} {g : TG} {tb : TS} {D : Ends} {σ : L2.St} {H : Hp} (Pv : Nat → L2.St → Hp → Prop) (h0 : Pv 0 σ H) (hl : ∀ i σ H, Pv i σ H → SqT K H a xs)
    (hs : ∀ (i : Nat) x T σ H, xs[i]? = some x → H T = none → Pv i σ H → g (.ref T) σ (upd H T (.tup [.int (i : Nat), x])) fun σ2 H2 => tb { D with nx := Pv (i + 1), ct := Pv (i + 1), bk := D.nx } σ2 H2) (hd : ∀ σ H, Pv xs.length σ H → D.nx σ H) :
    ∃ W : Nat → Nat → L2.St → Hp → Prop, (∃ m, W 0 m σ H) ∧ ∀ i m σ H, W i m σ H →
      ((IteT K a).stop i H ∧ D.nx σ H) ∨ ((IteT K a).go i H ∧ ∃ N : L2.St → Hp → Prop, (∀ σ' H', N σ' H' → ∃ m', m' < m ∧ W (i + 1) m' σ' H') ∧ ∀ x H', (IteT K a).yld i H x H' → g x σ H' fun σ2 H2 => tb { D with nx := N, ct := N, bk := D.nx } σ2 H2) := by
  refine ⟨fun i m σ H => m + i = xs.length ∧ Pv i σ H, ⟨xs.length, rfl, h0⟩, fun i m σ H ⟨hm, pv⟩ => ?_⟩
  have sq := hl i σ H pv
  cases m with
  | zero =>
    rw [Nat.zero_add] at hm
    subst hm
    exact .inl ⟨⟨xs, sq, Nat.le_refl _⟩, hd σ H pv⟩
  | succ m =>
    have lt : i < xs.length := by omega
    refine .inr ⟨⟨xs, xs[i], sq, by simp [lt]⟩, Pv (i + 1), fun σ' H' z => ⟨m, Nat.lt_succ_self _, by omega, z⟩, fun y H' yl => ?_⟩
    obtain ⟨T, x, rfl, nT, rfl, hx⟩ := yl
    exact hs i x T σ H (hx xs sq) nT pv
end K11
set_option maxHeartbeats 4000000
/-! M10: first_wrong, check_rows. -/
namespace K11
open PySem PySem.Spec L2 DL LamX
open PySem.W (Frag keepIn findIn typeIn subIn kitOne kitAny excIn)
open PyProof.Rows hiding St wpAt wpAt_bind wpAt_stack wpAt_mono
/-- the lambda of check_rows -/
def lamC : Arguments × Expr × Scope := match defBody sCheckRows with
  | [_, .Assign _ (.Call _ [_, .Lambda p b sc _] _ _) _, _] => (p, b, sc)
  | _ => (defArgs sCheckRows, .Name "x" ⟨0, 0, 0, 0⟩, defScope sCheckRows)
abbrev qC : Str := (envOfC "check_rows" (defScope sCheckRows) 0 0 .none).qual ++ "<lambda>"
/-- an element of rows: a text, or none -/
def El (x : V) (b : Bool) : Prop := (∃ r, x = .str r ∧ r.length ≤ 100000 ∧ b = okR r) ∨ ((x = .non ∨ ∃ i, x = .int i) ∧ b = false)
def Els (xs : List V) (bs : List Bool) : Prop := xs.length = bs.length ∧ ∀ (i : Nat) x b, xs[i]? = some x → bs[i]? = some b → El x b
/-- where the first false one stands -/
def firstF : List Bool → Nat → V
  | [], _ => .non
  | true :: bs, i => firstF bs (i + 1)
  | false :: _, i => .int i
theorem firstF_all {bs : List Bool} {i : Nat} (h : ∀ b ∈ bs, b = true) : firstF bs i = .non := by
  induction bs generalizing i with
  | nil => rfl
  | cons b bs ih =>
    cases h b List.mem_cons_self
    exact ih fun c m => h c (List.mem_cons_of_mem _ m)
theorem firstF_true {bs : List Bool} {i j : Nat} (h : bs[i]? = some true) : firstF (bs.drop i) j = firstF (bs.drop (i + 1)) (j + 1) := by
  obtain ⟨lt, e⟩ := List.getElem?_eq_some_iff.mp h
  rw [List.drop_eq_getElem_cons lt, e]
  rfl
theorem firstF_false {bs : List Bool} {i j : Nat} (h : bs[i]? = some false) : firstF (bs.drop i) j = .int j := by
  obtain ⟨lt, e⟩ := List.getElem?_eq_some_iff.mp h
  rw [List.drop_eq_getElem_cons lt, e]
  rfl
def spLamC (K : Frag) : Sp := fun vs H Q E => ∃ x y, vs = [x, y] ∧ spDeskRow K [x] H Q E
section
variable {w : World} {K : Frag} {mg : Str → Option Value} {base : Heap} {f : Addr} {fd : FuncData} {T : List (Addr × Str)}
theorem notTy_str {H : Hp} {x : V} (h : x = .non ∨ ∃ i, x = .int i) : NotTy K H x "str" := by
  rcases h with rfl | ⟨i, rfl⟩
  · exact ⟨_, .base .non, kit_ty (by decide +kernel)⟩
  · exact ⟨_, .base (.int i), kit_ty (by decide +kernel)⟩
theorem fsLamC : FnScope ["row", "ahead"] ["row", "ahead"] lamC.2.2 := ⟨rfl, rfl, rfl, by decide +kernel, rfl, by decide +kernel, by decide +kernel⟩
theorem lmC (cD : ClO prg w K mg base CX0 2 "is_desk_row" (spDeskRow K) []) : LmOk prg w K mg base 3 qC lamC.1 lamC.2.1 lamC.2.2 ["row", "ahead"] (spLamC K) := by
  refine lm_mk fsLamC (fun vs H Q E h => by obtain ⟨x, y, rfl, _⟩ := h; rfl) (fun pm cv ctv us hl => by match us, hl with | [_, _], _ => rfl) fun f c' A outer s H vs Q E hr hsp => ?_
  obtain ⟨x, y, rfl, hsp⟩ := hsp
  exact ⟨_, pe_clo cD hr (by decide) rfl (pa_cons (pv 0) pa_nil), _, rfl, hsp⟩
/-- first_wrong with that lambda -/
def spWrong (T : List (Addr × Str)) : Sp := fun vs H Q _ => ∃ (p l c' : Addr) (xs : List V) (bs : List Bool), vs = [.ref p, .ref l] ∧ H p = some (.tup xs) ∧ xs.length ≤ 100 ∧ Els xs bs ∧ H l = some (LamO l c' qC lamC.1 lamC.2.1 lamC.2.2) ∧ H c' = some (CodeO c' qC) ∧
  ∀ H', Kt T [] H H' → Q (firstF bs 0) H'
theorem ok_wrong (F : L2.Fun K "first_wrong" "first_wrong" sWrong f fd) (N : Nms mg) (cD : ClO prg w K mg base CX0 2 "is_desk_row" (spDeskRow K) []) : FnOk prg w K mg base CX0 4 f fd ["value", "is_right"] (spWrong T) := by
  have S := fsWrong
  have L := lmC cD
  refine F.ok S (fun vs H Q E h => by obtain ⟨p, l, c', xs, bs, rfl, _⟩ := h; rfl) fun cdv A outer s H vs Q E hr hsp => ?_
  obtain ⟨p, l, c', xs, bs, rfl, hp, hl, hE, hL, hC, hq⟩ := hsp
  refine ⟨_, pss_cons (ps_for PassesOwn.never rfl (pi_enumT (by rfl) N.n_enumerate (pa_cons (pv 0) pa_nil)) (pg_tup rfl (pgs_cons (pg_name (i := 2) S.nd rfl (Or.inl rfl)) (pgs_cons (pg_name (i := 3) S.nd rfl (Or.inl rfl)) pgs_nil)))
    (pss_one (ps_if (pt_not (pt_val (pe_callL2 (i := 1) L hr (by decide) rfl (.inl rfl) (pa_cons (pv 3) (pa_cons (pe_slice sl_tupA (pv 0) po_none (po_some (pv 2))) pa_nil))))) (pss_one (ps_ret (pv 2))) pss_nil))) (pss_one (ps_ret pe_non)), ?_⟩
  refine ⟨_, rfl, p, xs, rfl, SqT.of hp, ?_⟩
  refine for_enumT (fun i σ H' => (∃ o1 o2, σ = [some (.ref p), some (.ref l), o1, o2]) ∧ Kt T [] H H' ∧ firstF bs 0 = firstF (bs.drop i) i) ⟨⟨_, _, rfl⟩, Kt.refl, rfl⟩ (fun i σ H' h => SqT.of (h.2.1.kp.tup hp)) (fun i x T1 σ H1 hx nT h => ?_) fun σ H1 h => ?_
  · obtain ⟨⟨o1, o2, rfl⟩, k, hF⟩ := h
    have hi : i < xs.length := (List.getElem?_eq_some_iff.mp hx).1
    have hb : i < bs.length := by rw [← hE.1]; exact hi
    have k1 : Kt T [] H (upd H1 T1 (.tup [.int (i : Nat), x])) := k.trans (Kt.new nT)
    refine ⟨T1, _, rfl, SqT.of upd_same, rfl, _, _, rfl, _, _, rfl, rfl, ?_⟩
    refine ⟨l, c', rfl, k1.kp.at_ hL rfl lamO_ne, ?_⟩
    have fin : ∀ H2, Kt T [] H H2 → H2 l = some (LamO l c' qC lamC.1 lamC.2.1 lamC.2.2) ∧ H2 c' = some (CodeO c' qC) := fun H2 k2 => ⟨k2.kp.at_ hL rfl lamO_ne, k2.kp.at_ hC rfl codeO_ne⟩
    refine ⟨_, rfl, _, rfl, _, rfl, _, rfl, p, xs, rfl, SqT.of (k1.kp.tup hp), fun _ => ?_, fun _ p2 np => ?_⟩
    all_goals
      refine ⟨(fin _ (by first | exact k1 | exact k1.trans (Kt.new np))).1, (fin _ (by first | exact k1 | exact k1.trans (Kt.new np))).2, x, _, rfl, x, rfl, ?_⟩
      rcases hE.2 i x bs[i] hx (by simp [hb]) with ⟨r, rfl, hr1, hr2⟩ | ⟨hn, hr2⟩
      · refine .inl ⟨r, rfl, hr1, _, rfl, ?_⟩
        rw [← hr2]
        cases hbi : bs[i] with
        | true => exact iteF ⟨⟨_, _, rfl⟩, (by first | exact k1 | exact k1.trans (Kt.new np)), hF.trans (firstF_true (by rw [← hbi]; simp [hb]))⟩
        | false =>
          refine iteT ?_
          have e : firstF bs 0 = .int (i : Nat) := hF.trans (firstF_false (by rw [← hbi]; simp [hb]))
          have z : ∀ H2, Kt T [] H H2 → Q (.int (i : Nat)) H2 := fun H2 k2 => by
            have z := hq H2 k2
            rwa [e] at z
          exact ⟨_, rfl, z _ (by first | exact k1 | exact k1.trans (Kt.new np))⟩
      · refine .inr ⟨notTy_str hn, _, rfl, iteT ?_⟩
        have e : firstF bs 0 = .int (i : Nat) := hF.trans (firstF_false (by rw [← hr2]; simp [hb]))
        have z : ∀ H2, Kt T [] H H2 → Q (.int (i : Nat)) H2 := fun H2 k2 => by
          have z := hq H2 k2
          rwa [e] at z
        exact ⟨_, rfl, z _ (by first | exact k1 | exact k1.trans (Kt.new np))⟩
  · obtain ⟨⟨o1, o2, rfl⟩, k, hF⟩ := h
    have e : firstF bs 0 = .non := by
      rw [hF, hE.1, List.drop_length]
      rfl
    have z := hq _ k
    rw [e] at z
    exact z
/-- what check_rows may be asked -/
inductive RowsIn (H : Hp) : V → Option V → Prop
  | good {p : Addr} {xs : List V} {bs : List Bool} (h : H p = some (.tup xs)) (l : xs.length ≤ 20) (e : Els xs bs) (f : firstF bs 0 = .non) : RowsIn H (.ref p) none
  | bad {p : Addr} {xs : List V} {bs : List Bool} (h : H p = some (.tup xs)) (l : xs.length ≤ 20) (e : Els xs bs) (f : firstF bs 0 ≠ .non) : RowsIn H (.ref p) (some (firstF bs 0))
  | many {p : Addr} {xs : List V} (h : H p = some (.tup xs)) (l : 20 < xs.length) : RowsIn H (.ref p) (some .non)
  | non : RowsIn H .non (some .non)
  | str (r : Str) : RowsIn H (.str r) (some .non)
  | lst {p : Addr} {xs : List V} (h : H p = some (.lst xs)) : RowsIn H (.ref p) (some .non)
theorem RowsIn.same {H H' : Hp} {x : V} {o : Option V} (h : RowsIn H x o) (e : Same H H') : RowsIn H' x o := by
  cases h with
  | good h l a f => exact .good (e _ _ h) l a f
  | bad h l a f => exact .bad (e _ _ h) l a f
  | many h l => exact .many (e _ _ h) l
  | non => exact .non
  | str r => exact .str r
  | lst h => exact .lst (e _ _ h)
/-- .. or it raises -/
def Refuses (CR : Addr) (T : List (Addr × Str)) (H : Hp) (v : V) (E : XK) : Prop := ∀ H' d, Kt T [] H H' → H' d = some (.xd [("index", v)]) → E (.ref CR) (some d) H'
def spCheck (CR : Addr) (T : List (Addr × Str)) : Sp := fun vs H Q E => ∃ (x : V) (o : Option V), vs = [x] ∧ Tabs T H ∧ RowsIn H x o ∧ (o = none → ∀ H', Kt T [] H H' → Q .non H') ∧ ∀ v, o = some v → Refuses CR T H v E
/-- a class whose instances keep one attribute -/
structure Ex1 (w : World) (K : Frag) (mg : Str → Option Value) (x n : Str) (C : Addr) : Prop where
  su : SuK prg w K mg C [] (fs1 n)
  ei : EiC K C
  g : mg x = some (.ref C)
  na : findIn K (.ref C) n = some none
  ex : PySem.W.exmOne K (.ref C) (.ref C) = some true
theorem ok_check {c P CR : Addr} (F : L2.Fun K "check_rows" "check_rows" sCheckRows f fd) (hcode : fd.code = .ref c) (TB : TabB base mg c P) (hm : (P, qC) ∈ T) (hu : ∀ p ∈ T, p.1 = P → p.2 = qC) (g20 : ∃ t, mg "MOST_DESK" = some (.int 20 t))
    (cR : ClO prg w K mg base CX0 1 "is_row" (spIsRow K) []) (cW : ClO prg w K mg base CX0 4 "first_wrong" (spWrong T) []) (X : Ex1 w K mg "InvalidRows" "index" CR) : FnOk prg w K mg base (L2.CX prg w) 5 f fd ["value"] (spCheck CR T) := by
  have S := fsCheckRows
  obtain ⟨t20, g20⟩ := g20
  refine okXc F hcode S (fun vs H Q E h => by obtain ⟨x, o, rfl, _⟩ := h; rfl) fun A outer s H vs Q E hr hsp => ?_
  obtain ⟨x, o, rfl, hT, hR, hgood, hbad⟩ := hsp
  have hd : (A.deeper (envOfC "check_rows" (defScope sCheckRows) s.heap.objs.size f (.ref c))).depth + 1 < recursionLimit := by have := hr.dp; omega
  refine ⟨_, pss_cons (ps_if (pt_not (pt_val (pe_clo cR hr (by decide) rfl (pa_cons (pv 0) (pa_cons pe_int (pa_cons (pe_glob (v := .int 20) rfl g20 ⟨_, rfl⟩) pa_nil)))))) (pss_one (ps_raise rfl (takes_of rfl rfl rfl rfl) (pmk_su X.su hd rfl X.g X.ei.raises (pa_cons pe_non pa_nil)))) pss_nil)
    (pss_cons (ps_set (i := 1) S.nd rfl (Or.inl rfl) (pe_clo cW hr (by decide) rfl (pa_cons (pv 0) (pa_cons (pe_lam (T := T) TB rfl hm hu rfl (by decide +kernel)) pa_nil))))
    (pss_one (ps_if (pt_cmpR op_notN (pv 1) pe_non (nomark _)) (pss_one (ps_raise rfl (takes_of rfl rfl rfl rfl) (pmk_su X.su hd rfl X.g X.ei.raises (pa_cons (pv 1) pa_nil)))) pss_nil))), ?_⟩
  refine ⟨_, rfl, x, rfl, ?_⟩
  have out : ∀ {H0 v}, Kt T [] H H0 → Refuses CR T H v E → ∀ d, H0 d = none → E (.ref CR) (some d) (upd H0 d (.xd [("index", v)])) := fun {H0 v} k r d hd => r _ d (k.trans (Kt.new hd)) upd_same
  have whole : ∀ {p : Addr} {xs : List V} {bs : List Bool} {R : V → Hp → Prop}, x = .ref p → H p = some (.tup xs) → xs.length ≤ 20 → Els xs bs → (∀ H', Kt T [] H H' → R (firstF bs 0) H') →
      tCall (spWrong T) [] E0 (tCons (tVar 0) (tCons (tLamV T qC lamC.1 lamC.2.1 lamC.2.2) tNil)) (L2.start nCheckRows [x]) H R := fun {p xs bs R} ex hp hl he q => by
    subst ex
    exact ⟨_, rfl, hT, fun l c' H1 eN T1 nl hl' hc => ⟨p, l, c', xs, bs, rfl, eN _ _ hp (fun ps z => by cases z), Nat.le_trans hl (by decide), he, hl', hc, fun H2 k2 => q H2 ((Kt.ext eN T1).trans k2)⟩⟩
  have nt : ∀ {t : Value} , TyX K H x t → kitOne K t (.type "tuple") = some false → NotTy K H x "tuple" := fun a b => ⟨_, a, b⟩
  cases hR with
  | good hp hl he hf =>
    refine .inl ⟨_, _, rfl, hp, _, rfl, ?_⟩
    rw [decide_eq_true hl]
    refine iteF (whole rfl hp hl he fun H' k => ?_)
    rw [hf]
    exact ⟨_, rfl, rfl, _, rfl, iteF (hgood rfl H' k)⟩
  | bad hp hl he hf =>
    refine .inl ⟨_, _, rfl, hp, _, rfl, ?_⟩
    rw [decide_eq_true hl]
    refine iteF (whole rfl hp hl he fun H' k => ?_)
    refine ⟨_, rfl, rfl, _, rfl, ite2 (fun _ => ⟨_, rfl, _, rfl, out k (hbad _ rfl)⟩) fun z => absurd ?_ z⟩
    simpa using hf
  | many hp hl =>
    refine .inl ⟨_, _, rfl, hp, _, rfl, ?_⟩
    rw [decide_eq_false (Nat.not_le.mpr hl)]
    exact iteT ⟨_, rfl, out Kt.refl (hbad _ rfl)⟩
  | non => exact .inr ⟨nt (.base .non) (kit_ty (by decide +kernel)), _, rfl, iteT ⟨_, rfl, out Kt.refl (hbad _ rfl)⟩⟩
  | str r => exact .inr ⟨nt (.base (.str r)) (kit_ty (by decide +kernel)), _, rfl, iteT ⟨_, rfl, out Kt.refl (hbad _ rfl)⟩⟩
  | lst h => exact .inr ⟨nt (.base (.lst h)) (kit_ty (by decide +kernel)), _, rfl, iteT ⟨_, rfl, out Kt.refl (hbad _ rfl)⟩⟩
end
end K11
set_option maxHeartbeats 4000000
/-! M11: slices and sums of tuples; deeds: their form, what bars them, what is behind them. -/
namespace K11
open PySem PySem.Spec L2 DL LamX
open PySem.W (Frag keepIn findIn typeIn subIn kitOne kitAny excIn)
open PyProof.Rows hiding St wpAt wpAt_bind wpAt_stack wpAt_mono
section
variable {K : Frag} {T : List (Addr × Str)} {H : Hp} {a b : Addr} {xs ys : List V} {lo hi : Option Int} {Q : VK}
theorem cut_whole (h : HT.sIx xs.length 0 lo = 0 ∧ HT.sIx xs.length xs.length hi = xs.length) : cutV xs lo hi = xs := by
  unfold cutV
  rw [h.1, h.2]
  simp
theorem cut_take (i : Nat) : cutV xs none (some (i : Int)) = xs.take i := by
  unfold cutV
  rw [HT.sIx_none, HT.sIx_nat]
  simp
theorem cut_drop (i : Nat) : cutV xs (some (i : Int)) none = xs.drop i := by
  unfold cutV
  rw [HT.sIx_none, HT.sIx_nat]
  by_cases h : i ≤ xs.length
  · rw [Nat.min_eq_left h, List.take_of_length_le (by simp)]
  · rw [Nat.min_eq_right (by omega), List.drop_length, List.drop_eq_nil_of_le (by omega)]
    simp
theorem slA_of (h : H a = some (.tup xs)) (q : ∀ p' H', Kt T [] H H' → H' p' = some (.tup (cutV xs lo hi)) → Q (.ref p') H') : rSlA K (.ref a) lo hi H Q :=
  ⟨a, xs, rfl, SqT.of h, fun e => q a H Kt.refl (by rw [cut_whole e]; exact h), fun _ p np => q p _ (Kt.new np) upd_same⟩
theorem slN_of {σ : L2.St} (h : H a = some (.tup xs)) (q : ∀ p' H', Kt T [] H H' → H' p' = some (.tup (cutV xs lo none)) → Q (.ref p') H') : tNoPart σ H fun u H3 => rSlA K (.ref a) lo u H3 Q := slA_of (hi := none) h q
theorem catA_of (h1 : H a = some (.tup xs)) (h2 : H b = some (.tup ys)) (l : xs.length + ys.length ≤ 1000) (q : ∀ p' H', Kt T [] H H' → H' p' = some (.tup (xs ++ ys)) → Q (.ref p') H') : rCatA K (.ref a) (.ref b) H Q :=
  ⟨a, b, xs, ys, rfl, rfl, SqT.of h1, SqT.of h2, Nat.le_trans l (by decide), fun e => q b H Kt.refl (by rw [e]; exact h2), fun _ e => q a H Kt.refl (by rw [e, List.append_nil]; exact h1), fun _ _ p np => q p _ (Kt.new np) upd_same⟩
end
/-- d[t], d a dict of the module -/
theorem ix_kd {X : Cx} {d : Addr} {es : Array DictEntry} {n : Nat} (D : KDict X.K X.w d es n) : IxR X (fun x y H Q => ∃ (z : Str) (u0 : Value) (v0 : V), x = .ref d ∧ y = .str z ∧ PySem.W.nsIn X.K d z = some (some u0) ∧ RelV v0 u0 ∧ Q v0 H) := by
  intro value slice pins s σ H x y v u Q I rx ry h hs
  obtain ⟨z, u0, v0, rfl, rfl, e, r, q⟩ := h
  cases rx
  obtain ⟨t, rfl⟩ := ry
  refine tail_any (kd_type D I) PySem.F.slot_dict_getitem.lookup ?_ hs
  exact wpAny_getItem_of (PySem.strKind_is X.prog X.w z t) (PySem.W.mapOf_K (prog := X.prog) I.kIn D.at_ D.lit) (PySem.W.find_K D.at_ e) ⟨v0, H, I.tok _, r, q⟩
/-- the words of deeds and their sizes -/
structure SzK (K : Frag) (w : World) (mg : Str → Option Value) : Prop where
  ex : ∃ (d : Addr) (es : Array DictEntry) (n : Nat), KDict K w d es n ∧ mg "SIZES" = some (.ref d) ∧ (∃ t, PySem.W.nsIn K d "put" = some (some (.int 3 t))) ∧ (∃ t, PySem.W.nsIn K d "row" = some (some (.int 3 t))) ∧ ∃ t, PySem.W.nsIn K d "out" = some (some (.int 2 t))
def spWhole : Sp := fun vs H Q _ => ∃ i : Int, vs = [.int i] ∧ Q (.bl true) H
def spNumber : Sp := fun vs H Q _ => ∃ i : Nat, vs = [.int i, .int 0, .non] ∧ Q (.bl true) H
def spHasForm : Sp := fun vs H Q _ => ∃ q d, vs = [.ref q] ∧ DeedAt H q d ∧ Q (.bl true) H
def spCheckDeed : Sp := fun vs H Q _ => ∃ q d, vs = [.ref q] ∧ DeedAt H q d ∧ okD d ∧ Q .non H
def spReason : Sp := fun vs H Q _ => ∃ (p q : Addr) (rs : List Str) (d : Dd), vs = [.ref p, .ref q] ∧ RowsAt H p rs ∧ DeedAt H q d ∧ rs.length ≤ 20 ∧ Q (match mv rs d with | .inl w => .str w | .inr _ => .non) H
def spBehind (T : List (Addr × Str)) : Sp := fun vs H Q _ => ∃ (p q : Addr) (rs rs' : List Str) (d : Dd), vs = [.ref p, .ref q] ∧ RowsAt H p rs ∧ DeedAt H q d ∧ rs.length ≤ 20 ∧ mv rs d = .inr rs' ∧ ∀ p' H', Kt T [] H H' → RowsAt H' p' rs' → Q (.ref p') H'
section
variable {w : World} {K : Frag} {mg : Str → Option Value} {base : Heap} {f : Addr} {fd : FuncData} {T : List (Addr × Str)}
theorem ok_whole (F : L2.Fun K "is_whole" "is_whole" sWhole f fd) (N : Nms mg) : FnOk prg w K mg base CX0 1 f fd ["value"] spWhole := by
  have S := fsWhole
  refine F.ok S (fun vs H Q E h => by obtain ⟨i, rfl, _⟩ := h; rfl) fun cdv A outer s H vs Q E hr hsp => ?_
  obtain ⟨i, rfl, q⟩ := hsp
  refine ⟨_, pss_one (ps_ret (pe_and (pe_callB call_isi (by rfl) N.n_isinstance (by decide +kernel) (pa_cons (pv 0) (pa_cons (pe_bltn (v := .ty "int") rfl N.n_int (by decide +kernel) rfl) pa_nil)))
    (pe_one (pe_not (pe_callB call_isi (by rfl) N.n_isinstance (by decide +kernel) (pa_cons (pv 0) (pa_cons (pe_bltn (v := .ty "bool") rfl N.n_bool (by decide +kernel) rfl) pa_nil))))))), ?_⟩
  exact ⟨_, rfl, _, _, _, _, true, rfl, .ty _, .base (.int i), kit_same, true, rfl, _, rfl, _, _, _, _, false, rfl, .ty _, .base (.int i), kit_ty (by decide +kernel), false, rfl, q⟩
theorem ok_number (F : L2.FunD K "is_number" "is_number" (defArgs sNumber) (defBody sNumber) (defScope sNumber) [.int 0, .non] [] f fd) (N : Nms mg) (cW : ClO prg w K mg base CX0 1 "is_whole" spWhole []) : FnOk prg w K mg base CX0 2 f fd ["value", "low", "high"] spNumber := by
  have S := fsNumber
  refine F.ok S (fun vs H Q E h => by obtain ⟨i, rfl, _⟩ := h; rfl) fun cdv A outer s H vs Q E hr hsp => ?_
  obtain ⟨i, rfl, q⟩ := hsp
  refine ⟨_, pss_one (ps_ret (pe_and (pe_clo cW hr (by decide) rfl (pa_cons (pv 0) pa_nil)) (pe_and (pe_cmpR op_le (pv 1) (pv 0) (nomark _)) (pe_one (pe_or (pe_cmpR op_isN (pv 2) pe_non (nomark _)) (pe_one (pe_cmpR op_le (pv 0) (pv 2) (nomark _)))))))), ?_⟩
  exact ⟨_, rfl, i, rfl, true, rfl, _, rfl, _, rfl, _, _, rfl, rfl, true, congrArg V.bl (decide_eq_true (show (0 : Int) ≤ (i : Int) by omega)), _, rfl, rfl, true, rfl, q⟩
theorem ok_hasForm (F : L2.Fun K "has_form" "has_form" sHasForm f fd) (N : Nms mg) (Z : SzK K w mg) (cS : ClO prg w K mg base CX0 1 "is_string" (spString K) []) : FnOk prg w K mg base CX0 2 f fd ["value"] spHasForm := by
  have S := fsHasForm
  obtain ⟨dS, es, n, D, gS, ⟨t1, z1⟩, ⟨t2, z2⟩, ⟨t3, z3⟩⟩ := Z.ex
  refine F.ok S (fun vs H Q E h => by obtain ⟨q, d, rfl, _⟩ := h; rfl) fun cdv A outer s H vs Q E hr hsp => ?_
  obtain ⟨q, d, rfl, hq, hQ⟩ := hsp
  refine ⟨_, pss_cons (ps_if (PW.pt (pw_or (pt_not (pt_val (pe_callB call_isi (by rfl) N.n_isinstance (by decide +kernel) (pa_cons (pv 0) (pa_cons (pe_bltn (v := .ty "tuple") rfl N.n_tuple (by decide +kernel) rfl) pa_nil)))))
      (pw_or (pt_cmpR op_eq (pe_callB call_len_seq (by rfl) N.n_len (by decide +kernel) (pa_cons (pv 0) pa_nil)) pe_int (nomark _)) (pw_or1 (pt_not (pt_val (pe_clo cS hr (by decide) rfl (pa_cons (pe_ix ix_tup (pv 0) pe_int (fun _ _ => rfl)) pa_nil)))))))) (pss_one (ps_ret pe_bl)) pss_nil)
    (pss_one (ps_ret (pe_and (pe_cmpR (op_in_kd D) (pe_ix ix_tup (pv 0) pe_int (fun _ _ => rfl)) (pe_glob (v := .ref dS) rfl gS rfl) rfl)
      (pe_one (pe_cmpR op_eq (pe_callB call_len_seq (by rfl) N.n_len (by decide +kernel) (pa_cons (pv 0) pa_nil)) (pe_ix (ix_kd D) (pe_glob (v := .ref dS) rfl gS rfl) (pe_ix ix_tup (pv 0) pe_int (fun _ _ => rfl)) (fun _ _ => rfl)) (nomark _)))))), ?_⟩
  refine ⟨_, rfl, _, _, _, _, true, rfl, .ty _, .base (.tup hq), kit_same, true, rfl, iteF ⟨_, rfl, q, _, rfl, .inr (SqT.of hq), rfl, _, rfl, ?_⟩⟩
  cases d with
  | put i r =>
    refine iteF ⟨_, rfl, q, _, _, _, rfl, rfl, SqT.of hq, rfl, _, rfl, .inl ⟨_, rfl, true, rfl, iteF ?_⟩⟩
    refine ⟨_, rfl, q, _, _, _, rfl, rfl, SqT.of hq, rfl, _, _, rfl, rfl, z1, true, rfl, ?_⟩
    exact ⟨_, rfl, q, _, rfl, .inr (SqT.of hq), _, rfl, q, _, _, _, rfl, rfl, SqT.of hq, rfl, _, _, .int 3, rfl, rfl, z1, ⟨_, rfl⟩, rfl, hQ⟩
  | row i r =>
    refine iteF ⟨_, rfl, q, _, _, _, rfl, rfl, SqT.of hq, rfl, _, rfl, .inl ⟨_, rfl, true, rfl, iteF ?_⟩⟩
    refine ⟨_, rfl, q, _, _, _, rfl, rfl, SqT.of hq, rfl, _, _, rfl, rfl, z2, true, rfl, ?_⟩
    exact ⟨_, rfl, q, _, rfl, .inr (SqT.of hq), _, rfl, q, _, _, _, rfl, rfl, SqT.of hq, rfl, _, _, .int 3, rfl, rfl, z2, ⟨_, rfl⟩, rfl, hQ⟩
  | out i =>
    refine iteF ⟨_, rfl, q, _, _, _, rfl, rfl, SqT.of hq, rfl, _, rfl, .inl ⟨_, rfl, true, rfl, iteF ?_⟩⟩
    refine ⟨_, rfl, q, _, _, _, rfl, rfl, SqT.of hq, rfl, _, _, rfl, rfl, z3, true, rfl, ?_⟩
    exact ⟨_, rfl, q, _, rfl, .inr (SqT.of hq), _, rfl, q, _, _, _, rfl, rfl, SqT.of hq, rfl, _, _, .int 2, rfl, rfl, z3, ⟨_, rfl⟩, rfl, hQ⟩
theorem ok_checkDeed (F : L2.Fun K "check_deed" "check_deed" sCheckDeed f fd) (N : Nms mg) (cF : ClO prg w K mg base CX0 2 "has_form" spHasForm []) (cN : ClO prg w K mg base CX0 2 "is_number" spNumber [.int 0, .non]) (cD : ClO prg w K mg base CX0 2 "is_desk_row" (spDeskRow K) []) : FnOk prg w K mg base CX0 3 f fd ["value"] spCheckDeed := by
  have S := fsCheckDeed
  refine F.ok S (fun vs H Q E h => by obtain ⟨q, d, rfl, _⟩ := h; rfl) fun cdv A outer s H vs Q E hr hsp => ?_
  obtain ⟨q, d, rfl, hq, hk, hQ⟩ := hsp
  refine ⟨_, pss_cons (ps_if (pt_not (pt_val (pe_clo cF hr (by decide) rfl (pa_cons (pv 0) pa_nil)))) (pss_one ps_never) pss_nil)
    (pss_cons (ps_if (pt_not (pt_val (pe_clo cN hr (by decide) rfl (pa_cons (pe_ix ix_tup (pv 0) pe_int (fun _ _ => rfl)) pa_nil)))) (pss_one ps_never) pss_nil)
    (pss_one (ps_if (PW.pt (pw_and (pt_cmpR op_eq (pe_callB call_len_seq (by rfl) N.n_len (by decide +kernel) (pa_cons (pv 0) pa_nil)) pe_int (nomark _)) (pw_and1 (pt_not (pt_val (pe_clo cD hr (by decide) rfl (pa_cons (pe_ix ix_tup (pv 0) pe_int (fun _ _ => rfl)) pa_nil))))))) (pss_one ps_never) pss_nil))), ?_⟩
  refine ⟨_, rfl, q, d, rfl, hq, true, rfl, iteF ?_⟩
  cases d with
  | put i r =>
    refine ⟨_, rfl, q, _, _, _, rfl, rfl, SqT.of hq, rfl, i, rfl, true, rfl, iteF ?_⟩
    refine ⟨_, rfl, q, _, rfl, .inr (SqT.of hq), rfl, _, rfl, iteT ⟨_, rfl, q, _, _, _, rfl, rfl, SqT.of hq, rfl, _, rfl, .inl ⟨r, rfl, ?_, true, ?_, iteF hQ⟩⟩⟩
    · have := okR_len (okS_R hk.2)
      omega
    · rw [okS_R hk.2]
  | row i r =>
    refine ⟨_, rfl, q, _, _, _, rfl, rfl, SqT.of hq, rfl, i, rfl, true, rfl, iteF ?_⟩
    refine ⟨_, rfl, q, _, rfl, .inr (SqT.of hq), rfl, _, rfl, iteT ⟨_, rfl, q, _, _, _, rfl, rfl, SqT.of hq, rfl, _, rfl, .inl ⟨r, rfl, ?_, true, ?_, iteF hQ⟩⟩⟩
    · have := okR_len (okS_R hk.2)
      omega
    · rw [okS_R hk.2]
  | out i =>
    refine ⟨_, rfl, q, _, _, _, rfl, rfl, SqT.of hq, rfl, i, rfl, true, rfl, iteF ?_⟩
    exact ⟨_, rfl, q, _, rfl, .inr (SqT.of hq), rfl, _, rfl, iteF (iteF hQ)⟩
end
end K11
set_option maxHeartbeats 4000000
/-! M12: what bars a deed, the rows behind it, by the program and by the law. -/
namespace K11
open PySem PySem.Spec L2 DL LamX
open PySem.W (Frag keepIn findIn typeIn subIn kitOne kitAny excIn)
open PyProof.Rows hiding St wpAt wpAt_bind wpAt_stack wpAt_mono
/-- the module's constants -/
structure Cns (mg : Str → Option Value) : Prop where
  c20 : ∃ t, mg "MOST_DESK" = some (.int 20 t)
  c200 : ∃ t, mg "MOST_SIGNS" = some (.int 200 t)
  full : ∃ t, mg "FULL" = some (.str "full" t)
  far : ∃ t, mg "FAR" = some (.str "far" t)
  none_ : ∃ t, mg "NONE" = some (.str "none" t)
  same : ∃ t, mg "SAME" = some (.str "same" t)
theorem row_at {rs : List Str} {i : Nat} {r : Str} (h : rs[i]? = some r) : atI (rs.map V.str) (i : Int) = some (.str r) := atI_nat (by rw [List.getElem?_map, h]; rfl)
theorem len_map {rs : List Str} : (((rs.map V.str).length : Nat) : Int) = (rs.length : Int) := by rw [List.length_map]
section
variable {w : World} {K : Frag} {mg : Str → Option Value} {base : Heap} {f : Addr} {fd : FuncData} {T : List (Addr × Str)}
theorem ok_reason (F : L2.Fun K "reason_against" "reason_against" sReason f fd) (N : Nms mg) (Z : Cns mg) : FnOk prg w K mg base CX0 1 f fd ["rows", "deed"] spReason := by
  have S := fsReason
  obtain ⟨t1, g1⟩ := Z.c20
  obtain ⟨t2, g2⟩ := Z.full
  obtain ⟨t3, g3⟩ := Z.far
  obtain ⟨t4, g4⟩ := Z.none_
  obtain ⟨t5, g5⟩ := Z.same
  refine F.ok S (fun vs H Q E h => by obtain ⟨p, q, rs, d, rfl, _⟩ := h; rfl) fun cdv A outer s H vs Q E hr hsp => ?_
  obtain ⟨p, q, rs, d, rfl, hp, hq, hl, hQ⟩ := hsp
  refine ⟨_, pss_cons (ps_if (pt_cmpR op_eq (pe_ix ix_tup (pv 1) pe_int (fun _ _ => rfl)) pe_str (nomark _)) (pss_cons (ps_if (pt_cmpR op_eq (pe_callB call_len_seq (by rfl) N.n_len (by decide +kernel) (pa_cons (pv 0) pa_nil)) (pe_glob (v := .int 20) rfl g1 ⟨_, rfl⟩) (nomark _)) (pss_one (ps_ret (pe_glob (v := .str "full") rfl g2 ⟨_, rfl⟩))) pss_nil)
      (pss_one (ps_ret (pe_ifExp (pt_cmpR op_gt (pe_ix ix_tup (pv 1) pe_int (fun _ _ => rfl)) (pe_callB call_len_seq (by rfl) N.n_len (by decide +kernel) (pa_cons (pv 0) pa_nil)) (nomark _)) (pe_glob (v := .str "far") rfl g3 ⟨_, rfl⟩) pe_non)))) pss_nil)
    (pss_cons (ps_if (pt_cmpR op_ge (pe_ix ix_tup (pv 1) pe_int (fun _ _ => rfl)) (pe_callB call_len_seq (by rfl) N.n_len (by decide +kernel) (pa_cons (pv 0) pa_nil)) (nomark _)) (pss_one (ps_ret (pe_glob (v := .str "none") rfl g4 ⟨_, rfl⟩))) pss_nil)
    (pss_one (ps_ret (pe_ifExp (PW.pt (pw_and (pt_cmpR op_eq (pe_ix ix_tup (pv 1) pe_int (fun _ _ => rfl)) pe_str (nomark _)) (pw_and1 (pt_cmpR op_eq (pe_ix ix_tup (pv 0) (pe_ix ix_tup (pv 1) pe_int (fun _ _ => rfl)) (fun _ _ => rfl)) (pe_ix ix_tup (pv 1) pe_int (fun _ _ => rfl)) (nomark _))))) (pe_glob (v := .str "same") rfl g5 ⟨_, rfl⟩) pe_non)))), ?_⟩
  cases d with
  | put i r =>
    refine ⟨_, rfl, q, _, _, _, rfl, rfl, SqT.of hq, rfl, rfl, _, rfl, iteT ⟨_, rfl, p, _, rfl, .inr (SqT.of hp), rfl, _, rfl, ?_⟩⟩
    simp only [mv] at hQ
    refine ite2 (fun e => ?_) fun e => ⟨_, rfl, q, _, _, _, rfl, rfl, SqT.of hq, rfl, _, rfl, p, _, rfl, .inr (SqT.of hp), _, _, rfl, rfl, _, rfl, ite2 (fun e2 => ?_) fun e2 => ?_⟩
    · have e := of_decide_eq_true e
      rw [len_map] at e
      injection e with e
      rw [if_pos (by omega)] at hQ
      exact hQ
    · have e2 := of_decide_eq_true e2
      rw [len_map] at e2
      have e : ¬ rs.length > 19 := fun z => e (decide_eq_true (by rw [len_map, show rs.length = 20 by omega]; rfl))
      rw [if_neg e, if_neg (by omega)] at hQ
      exact hQ
    · have e2 : ¬ ((i : Int) > _) := fun z => e2 (decide_eq_true z)
      rw [len_map] at e2
      have e : ¬ rs.length > 19 := fun z => e (decide_eq_true (by rw [len_map, show rs.length = 20 by omega]; rfl))
      rw [if_neg e, if_pos (by omega)] at hQ
      exact hQ
  | row i r =>
    refine ⟨_, rfl, q, _, _, _, rfl, rfl, SqT.of hq, rfl, rfl, _, rfl, iteF ⟨_, rfl, q, _, _, _, rfl, rfl, SqT.of hq, rfl, _, rfl, p, _, rfl, .inr (SqT.of hp), _, _, rfl, rfl, _, rfl, ?_⟩⟩
    simp only [mv] at hQ
    refine ite2 (fun e => ?_) fun e => ?_
    · have e := of_decide_eq_true e
      rw [len_map] at e
      rw [if_pos (by omega)] at hQ
      exact hQ
    · have e' : ¬ (_ ≥ _) := fun z => e (decide_eq_true z)
      rw [len_map] at e'
      have lt : i < rs.length := by omega
      rw [if_neg (by omega)] at hQ
      refine ⟨_, rfl, q, _, _, _, rfl, rfl, SqT.of hq, rfl, rfl, _, rfl, iteT ?_⟩
      refine ⟨_, rfl, _, rfl, q, _, _, _, rfl, rfl, SqT.of hq, rfl, p, _, _, .str rs[i], rfl, rfl, SqT.of hp, row_at (by simp [lt]), _, rfl, q, _, _, _, rfl, rfl, SqT.of hq, rfl, rfl, _, rfl, ite2 (fun e2 => ?_) fun e2 => ?_⟩
      · have e2 := of_decide_eq_true e2
        injection e2 with e2
        rw [if_pos (by rw [← e2]; simp [lt])] at hQ
        exact hQ
      · rw [if_neg (fun z => e2 (decide_eq_true (by
          have z' : some rs[i] = some r := by rw [← z]; simp [lt]
          rw [Option.some.inj z'])))] at hQ
        exact hQ
  | out i =>
    refine ⟨_, rfl, q, _, _, _, rfl, rfl, SqT.of hq, rfl, rfl, _, rfl, iteF ⟨_, rfl, q, _, _, _, rfl, rfl, SqT.of hq, rfl, _, rfl, p, _, rfl, .inr (SqT.of hp), _, _, rfl, rfl, _, rfl, ?_⟩⟩
    simp only [mv] at hQ
    refine ite2 (fun e => ?_) fun e => ?_
    · have e := of_decide_eq_true e
      rw [len_map] at e
      rw [if_pos (by omega)] at hQ
      exact hQ
    · have e' : ¬ (_ ≥ _) := fun z => e (decide_eq_true z)
      rw [len_map] at e'
      rw [if_neg (by omega)] at hQ
      exact ⟨_, rfl, q, _, _, _, rfl, rfl, SqT.of hq, rfl, rfl, _, rfl, iteF (iteF hQ)⟩
theorem ok_behind (F : L2.Fun K "rows_behind" "rows_behind" sBehind f fd) : FnOk prg w K mg base CX0 1 f fd ["rows", "deed"] (spBehind T) := by
  have S := fsBehind
  refine F.ok S (fun vs H Q E h => by obtain ⟨p, q, rs, rs', d, rfl, _⟩ := h; rfl) fun cdv A outer s H vs Q E hr hsp => ?_
  obtain ⟨p, q, rs, rs', d, rfl, hp, hq, hl, hm, hQ⟩ := hsp
  refine ⟨_, pss_cons (ps_set (i := 2) S.nd rfl (Or.inl rfl) (pe_ifExp (pt_cmpR op_eq (pe_ix ix_tup (pv 1) pe_int (fun _ _ => rfl)) pe_str (nomark _)) (pe_slice sl_tupA (pv 0) (po_some (pe_ix ix_tup (pv 1) pe_int (fun _ _ => rfl))) po_none) (pe_slice sl_tupA (pv 0) (po_some (pe_op op_add (pe_ix ix_tup (pv 1) pe_int (fun _ _ => rfl)) pe_int)) po_none)))
    (pss_one (ps_ret (pe_op op_catA (pe_op op_catA (pe_slice sl_tupA (pv 0) po_none (po_some (pe_ix ix_tup (pv 1) pe_int (fun _ _ => rfl)))) (pe_slice sl_tupA (pv 1) (po_some pe_int) po_none)) (pv 2)))), ?_⟩
  have fin : ∀ (i j : Nat) (tl : List V) (p2 : Addr) (H2 : Hp), Kt T [] H H2 → H2 p2 = some (.tup ((rs.map V.str).drop j)) → (∃ rest, ddV d = .str "put" :: .int i :: rest ∧ tl = rest ∨ ddV d = .str "row" :: .int i :: rest ∧ tl = rest ∨ ddV d = .str "out" :: .int i :: rest ∧ tl = rest) → tl.length ≤ 1 → rs'.map V.str = (rs.map V.str).take i ++ tl ++ (rs.map V.str).drop j →
      tRet (tOp (rCatA K) (tOp (rCatA K) (tSl (rSlA K) (tVar 0) tNoPart (tPart (tOp (rIxT K) (tVar 1) (tC (.int 1))))) (tSl (rSlA K) (tVar 1) (tPart (tC (.int 2))) tNoPart)) (tVar 2)) { nx := fun _ H' => Q .non H', rt := Q } [some (.ref p), some (.ref q), some (.ref p2)] H2 := by
    intro i j tl p2 H2 k2 h2 hd htl e
    have hq2 : H2 q = some (.tup (ddV d)) := k2.kp.tup hq
    have ix : atI (ddV d) 1 = some (.int i) := by
      obtain ⟨rest, h⟩ := hd
      rcases h with ⟨h, _⟩ | ⟨h, _⟩ | ⟨h, _⟩ <;> rw [h] <;> exact atI_nat (j := 1) rfl
    have tle : cutV (ddV d) (some 2) none = tl := by
      have := cut_drop (xs := ddV d) 2
      obtain ⟨rest, h⟩ := hd
      rcases h with ⟨h, e⟩ | ⟨h, e⟩ | ⟨h, e⟩ <;> rw [show (some (2 : Int)) = some ((2 : Nat) : Int) from rfl, this, h, e] <;> rfl
    refine ⟨_, rfl, _, rfl, q, _, _, _, rfl, rfl, SqT.of hq2, ix, _, rfl, slA_of (T := T) (k2.kp.tup hp) fun p3 H3 k3 h3 => ?_⟩
    rw [cut_take] at h3
    refine ⟨_, rfl, _, rfl, slN_of (T := T) (k3.kp.tup hq2) fun p4 H4 k4 h4 => catA_of (T := T) (k4.kp.tup h3) h4 (by rw [tle, List.length_take, List.length_map]; omega) fun p5 H5 k5 h5 => ?_⟩
    rw [tle] at h5
    refine ⟨_, rfl, catA_of (T := T) h5 (k5.kp.tup (k4.kp.tup (k3.kp.tup h2))) (by rw [List.length_append, List.length_take, List.length_drop, List.length_map]; omega) fun p6 H6 k6 h6 => hQ p6 H6 ((((k2.trans k3).trans k4).trans k5).trans k6) ?_⟩
    unfold RowsAt
    rw [h6, e]
  cases d with
  | put i r =>
    simp only [mv] at hm
    split at hm
    · cases hm
    · split at hm
      · cases hm
        refine ⟨_, rfl, q, _, _, _, rfl, rfl, SqT.of hq, rfl, rfl, _, rfl, iteT ⟨_, rfl, _, rfl, q, _, _, _, rfl, rfl, SqT.of hq, rfl, _, rfl, slN_of (T := T) hp fun p2 H2 k2 h2 => ?_⟩⟩
        rw [cut_drop] at h2
        exact fin i i [.str r] p2 H2 k2 h2 ⟨_, .inl ⟨rfl, rfl⟩⟩ (by simp) (by simp)
      · cases hm
  | row i r =>
    simp only [mv] at hm
    split at hm
    · cases hm
    · split at hm
      · cases hm
      · cases hm
        refine ⟨_, rfl, q, _, _, _, rfl, rfl, SqT.of hq, rfl, rfl, _, rfl, iteF ⟨_, rfl, _, rfl, q, _, _, _, rfl, rfl, SqT.of hq, rfl, _, _, rfl, rfl, _, rfl, slN_of (T := T) hp fun p2 H2 k2 h2 => ?_⟩⟩
        rw [show ((i : Int) + 1) = ((i + 1 : Nat) : Int) from rfl, cut_drop] at h2
        exact fin i (i + 1) [.str r] p2 H2 k2 h2 ⟨_, .inr (.inl ⟨rfl, rfl⟩)⟩ (by simp) (by simp)
  | out i =>
    simp only [mv] at hm
    split at hm
    · cases hm
    · cases hm
      refine ⟨_, rfl, q, _, _, _, rfl, rfl, SqT.of hq, rfl, rfl, _, rfl, iteF ⟨_, rfl, _, rfl, q, _, _, _, rfl, rfl, SqT.of hq, rfl, _, _, rfl, rfl, _, rfl, slN_of (T := T) hp fun p2 H2 k2 h2 => ?_⟩⟩
      rw [show ((i : Int) + 1) = ((i + 1 : Nat) : Int) from rfl, cut_drop] at h2
      exact fin i (i + 1) [] p2 H2 k2 h2 ⟨_, .inr (.inr ⟨rfl, rfl⟩)⟩ (by decide) (by simp)
end
end K11
set_option maxHeartbeats 4000000
/-! M13: desks: made, led, undone, their text. -/
namespace K11
open PySem PySem.Spec L2 DL LamX
open PySem.W (Frag keepIn findIn typeIn subIn mroIn specialIn takesIn kitOne kitAny excIn notFirst)
open PyProof.Rows hiding St wpAt wpAt_bind wpAt_stack wpAt_mono
/-- what is known of the class Desk -/
structure Dk (K : Frag) (mg : Str → Option Value) (C : Addr) : Prop where
  cl : L2.Cls K C
  nR : NoAttr K C "rows"
  nB : NoAttr K C "begun"
  nD : NoAttr K C "deeds"
  nP : NoAttr K C "past"
  g : mg "Desk" = some (.ref C)
  ca : findIn K (.ref C) "__class__" = some (some (.builtin "object.__class__"))
  hn : specialIn K (.builtin "object.__class__") "__get__" = some (some (.builtin "getset_descriptor.__get__"))
  ht : takesIn K (.builtin "object.__class__") = some true
  mo : mroIn K C (.type "object") = some true
  kI : kitOne K (.ref C) (.ref C) = some true
  kN : kitOne K (.type "NoneType") (.ref C) = some false
  kT : kitOne K (.type "tuple") (.ref C) = some false
  kS : kitOne K (.type "str") (.ref C) = some false
  kB : kitOne K (.type "bool") (.ref C) = some false
  fI : notFirst K C (.ref C) = true
  fN : notFirst K C (.type "NoneType") = true
  fT : notFirst K C (.type "tuple") = true
  fS : notFirst K C (.type "str") = true
  fB : notFirst K C (.type "bool") = true
  tb : findIn K (.ref C) "__bool__" = some none
  tl : findIn K (.ref C) "__len__" = some none
theorem flds_putR {r r' b d l : Addr} : putF "rows" (.ref r') (flds r b d l) = flds r' b d l := by
  unfold flds
  show (if ("rows" : Str) = "rows" then _ else _) = _
  rw [if_pos rfl]
theorem s1 : ¬ ("rows" : Str) = "begun" := by decide +kernel
theorem s2 : ¬ ("rows" : Str) = "deeds" := by decide +kernel
theorem s3 : ¬ ("begun" : Str) = "deeds" := by decide +kernel
theorem s4 : ¬ ("rows" : Str) = "past" := by decide +kernel
theorem s5 : ¬ ("begun" : Str) = "past" := by decide +kernel
theorem s6 : ¬ ("deeds" : Str) = "past" := by decide +kernel
theorem flds_putD {r b d d' l : Addr} : putF "deeds" (.ref d') (flds r b d l) = flds r b d' l := by
  unfold flds
  show (if ("rows" : Str) = "deeds" then _ else (("rows" : Str), V.ref r) :: (if ("begun" : Str) = "deeds" then _ else (("begun" : Str), V.ref b) :: (if ("deeds" : Str) = "deeds" then [(("deeds" : Str), V.ref d'), ("past", V.ref l)] else _))) = _
  rw [if_neg s2, if_neg s3, if_pos rfl]
theorem flds_new {r b d l : Addr} : putF "past" (.ref l) (putF "deeds" (.ref d) (putF "begun" (.ref b) (putF "rows" (.ref r) []))) = flds r b d l := by
  have e1 : putF "begun" (.ref b) (putF "rows" (.ref r) []) = [(("rows" : Str), V.ref r), ("begun", .ref b)] := by
    show (if ("rows" : Str) = "begun" then _ else (("rows" : Str), V.ref r) :: [(("begun" : Str), V.ref b)]) = _
    rw [if_neg s1]
  have e2 : putF "deeds" (.ref d) [(("rows" : Str), V.ref r), ("begun", .ref b)] = [(("rows" : Str), V.ref r), ("begun", .ref b), ("deeds", .ref d)] := by
    show (if ("rows" : Str) = "deeds" then _ else (("rows" : Str), V.ref r) :: (if ("begun" : Str) = "deeds" then _ else (("begun" : Str), V.ref b) :: [(("deeds" : Str), V.ref d)])) = _
    rw [if_neg s2, if_neg s3]
  rw [e1, e2]
  show (if ("rows" : Str) = "past" then _ else (("rows" : Str), V.ref r) :: (if ("begun" : Str) = "past" then _ else (("begun" : Str), V.ref b) :: (if ("deeds" : Str) = "past" then _ else (("deeds" : Str), V.ref d) :: [(("past" : Str), V.ref l)]))) = _
  rw [if_neg s4, if_neg s5, if_neg s6]
  rfl
theorem lkR {r b d l : Addr} : (flds r b d l).lookup ("rows" : Str) = some (.ref r) := rfl
theorem lkB {r b d l : Addr} : (flds r b d l).lookup ("begun" : Str) = some (.ref b) := rfl
theorem lkD {r b d l : Addr} : (flds r b d l).lookup ("deeds" : Str) = some (.ref d) := rfl
theorem lkP {r b d l : Addr} : (flds r b d l).lookup ("past" : Str) = some (.ref l) := rfl
/-- Kt past a place that was not there -/
theorem Kt.drop {T : List (Addr × Str)} {D : List Addr} {H H' : Hp} {y : Addr} (h : Kt T (y :: D) H H') (n : H y = none) : Kt T D H H' := ⟨fun b o e c z => h.kp b o e (fun q m => by
  rcases List.mem_cons.mp m with e2 | m
  · rw [e2, n] at e
    cases e
  · exact c q m) z, h.tb⟩
/-! ### what two desks' data say -/
abbrev dR (rs : List Str) : PyData := .tuple (rs.map PyData.str)
def dD : Dd → PyData
  | .put i r => .tuple [.str "put", .int i, .str r]
  | .row i r => .tuple [.str "row", .int i, .str r]
  | .out i => .tuple [.str "out", .int i]
theorem dp_row {K : Frag} {H : Hp} : ∀ rs : List Str, DpAll K H (rs.map V.str) (rs.map PyData.str)
  | [] => .nil
  | r :: rs => .cons (.str r) (dp_row rs)
theorem dp_rows {K : Frag} {H : Hp} {p : Addr} {rs : List Str} (h : RowsAt H p rs) : Dp K H (.ref p) (dR rs) := .tup (SqT.of h) (dp_row rs)
theorem dp_deed {K : Frag} {H : Hp} {q : Addr} {d : Dd} (h : DeedAt H q d) : Dp K H (.ref q) (dD d) := by
  cases d with
  | put i r => exact .tup (SqT.of h) (.cons (.str _) (.cons (.int _) (.cons (.str _) .nil)))
  | row i r => exact .tup (SqT.of h) (.cons (.str _) (.cons (.int _) (.cons (.str _) .nil)))
  | out i => exact .tup (SqT.of h) (.cons (.str _) (.cons (.int _) .nil))
theorem dp_list {K : Frag} {H : Hp} {α : Type} {g : α → PyData} : ∀ (qs : List Addr) (ds : List α), qs.length = ds.length → (∀ (i : Nat) q d, qs[i]? = some q → ds[i]? = some d → Dp K H (.ref q) (g d)) → DpAll K H (qs.map V.ref) (ds.map g)
  | [], [], _, _ => .nil
  | q :: qs, d :: ds, l, f => .cons (f 0 q d rfl rfl) (dp_list qs ds (Nat.succ.inj l) fun i q d a b => f (i + 1) q d a b)
theorem dp_deeds {K : Frag} {H : Hp} {p : Addr} {ds : List Dd} (h : DeedsAt H p ds) : Dp K H (.ref p) (.tuple (ds.map dD)) := by
  obtain ⟨qs, e, l, f⟩ := h
  exact .tup (SqT.of e) (dp_list qs ds l fun i q d a b => dp_deed (f i q d a b))
theorem lay_all {l : List PyData} (h : ∀ d ∈ l, d.canLay0 = true) : PyData.canLayAll0 l = true := by
  induction l with
  | nil => rfl
  | cons d l ih => exact Bool.and_eq_true_iff.mpr ⟨h d List.mem_cons_self, ih fun x m => h x (List.mem_cons_of_mem _ m)⟩
theorem lay_rows {rs : List Str} (h : ∀ r ∈ rs, okS r = true) : (dR rs).canLay0 = true := lay_all fun d m => by
  obtain ⟨r, m', rfl⟩ := List.mem_map.mp m
  show PyData.strOk r = true
  unfold PyData.strOk
  rw [Array.all_eq_true']
  intro c hc
  simpa using okS_c (h r m') c (by simpa using hc)
theorem lay_deed {d : Dd} (h : okD d) : (dD d).canLay0 = true := by
  have one : ∀ {r}, okS r = true → PyData.strOk r = true := fun {r} h => by
    unfold PyData.strOk
    rw [Array.all_eq_true']
    intro c hc
    simpa using okS_c h c (by simpa using hc)
  have q : PyData.strOk "put" = true := by decide +kernel
  have q2 : PyData.strOk "row" = true := by decide +kernel
  have q3 : PyData.strOk "out" = true := by decide +kernel
  cases d with
  | put i r => simp only [dD, PyData.canLay0, PyData.canLayAll0, q, one h.2, Bool.and_self]
  | row i r => simp only [dD, PyData.canLay0, PyData.canLayAll0, q2, one h.2, Bool.and_self]
  | out i => simp only [dD, PyData.canLay0, PyData.canLayAll0, q3, Bool.and_self]
theorem dep_all {l : List PyData} {n : Nat} (h : ∀ d ∈ l, d.depth ≤ n) : PyData.depthAll l ≤ n := by
  induction l with
  | nil => exact Nat.zero_le _
  | cons d l ih => exact Nat.max_le.mpr ⟨h d List.mem_cons_self, ih fun x m => h x (List.mem_cons_of_mem _ m)⟩
theorem dep_rows (rs : List Str) : (dR rs).depth ≤ 1 := Nat.succ_le_succ (dep_all fun d m => by
  obtain ⟨r, _, rfl⟩ := List.mem_map.mp m
  exact Nat.le_refl _)
theorem dep_deed (d : Dd) : (dD d).depth ≤ 1 := by cases d <;> exact Nat.le_refl _
theorem dep_deeds (ds : List Dd) : (PyData.tuple (ds.map dD)).depth ≤ 2 := Nat.succ_le_succ (dep_all fun d m => by
  obtain ⟨r, _, rfl⟩ := List.mem_map.mp m
  exact dep_deed r)
theorem lay_deeds {ds : List Dd} (h : ∀ d ∈ ds, okD d) : (PyData.tuple (ds.map dD)).canLay0 = true := lay_all fun d m => by
  obtain ⟨r, m', rfl⟩ := List.mem_map.mp m
  exact lay_deed (h r m')
/-- two desks' data -/
abbrev dT (b : List Str) (ds : List Dd) : PyData := .tuple [dR b, .tuple (ds.map dD)]
theorem shaped_T {b : List Str} {ds : List Dd} (h1 : ∀ r ∈ b, okS r = true) (h2 : ∀ d ∈ ds, okD d) : SeqAt.shaped (dT b ds) = true := by
  refine Bool.and_eq_true_iff.mpr ⟨lay_all fun d m => ?_, decide_eq_true (Nat.le_trans (Nat.succ_le_succ (dep_all (n := 2) fun d m => ?_)) (by decide))⟩
  · rcases List.mem_cons.mp m with rfl | m
    · exact lay_rows h1
    · rw [List.mem_singleton.mp m]
      exact lay_deeds h2
  · rcases List.mem_cons.mp m with rfl | m
    · exact Nat.le_trans (dep_rows b) (by decide)
    · rw [List.mem_singleton.mp m]
      exact dep_deeds ds
theorem eqv_rows : ∀ (a b : List Str), PyData.eqvAll (a.map PyData.str) (b.map PyData.str) = true → a = b
  | [], [], _ => rfl
  | [], _ :: _, h => by cases h
  | _ :: _, [], h => by cases h
  | x :: a, y :: b, h => by
    have z := Bool.and_eq_true_iff.mp (show (x == y && PyData.eqvAll (a.map PyData.str) (b.map PyData.str)) = true from h)
    rw [eq_of_beq z.1, eqv_rows a b z.2]
/-- whether they are equal -/
def EqAns (b b2 : List Str) (ds ds2 : List Dd) (r : Bool) : Prop := (r = true ∧ b = b2 ∧ ds = ds2) ∨ (r = false ∧ (b ≠ b2 ∨ ds.length ≠ ds2.length))
theorem eqv_T {b b2 : List Str} {ds ds2 : List Dd} {r : Bool} (h : EqAns b b2 ds ds2 r) (h1 : ∀ r ∈ b, okS r = true) (h2 : ∀ d ∈ ds, okD d) : PyData.eqv (dT b ds) (dT b2 ds2) = r := by
  rcases h with ⟨rfl, rfl, rfl⟩ | ⟨rfl, h⟩
  · exact SeqAt.eqv_refl _ (SeqAt.canLay_of_shaped (shaped_T h1 h2))
  · show (PyData.eqvAll (b.map PyData.str) (b2.map PyData.str) && (PyData.eqvAll (ds.map dD) (ds2.map dD) && true)) = false
    rcases h with h | h
    · rw [Bool.and_eq_false_iff]
      refine .inl ?_
      cases q : PyData.eqvAll (b.map PyData.str) (b2.map PyData.str) with
      | false => rfl
      | true => exact absurd (eqv_rows _ _ q) h
    · rw [Bool.and_eq_false_iff]
      refine .inr ?_
      rw [SeqAt.eqvAll_other_length (by rw [List.length_map, List.length_map]; exact h)]
      rfl
end K11
set_option maxHeartbeats 4000000
/-! M14: the methods of a desk. -/
namespace K11
open PySem PySem.Spec L2 DL LamX
open PySem.W (Frag keepIn findIn typeIn subIn mroIn specialIn takesIn kitOne kitAny excIn notFirst)
open PyProof.Rows hiding St wpAt wpAt_bind wpAt_stack wpAt_mono
def spTextOf (T : List (Addr × Str)) : Sp := fun vs H Q _ => ∃ (p : Addr) (rs : List Str), vs = [.ref p] ∧ RowsAt H p rs ∧ rs.length ≤ 20 ∧ (∀ r ∈ rs, okS r = true) ∧ ∀ x H', Kt T [] H H' → Q (.str x) H'
/-- nothing but a table may have stood there -/
def Fr (H : Hp) (l : Addr) : Prop := ∀ o, H l = some o → ∃ ps, o = .tbl ps
theorem Fr.ne {H : Hp} {l b : Addr} {o : HO} (h : Fr H l) (e : H b = some o) (n : ∀ ps, o ≠ .tbl ps) : b ≠ l := fun z => by
  rw [z] at e
  obtain ⟨ps, q⟩ := h o e
  exact n ps q
theorem Fr.of {H H' : Hp} {l : Addr} (k : Kp [] H H') (e : H' l = none) : Fr H l := fun o q => by
  apply Classical.byContradiction
  intro z
  have := k l o q (fun _ => by simp) fun ps e => z ⟨ps, e⟩
  rw [e] at this
  cases this
def spInit (C CR : Addr) (T : List (Addr × Str)) : Sp := fun vs H Q E => ∃ (y dy : Addr) (x : V), vs = [.ref y, x] ∧ H y = some (.ins C dy []) ∧ Tabs T H ∧
  ((∃ p rs, x = .ref p ∧ RowsAt H p rs ∧ rs.length ≤ 20 ∧ (∀ r ∈ rs, okS r = true) ∧ ∀ H' l, Fr H l → Kt T [y] H H' → DeskAt C H' y l rs rs [] [] → Q .non H') ∨ (∃ v, RowsIn H x (some v) ∧ Refuses CR T H v E))
/-- a desk, right in itself -/
structure GoodD (C : Addr) (H : Hp) (d l : Addr) (b rs : List Str) (ds : List Dd) (ps : List (List Str)) : Prop where
  at_ : DeskAt C H d l b rs ds ps
  nr : rs.length ≤ 20
  okR : ∀ r ∈ rs, okS r = true
  okB : ∀ r ∈ b, okS r = true
  okD : ∀ x ∈ ds, okD x
  okP : ∀ q ∈ ps, ∀ r ∈ q, okS r = true
  nd : ds.length ≤ 500
  np : ps.length ≤ 500
theorem GoodD.kt {C d l : Addr} {T : List (Addr × Str)} {D : List Addr} {H H' : Hp} {b rs : List Str} {ds : List Dd} {ps : List (List Str)} (h : GoodD C H d l b rs ds ps) (k : Kt T D H H') (hd : d ∉ D) (hl : l ∉ D) : GoodD C H' d l b rs ds ps :=
  ⟨h.at_.kp k.kp hd hl, h.nr, h.okR, h.okB, h.okD, h.okP, h.nd, h.np⟩
def spDo (C CB : Addr) (T : List (Addr × Str)) : Sp := fun vs H Q E => ∃ (d l q : Addr) (b rs : List Str) (ds : List Dd) (ps : List (List Str)) (dd : Dd), vs = [.ref d, .ref q] ∧ GoodD C H d l b rs ds ps ∧ DeedAt H q dd ∧ okD dd ∧ ds.length < 500 ∧ ps.length < 500 ∧
  (∀ rs', mv rs dd = .inr rs' → ∀ H', Kt T [d, l] H H' → GoodD C H' d l b rs' (ds ++ [dd]) (ps ++ [rs]) → Q .non H') ∧ ∀ w, mv rs dd = .inl w → ∀ H' e, Kt T [] H H' → H' e = some (.xd [("reason", .str w)]) → E (.ref CB) (some e) H'
def spUndo (C CN : Addr) (T : List (Addr × Str)) : Sp := fun vs H Q E => ∃ (d l : Addr) (b rs : List Str) (ds : List Dd) (ps : List (List Str)), vs = [.ref d] ∧ GoodD C H d l b rs ds ps ∧
  ((ps = [] ∧ ∀ H', Kt T [] H H' → E (.ref CN) none H') ∨ (∃ ps' r, ps = ps' ++ [r] ∧ r.length ≤ 20 ∧ ∀ H', Kt T [d, l] H H' → GoodD C H' d l b r ds.dropLast ps' → Q .non H'))
def spText (C : Addr) (T : List (Addr × Str)) : Sp := fun vs H Q _ => ∃ (d l : Addr) (b rs : List Str) (ds : List Dd) (ps : List (List Str)), vs = [.ref d] ∧ GoodD C H d l b rs ds ps ∧ ∀ x H', Kt T [] H H' → Q (.str x) H'
def spEq (C : Addr) (K : Frag) (T : List (Addr × Str)) : Sp := fun vs H Q _ => ∃ (d l : Addr) (b rs : List Str) (ds : List Dd) (ps : List (List Str)) (y : V), vs = [.ref d, y] ∧ GoodD C H d l b rs ds ps ∧
  ((∃ d2 l2 b2 rs2 ds2 ps2 r, y = .ref d2 ∧ GoodD C H d2 l2 b2 rs2 ds2 ps2 ∧ EqAns b b2 ds ds2 r ∧ ∀ H', Kt T [] H H' → Q (.bl r) H') ∨ (∃ t, TyX K H y t ∧ kitOne K t (.ref C) = some false ∧ Q (.bl false) H))
section
variable {w : World} {K : Frag} {mg : Str → Option Value} {base : Heap} {f : Addr} {fd : FuncData} {T : List (Addr × Str)} {C : Addr}
theorem ok_textOf (F : L2.Fun K "text_of_rows" "text_of_rows" sTextOf f fd) : FnOk prg w K mg base CX0 1 f fd ["rows"] (spTextOf T) := by
  have S := fsTextOf
  refine F.ok S (fun vs H Q E h => by obtain ⟨p, rs, rfl, _⟩ := h; rfl) fun cdv A outer s H vs Q E hr hsp => ?_
  obtain ⟨p, rs, rfl, hp, hl, hk, hQ⟩ := hsp
  refine ⟨_, pss_one (ps_ret (pe_join pe_str (pe_lc (own := [("row", 1)]) (g := gName 1) (tt := tYes) (by rfl) S.nd (pi_tup (pv 0)) (blkOk_by (own := [("row", 1)]) (N := nTextOf) (sc := defScope sTextOf) (by decide +kernel)) (fun _ _ _ _ _ => pg_name (i := 1) S.nd rfl (Or.inl rfl)) (fun _ _ _ _ _ => pts_nil) (fun _ _ _ _ _ => pe_op op_add_str (pv 1) pe_str)))), ?_⟩
  refine ⟨⟨_, rfl⟩, _, rfl, p, rfl, ⟨_, SqT.of hp⟩, fun D nD => ?_⟩
  refine lc_tup (xs := rs.map V.str) (fun i Hb => Kt T [D] H Hb ∧ Hb D = some (.lst ((rs.take i).map fun r => V.str (r ++ "\n")))) ⟨Kt.new nD, upd_same⟩ (fun i Hb _ h => SqT.of (h.1.kp.tup hp)) (fun i x Hb hx h => ?_) fun Hb h => ?_
  · rw [List.getElem?_map] at hx
    obtain ⟨r, hr', rfl⟩ := Option.map_eq_some_iff.mp hx
    have hi : i < rs.length := (List.getElem?_eq_some_iff.mp hr').1
    have hm : r ∈ rs := List.mem_of_getElem? hr'
    have lr := okR_len (okS_R (hk r hm))
    have sl : sizeLine = 16777216 := sizeLine_eq
    refine ⟨rfl, _, rfl, _, _, rfl, rfl, ?_, _, h.2, ?_, h.1.trans (Kt.put h.2 rfl (by simp)), ?_⟩
    · show r.length + 1 ≤ sizeLine
      omega
    · rw [List.length_map, List.length_take]
      omega
    · rw [upd_same, List.take_add_one, hr', List.map_append]
      rfl
  · refine ⟨_, _, rs.map fun r => r ++ "\n", rfl, rfl, .inl (SqL.of ?_), ?_, hQ _ _ (h.1.drop nD)⟩
    · rw [h.2, List.length_map, List.take_length, List.map_map]
      rfl
    · rw [List.length_map, List.map_map]
      have : ∀ l : List Str, (∀ r ∈ l, okS r = true) → (l.map ((fun x : Str => x.length) ∘ fun r : Str => r ++ ("\n" : Str))).sum ≤ 201 * l.length := fun l => by
        induction l with
        | nil => intro _; simp
        | cons r l ih =>
          intro hk
          have lr := okR_len (okS_R (hk r List.mem_cons_self))
          have := ih fun x m => hk x (List.mem_cons_of_mem _ m)
          have e : (r ++ ("\n" : Str)).length = r.length + 1 := by
            show (r.cps ++ ("\n" : Str).cps).size = _
            rw [Array.size_append]
            rfl
          simp only [List.map_cons, List.sum_cons, List.length_cons, Function.comp_apply, e]
          omega
      have := this rs hk
      have e : (Str.empty).length = 0 := rfl
      show _ + rs.length * ("" : Str).length ≤ _
      rw [show ("" : Str).length = 0 from rfl]
      omega
theorem els_good {rs : List Str} (h : ∀ r ∈ rs, okS r = true) : Els (rs.map V.str) (rs.map okR) ∧ firstF (rs.map okR) 0 = .non := by
  refine ⟨⟨by rw [List.length_map, List.length_map], fun i x b hx hb => ?_⟩, firstF_all fun b m => ?_⟩
  · rw [List.getElem?_map] at hx hb
    obtain ⟨r, hr, rfl⟩ := Option.map_eq_some_iff.mp hx
    obtain ⟨r2, hr2, rfl⟩ := Option.map_eq_some_iff.mp hb
    rw [hr] at hr2
    cases hr2
    exact .inl ⟨r, rfl, Nat.le_trans (okR_len (okS_R (h r (List.mem_of_getElem? hr)))) (by decide), rfl⟩
  · obtain ⟨r, m', rfl⟩ := List.mem_map.mp m
    exact okS_R (h r m')
theorem ok_init {CR : Addr} (F : L2.Fun K "__init__" "Desk.__init__" sInit f fd) (D : Dk K mg C) (cC : ClO prg w K mg base (L2.CX prg w) 5 "check_rows" (spCheck CR T) []) : FnOk prg w K mg base (L2.CX prg w) 6 f fd ["self", "rows"] (spInit C CR T) := by
  have S := fsInit
  refine F.okX S (fun vs H Q E h => by obtain ⟨y, dy, x, rfl, _⟩ := h; rfl) fun cdv A outer s H vs Q E hr hsp => ?_
  obtain ⟨y, dy, x, rfl, hy, hT, hsp⟩ := hsp
  refine ⟨_, pss_cons (ps_expr (pe_clx cC hr (by decide) rfl (passes_call (takes_of rfl rfl rfl rfl) (fun _ _ _ _ h => h)) (pa_cons (pv 1) pa_nil)))
    (pss_cons (ps_fld (pv 0) (pv 1) rfl) (pss_cons (ps_fld (pv 0) (pv 1) rfl) (pss_cons (ps_fld (pv 0) (pe_tup pa_nil) rfl) (pss_one (ps_fld (pv 0) (pe_lst pa_nil) rfl))))), ?_⟩
  rcases hsp with ⟨p, rs, rfl, hp, hl, hk, hq⟩ | ⟨v, hR, hE⟩
  · obtain ⟨e1, e2⟩ := els_good hk
    refine ⟨_, rfl, _, none, rfl, hT, .good (bs := rs.map okR) hp (by rw [List.length_map]; exact hl) e1 e2, fun _ H1 k1 => ?_, fun v z => by cases z⟩
    have hy1 : H1 y = some (.ins C dy []) := k1.kp.ins hy (by simp)
    refine ⟨_, rfl, _, rfl, y, C, dy, _, rfl, hy1, D.cl, D.nR, (by show 0 < 1000; decide), _, rfl, _, rfl, y, C, dy, _, rfl, upd_same, D.cl, D.nB, (by show 1 < 1000; decide), ?_⟩
    have k2 := (k1.of.trans (Kt.put (T := T) (D := [y]) (o := .ins C dy (putF "rows" (.ref p) [])) hy1 rfl (by simp))).trans (Kt.put (o := .ins C dy (putF "begun" (.ref p) (putF "rows" (.ref p) []))) upd_same rfl (by simp))
    have hy2 : upd (upd H1 y (.ins C dy (putF "rows" (.ref p) []))) y (.ins C dy (putF "begun" (.ref p) (putF "rows" (.ref p) []))) y = some (.ins C dy (putF "begun" (.ref p) (putF "rows" (.ref p) []))) := upd_same
    have fr2 : ∀ b, upd (upd H1 y (.ins C dy (putF "rows" (.ref p) []))) y (.ins C dy (putF "begun" (.ref p) (putF "rows" (.ref p) []))) b = none → H1 b = none := fun b e => by
      have by_ : b ≠ y := fun z => by
        rw [z, upd_same] at e
        cases e
      rw [upd_ne by_, upd_ne by_] at e
      exact e
    generalize upd (upd H1 y (.ins C dy (putF "rows" (.ref p) []))) y (.ins C dy (putF "begun" (.ref p) (putF "rows" (.ref p) []))) = H2 at k2 hy2 fr2 ⊢
    refine ⟨(by show 0 ≤ sizeLine; omega), fun pd npd => ?_⟩
    have py : pd ≠ y := (ne_of_none hy2 npd).symm
    have hpd : upd H2 pd (.tup []) pd = some (.tup []) := upd_same
    have hy3 : upd H2 pd (.tup []) y = some (.ins C dy (putF "begun" (.ref p) (putF "rows" (.ref p) []))) := by
      rw [upd_ne py.symm]
      exact hy2
    have k3 := k2.trans (Kt.new (T := T) (D := [y]) (o := .tup []) npd)
    have fr3 : ∀ b, upd H2 pd (.tup []) b = none → H2 b = none := fun b e => by
      have bp : b ≠ pd := fun z => by
        rw [z, upd_same] at e
        cases e
      rw [upd_ne bp] at e
      exact e
    generalize upd H2 pd (.tup []) = H3 at k3 hy3 fr3 hpd ⊢
    refine ⟨_, rfl, y, C, dy, _, rfl, hy3, D.cl, D.nD, (by show 2 < 1000; decide), ?_⟩
    have k4 := k3.trans (Kt.put (o := .ins C dy (putF "deeds" (.ref pd) (putF "begun" (.ref p) (putF "rows" (.ref p) [])))) hy3 rfl (by simp))
    have hy4 : upd H3 y (.ins C dy (putF "deeds" (.ref pd) (putF "begun" (.ref p) (putF "rows" (.ref p) [])))) y = some (.ins C dy (putF "deeds" (.ref pd) (putF "begun" (.ref p) (putF "rows" (.ref p) [])))) := upd_same
    have hp4 : upd H3 y (.ins C dy (putF "deeds" (.ref pd) (putF "begun" (.ref p) (putF "rows" (.ref p) [])))) pd = some (.tup []) := by
      rw [upd_ne py]
      exact hpd
    have fr4 : ∀ b, upd H3 y (.ins C dy (putF "deeds" (.ref pd) (putF "begun" (.ref p) (putF "rows" (.ref p) [])))) b = none → H3 b = none := fun b e => by
      have by_ : b ≠ y := fun z => by
        rw [z, upd_same] at e
        cases e
      rw [upd_ne by_] at e
      exact e
    generalize upd H3 y (.ins C dy (putF "deeds" (.ref pd) (putF "begun" (.ref p) (putF "rows" (.ref p) [])))) = H4 at k4 hy4 hp4 fr4 ⊢
    refine ⟨(by show 0 ≤ sizeLine; omega), fun l nl => ?_⟩
    have ly : l ≠ y := (ne_of_none hy4 nl).symm
    have lpd : l ≠ pd := (ne_of_none hp4 nl).symm
    have nl1 : H1 l = none := fr2 l (fr3 l (fr4 l nl))
    have hy5 : upd H4 l (.lst []) y = some (.ins C dy (putF "deeds" (.ref pd) (putF "begun" (.ref p) (putF "rows" (.ref p) [])))) := by
      rw [upd_ne ly.symm]
      exact hy4
    have k5 := k4.trans (Kt.new (T := T) (D := [y]) (o := .lst []) nl)
    have hp5 : upd H4 l (.lst []) pd = some (.tup []) := by
      rw [upd_ne lpd.symm]
      exact hp4
    have hl5 : upd H4 l (.lst []) l = some (.lst []) := upd_same
    generalize upd H4 l (.lst []) = H5 at k5 hy5 hp5 hl5 ⊢
    refine ⟨_, rfl, y, C, dy, _, rfl, hy5, D.cl, D.nP, (by show 3 < 1000; decide), ?_⟩
    have kt := k5.trans (Kt.put (o := .ins C dy (putF "past" (.ref l) (putF "deeds" (.ref pd) (putF "begun" (.ref p) (putF "rows" (.ref p) []))))) hy5 rfl (by simp))
    refine hq _ l (Fr.of k1.kp nl1) kt ⟨dy, p, p, pd, [], ?_, kt.kp.tup hp, kt.kp.tup hp, ⟨[], ?_, rfl, fun i q d z => by simp at z⟩, ?_, rfl, fun i q r z => by simp at z⟩
    · rw [upd_same, flds_new]
    · rw [upd_ne py]
      exact hp5
    · rw [upd_ne ly]
      exact hl5
  · exact ⟨_, rfl, _, some v, rfl, hT, hR, (fun z => by cases z), fun v' e => by cases e; exact hE⟩
end
end K11
set_option maxHeartbeats 4000000
/-! M15: do, undo, text, __eq__. -/
namespace K11
open PySem PySem.Spec L2 DL LamX
open PySem.W (Frag keepIn findIn typeIn subIn mroIn specialIn takesIn kitOne kitAny excIn notFirst)
open PyProof.Rows hiding St wpAt wpAt_bind wpAt_stack wpAt_mono
theorem cut_init {xs : List V} : cutV xs none (some (-1)) = xs.dropLast := by
  unfold cutV
  rw [HT.sIx_none]
  have e : HT.sIx xs.length xs.length (some (-1)) = xs.length - 1 := by
    unfold HT.sIx
    simp
    omega
  rw [e, List.drop_zero, List.dropLast_eq_take]
  rfl
section
variable {w : World} {K : Frag} {mg : Str → Option Value} {base : Heap} {f : Addr} {fd : FuncData} {T : List (Addr × Str)} {C : Addr}
theorem ok_do {CB : Addr} (F : L2.Fun K "do" "Desk.do" sDo f fd) (D : Dk K mg C) (X : Ex1 w K mg "Barred" "reason" CB) (cD : ClO prg w K mg base CX0 3 "check_deed" spCheckDeed []) (cR : ClO prg w K mg base CX0 1 "reason_against" spReason []) (cB : ClO prg w K mg base CX0 1 "rows_behind" (spBehind T) []) :
    FnOk prg w K mg base (L2.CX prg w) 4 f fd ["self", "deed"] (spDo C CB T) := by
  have S := fsDo
  refine F.okX S (fun vs H Q E h => by obtain ⟨d, l, q, b, rs, ds, ps, dd, rfl, _⟩ := h; rfl) fun cdv A outer s H vs Q E hr hsp => ?_
  obtain ⟨d, l, q, b, rs, ds, ps, dd, rfl, G, hq, hk, hn1, hn2, hgo, hno⟩ := hsp
  obtain ⟨dx, pr, pb, pd, pps, h1, h2, h3, ⟨qs, h4, l4, f4⟩, h5, h6⟩ := G.at_
  have hd : (A.deeper (envOfC "Desk.do" (defScope sDo) s.heap.objs.size f cdv)).depth + 1 < recursionLimit := by have := hr.dp; omega
  refine ⟨_, pss_cons (ps_expr (pe_clo cD hr (by decide) rfl (pa_cons (pv 1) pa_nil)))
    (pss_cons (ps_set (i := 2) S.nd rfl (Or.inl rfl) (pe_clo cR hr (by decide) rfl (pa_cons (pe_fld (pv 0) rfl) (pa_cons (pv 1) pa_nil))))
    (pss_cons (ps_if (pt_cmpR op_notN (pv 2) pe_non (nomark _)) (pss_one (ps_raise rfl (takes_of rfl rfl rfl rfl) (pmk_su X.su hd rfl X.g X.ei.raises (pa_cons (pv 2) pa_nil)))) pss_nil)
    (pss_cons (ps_expr (pe_bm PySem.F.plainAttrs_list PySem.F.slot_list_append PySem.F.type_list_append mt_append (pe_fld (pv 0) rfl) (pa_cons (pe_fld (pv 0) rfl) pa_nil)))
    (pss_cons (ps_fld (pv 0) (pe_clo cB hr (by decide) rfl (pa_cons (pe_fld (pv 0) rfl) (pa_cons (pv 1) pa_nil))) rfl)
    (pss_one (ps_fld (pv 0) (pe_op op_catA (pe_fld (pv 0) rfl) (pe_tup (pa_cons (pv 1) pa_nil))) rfl)))))), ?_⟩
  refine ⟨_, rfl, q, dd, rfl, hq, hk, _, rfl, d, C, dx, _, _, rfl, h1, D.cl, D.nR, lkR, _, rfl, pr, q, rs, dd, rfl, h2, hq, G.nr, ?_⟩
  cases hm : mv rs dd with
  | inl w =>
    exact ⟨_, rfl, rfl, _, rfl, iteT ⟨_, rfl, _, rfl, fun e he => hno w hm _ e (Kt.new he) upd_same⟩⟩
  | inr rs' =>
    refine ⟨_, rfl, rfl, _, rfl, iteF ⟨_, rfl, d, C, dx, _, _, rfl, h1, D.cl, D.nP, lkP, .inl ⟨rfl, _, SqL.of h5⟩, _, rfl, d, C, dx, _, _, rfl, h1, D.cl, D.nR, lkR, l, _, _, rfl, rfl, h5, ?_, ?_⟩⟩
    · rw [List.length_map, h6.1]
      exact Nat.lt_of_lt_of_le hn2 (by decide)
    have ndl : d ≠ l := ne_of h1 h5 (by intro z; cases z)
    have k1 : Kt T [d, l] H (upd H l (.lst (pps.map V.ref ++ [V.ref pr]))) := Kt.put h5 rfl (by simp)
    have g1 : upd H l (.lst (pps.map V.ref ++ [V.ref pr])) d = some (.ins C dx (flds pr pb pd l)) := by
      rw [upd_ne ndl]
      exact h1
    have g2 : upd H l (.lst (pps.map V.ref ++ [V.ref pr])) l = some (.lst (pps.map V.ref ++ [V.ref pr])) := upd_same
    generalize upd H l (.lst (pps.map V.ref ++ [V.ref pr])) = H1 at k1 g1 g2 ⊢
    refine ⟨_, rfl, d, C, dx, _, _, rfl, g1, D.cl, D.nR, lkR, _, rfl, pr, q, rs, rs', dd, rfl, h2.kp k1.kp, hq.kp k1.kp, G.nr, hm, fun p' H2 k2 hp' => ?_⟩
    have g3 : H2 d = some (.ins C dx (flds pr pb pd l)) := k2.kp.ins g1 (by simp)
    have g4 : H2 l = some (.lst (pps.map V.ref ++ [V.ref pr])) := k2.kp.lst g2 (by simp)
    refine ⟨_, rfl, d, C, dx, _, rfl, g3, D.cl, D.nR, (by show 4 < 1000; decide), ?_⟩
    rw [flds_putR]
    have k3 : Kt T [d, l] H2 (upd H2 d (.ins C dx (flds p' pb pd l))) := Kt.put g3 rfl (by simp)
    have g5 : upd H2 d (.ins C dx (flds p' pb pd l)) d = some (.ins C dx (flds p' pb pd l)) := upd_same
    have g6 : upd H2 d (.ins C dx (flds p' pb pd l)) l = some (.lst (pps.map V.ref ++ [V.ref pr])) := by
      rw [upd_ne ndl.symm]
      exact g4
    generalize upd H2 d (.ins C dx (flds p' pb pd l)) = H3 at k3 g5 g6 ⊢
    have kA := (k1.trans k2.of).trans k3
    refine ⟨_, rfl, d, C, dx, _, _, rfl, g5, D.cl, D.nD, lkD, _, rfl, (by show 1 ≤ sizeLine; decide), fun t nt => ?_⟩
    have k4 : Kt T [] H3 (upd H3 t (.tup [.ref q])) := Kt.new nt
    have g7 : upd H3 t (.tup [.ref q]) t = some (.tup [.ref q]) := upd_same
    generalize upd H3 t (.tup [.ref q]) = H4 at k4 g7 ⊢
    refine catA_of (T := T) (xs := qs.map V.ref) (ys := [.ref q]) (k4.kp.tup (kA.kp.tup h4)) g7 ?_ fun p5 H5 k5 hp5 => ?_
    · rw [List.length_map, l4]
      show ds.length + 1 ≤ 1000
      omega
    have g8 : H5 d = some (.ins C dx (flds p' pb pd l)) := k5.kp.ins (k4.kp.ins g5 (by simp)) (by simp)
    have g9 : H5 l = some (.lst (pps.map V.ref ++ [V.ref pr])) := k5.kp.lst (k4.kp.lst g6 (by simp)) (by simp)
    refine ⟨_, rfl, d, C, dx, _, rfl, g8, D.cl, D.nD, (by show 4 < 1000; decide), ?_⟩
    rw [flds_putD]
    have k6 : Kt T [d, l] H5 (upd H5 d (.ins C dx (flds p' pb p5 l))) := Kt.put g8 rfl (by simp)
    have kB := ((kA.trans k4.of).trans k5.of).trans k6
    have kC := (k4.trans k5).of.trans k6
    refine hgo rs' hm _ kB ⟨⟨dx, p', pb, p5, pps ++ [pr], upd_same, (hp'.kp k3.kp).kp kC.kp, h3.kp kB.kp, DeedsAt.snoc (kB.kp.tup h4) l4 (fun i x y a b => (f4 i x y a b).kp kB.kp) (hq.kp kB.kp) ?_, ?_, (h6.kp kB.kp).snoc (h2.kp kB.kp)⟩, mv_len hm G.nr, mv_ok hm G.okR hk, G.okB, ?_, ?_, ?_, ?_⟩
    · rw [List.map_append]
      exact k6.kp.tup hp5
    · rw [upd_ne ndl.symm, List.map_append]
      exact g9
    · intro x m
      rcases List.mem_append.mp m with m | m
      · exact G.okD x m
      · rw [List.mem_singleton.mp m]
        exact hk
    · intro x m
      rcases List.mem_append.mp m with m | m
      · exact G.okP x m
      · rw [List.mem_singleton.mp m]
        exact G.okR
    · rw [List.length_append]
      exact hn1
    · rw [List.length_append]
      exact hn2
theorem ok_undo {CN : Addr} (F : L2.Fun K "undo" "Desk.undo" sUndo f fd) (D : Dk K mg C) (xN : excIn K CN [.type "ValueError", .type "Exception", .type "BaseException", .type "object"] "ValueError.__new__" = true) (kN : keepIn K (.ref CN) = true) (gN : mg "NothingToUndo" = some (.ref CN)) (eN : EiC K CN) :
    FnOk prg w K mg base (L2.CX prg w) 1 f fd ["self"] (spUndo C CN T) := by
  have S := fsUndo
  refine F.okX S (fun vs H Q E h => by obtain ⟨d, l, b, rs, ds, ps, rfl, _⟩ := h; rfl) fun cdv A outer s H vs Q E hr hsp => ?_
  obtain ⟨d, l, b, rs, ds, ps, rfl, G, hsp⟩ := hsp
  obtain ⟨dx, pr, pb, pd, pps, h1, h2, h3, ⟨qs, h4, l4, f4⟩, h5, h6⟩ := G.at_
  refine ⟨_, pss_cons (ps_if (pt_cmpR (op_eqD hr.units) (pe_fld (pv 0) rfl) (pe_lst pa_nil) (nomark _)) (pss_one (ps_raise rfl (takes_of rfl rfl rfl rfl) (pmk_ex0 xN kN rfl gN eN.raises))) pss_nil)
    (pss_cons (ps_fld (pv 0) (pe_bm0 PySem.F.plainAttrs_list PySem.F.slot_list_pop PySem.F.type_list_pop mt_pop (pe_fld (pv 0) rfl)) rfl)
    (pss_one (ps_fld (pv 0) (pe_slice sl_tupA (pe_fld (pv 0) rfl) po_none (po_some (pe_un un_neg pe_int))) rfl))), ?_⟩
  refine ⟨_, rfl, d, C, dx, _, _, rfl, h1, D.cl, D.nP, lkP, (by show 0 ≤ sizeLine; omega), fun e ne => ?_⟩
  have k0 : Kt T [] H (upd H e (.lst [])) := Kt.new ne
  have g0 : upd H e (.lst []) e = some (.lst []) := upd_same
  generalize upd H e (.lst []) = H0 at k0 g0 ⊢
  have h50 := k0.kp.lst h5 (by simp)
  have h10 := k0.kp.ins h1 (by simp)
  have h60 := h6.kp k0.kp
  have sh : SeqAt.shaped (.list (ps.map dR)) = true := by
    refine Bool.and_eq_true_iff.mpr ⟨lay_all fun x m => ?_, decide_eq_true (Nat.le_trans (Nat.succ_le_succ (dep_all (n := 1) fun x m => ?_)) (by decide))⟩
    · obtain ⟨r, m', rfl⟩ := List.mem_map.mp m
      exact lay_rows (G.okP r m')
    · obtain ⟨r, m', rfl⟩ := List.mem_map.mp m
      exact dep_rows r
  refine ⟨.list (ps.map dR), .list [], .lst (SqL.of h50) (dp_list pps ps h60.1 fun i q x a b => dp_rows (h60.2 i q x a b)), .lst (SqL.of g0) .nil, sh, by decide +kernel, ?_⟩
  rcases hsp with ⟨rfl, hE⟩ | ⟨ps', r, rfl, hl, hQ⟩
  · exact ⟨true, rfl, iteT (hE _ k0)⟩
  · refine ⟨false, ?_, iteF ?_⟩
    · rw [List.map_append]
      cases ps' <;> rfl
    obtain ⟨hlen, hat⟩ := h60
    rcases List.eq_nil_or_concat pps with rfl | ⟨pps', p, rfl⟩
    · rw [List.length_append] at hlen
      simp at hlen
    rw [List.concat_eq_append] at h50 hlen hat
    have hlen' : pps'.length = ps'.length := by simpa using hlen
    have hp : RowsAt H0 p r := hat pps'.length p r (by simp) (by rw [hlen']; simp)
    refine ⟨_, rfl, d, C, dx, _, _, rfl, h10, D.cl, D.nP, lkP, .inl ⟨rfl, _, SqL.of h50⟩, l, _, .ref p, rfl, rfl, h50, (by simp), ?_⟩
    rw [List.map_append, List.map_singleton, List.dropLast_concat]
    have ndl : d ≠ l := ne_of h10 h50 (by intro z; cases z)
    have k1 : Kt T [d, l] H0 (upd H0 l (.lst (pps'.map V.ref))) := Kt.put h50 rfl (by simp)
    have g1 : upd H0 l (.lst (pps'.map V.ref)) d = some (.ins C dx (flds pr pb pd l)) := by
      rw [upd_ne ndl]
      exact h10
    have g2 : upd H0 l (.lst (pps'.map V.ref)) l = some (.lst (pps'.map V.ref)) := upd_same
    generalize upd H0 l (.lst (pps'.map V.ref)) = H1 at k1 g1 g2 ⊢
    refine ⟨_, rfl, d, C, dx, _, rfl, g1, D.cl, D.nR, (by show 4 < 1000; decide), ?_⟩
    rw [flds_putR]
    have k2 : Kt T [d, l] H1 (upd H1 d (.ins C dx (flds p pb pd l))) := Kt.put g1 rfl (by simp)
    have g3 : upd H1 d (.ins C dx (flds p pb pd l)) d = some (.ins C dx (flds p pb pd l)) := upd_same
    have g4 : upd H1 d (.ins C dx (flds p pb pd l)) l = some (.lst (pps'.map V.ref)) := by
      rw [upd_ne ndl.symm]
      exact g2
    generalize upd H1 d (.ins C dx (flds p pb pd l)) = H2 at k2 g3 g4 ⊢
    have kA := (k0.of.trans k1).trans k2
    refine ⟨_, rfl, d, C, dx, _, _, rfl, g3, D.cl, D.nD, lkD, _, rfl, _, rfl, slA_of (T := T) (kA.kp.tup h4) fun p5 H5 k5 hp5 => ?_⟩
    rw [show (-1 : Int) = -1 from rfl, cut_init] at hp5
    have g5 : H5 d = some (.ins C dx (flds p pb pd l)) := k5.kp.ins g3 (by simp)
    have g6 : H5 l = some (.lst (pps'.map V.ref)) := k5.kp.lst g4 (by simp)
    refine ⟨_, rfl, d, C, dx, _, rfl, g5, D.cl, D.nD, (by show 4 < 1000; decide), ?_⟩
    rw [flds_putD]
    have k6 : Kt T [d, l] H5 (upd H5 d (.ins C dx (flds p pb p5 l))) := Kt.put g5 rfl (by simp)
    have kB := (kA.trans k5.of).trans k6
    have kC := ((k1.trans k2).trans k5.of).trans k6
    refine hQ _ kB ⟨⟨dx, p, pb, p5, pps', upd_same, hp.kp kC.kp, h3.kp kB.kp, ⟨qs.dropLast, ?_, ?_, fun i q x a b => ?_⟩, ?_, hlen', fun i q x a b => (hat i q x ?_ ?_).kp kC.kp⟩, hl, ?_, G.okB, fun x m => G.okD x ((List.dropLast_sublist ds).subset m), fun x m => G.okP x (List.mem_append_left _ m), ?_, ?_⟩
    · rw [List.map_dropLast]
      exact k6.kp.tup hp5
    · rw [List.length_dropLast, List.length_dropLast, l4]
    · refine (f4 i q x ?_ ?_).kp kB.kp
      · rw [List.getElem?_dropLast] at a
        split at a
        · exact a
        · cases a
      · rw [List.getElem?_dropLast] at b
        split at b
        · exact b
        · cases b
    · rw [upd_ne ndl.symm]
      exact g6
    · have hi := (List.getElem?_eq_some_iff.mp a).1
      rw [List.getElem?_append_left hi]
      exact a
    · have hi := (List.getElem?_eq_some_iff.mp b).1
      rw [List.getElem?_append_left hi]
      exact b
    · exact G.okP r (by simp)
    · rw [List.length_dropLast]
      have := G.nd
      omega
    · have := G.np
      rw [List.length_append] at this
      omega
theorem ok_text (F : L2.Fun K "text" "Desk.text" sText f fd) (D : Dk K mg C) (cT : ClO prg w K mg base CX0 1 "text_of_rows" (spTextOf T) []) : FnOk prg w K mg base CX0 2 f fd ["self"] (spText C T) := by
  have S := fsText
  refine F.ok S (fun vs H Q E h => by obtain ⟨d, l, b, rs, ds, ps, rfl, _⟩ := h; rfl) fun cdv A outer s H vs Q E hr hsp => ?_
  obtain ⟨d, l, b, rs, ds, ps, rfl, G, hQ⟩ := hsp
  obtain ⟨dx, pr, pb, pd, pps, h1, h2, h3, h4, h5, h6⟩ := G.at_
  refine ⟨_, pss_one (ps_ret (pe_clo cT hr (by decide) rfl (pa_cons (pe_fld (pv 0) rfl) pa_nil))), ?_⟩
  exact ⟨_, rfl, d, C, dx, _, _, rfl, h1, D.cl, D.nR, lkR, pr, rs, rfl, h2, G.nr, G.okR, hQ⟩
theorem ok_eq (F : L2.Fun K "__eq__" "Desk.__eq__" sEq f fd) (N : Nms mg) (D : Dk K mg C) : FnOk prg w K mg base CX0 1 f fd ["self", "other"] (spEq C K T) := by
  have S := fsEq
  refine F.ok S (fun vs H Q E h => by obtain ⟨d, l, b, rs, ds, ps, y, rfl, _⟩ := h; rfl) fun cdv A outer s H vs Q E hr hsp => ?_
  obtain ⟨d, l, b, rs, ds, ps, y, rfl, G, hsp⟩ := hsp
  obtain ⟨dx, pr, pb, pd, pps, h1, h2, h3, h4, h5, h6⟩ := G.at_
  refine ⟨_, pss_one (ps_ret (pe_and (pe_callB call_isi (by rfl) N.n_isinstance (by decide +kernel) (pa_cons (pv 1) (pa_cons (pe_glob (v := .ref C) rfl D.g rfl) pa_nil)))
    (pe_one (pe_cmpR (op_eqD hr.units) (pe_tup (pa_cons (pe_fld (pv 0) rfl) (pa_cons (pe_fld (pv 0) rfl) pa_nil))) (pe_tup (pa_cons (pe_fld (pv 1) rfl) (pa_cons (pe_fld (pv 1) rfl) pa_nil))) (nomark _))))), ?_⟩
  rcases hsp with ⟨d2, l2, b2, rs2, ds2, ps2, r, rfl, G2, ha, hQ⟩ | ⟨t, ty, e, hQ⟩
  · obtain ⟨dx2, pr2, pb2, pd2, pps2, i1, i2, i3, i4, i5, i6⟩ := G2.at_
    refine ⟨_, rfl, _, _, _, _, true, rfl, .own C, .base (.ins i1 D.cl D.ca D.hn D.ht D.mo), D.kI, true, rfl, ?_⟩
    refine ⟨_, rfl, d, C, dx, _, _, rfl, h1, D.cl, D.nB, lkB, _, rfl, d, C, dx, _, _, rfl, h1, D.cl, D.nD, lkD, (by show 2 ≤ sizeLine; decide), fun t1 n1 => ?_⟩
    have k1 : Kt T [] H (upd H t1 (.tup [.ref pb, .ref pd])) := Kt.new n1
    have g1 : upd H t1 (.tup [.ref pb, .ref pd]) t1 = some (.tup [.ref pb, .ref pd]) := upd_same
    generalize upd H t1 (.tup [.ref pb, .ref pd]) = H1 at k1 g1 ⊢
    have j1 := k1.kp.ins i1 (by simp)
    refine ⟨_, rfl, d2, C, dx2, _, _, rfl, j1, D.cl, D.nB, lkB, _, rfl, d2, C, dx2, _, _, rfl, j1, D.cl, D.nD, lkD, (by show 2 ≤ sizeLine; decide), fun t2 n2 => ?_⟩
    have k2 : Kt T [] H1 (upd H1 t2 (.tup [.ref pb2, .ref pd2])) := Kt.new n2
    have g2 : upd H1 t2 (.tup [.ref pb2, .ref pd2]) t2 = some (.tup [.ref pb2, .ref pd2]) := upd_same
    generalize upd H1 t2 (.tup [.ref pb2, .ref pd2]) = H2 at k2 g2 ⊢
    have kk := k1.trans k2
    have z := hQ H2 kk
    rw [← eqv_T ha G.okB G.okD] at z
    exact ⟨dT b ds, dT b2 ds2, .tup (SqT.of (k2.kp.tup g1)) (.cons (dp_rows (h3.kp kk.kp)) (.cons (dp_deeds (h4.kp kk.kp)) .nil)), .tup (SqT.of g2) (.cons (dp_rows (i3.kp kk.kp)) (.cons (dp_deeds (i4.kp kk.kp)) .nil)), shaped_T G.okB G.okD, shaped_T G2.okB G2.okD, z⟩
  · exact ⟨_, rfl, _, _, _, _, false, rfl, .own C, ty, e, false, rfl, hQ⟩
end
end K11
set_option maxHeartbeats 4000000
/-! M16: the law's draws. -/
namespace K11
open PySem PySem.Spec L2 DL LamX
open PySem.W (Frag keepIn findIn typeIn subIn mroIn specialIn takesIn kitOne kitAny excIn notFirst)
open PyProof.Rows hiding St wpAt wpAt_bind wpAt_stack wpAt_mono
/-- at a: the draws, n of them taken -/
def Dr (H : Hp) (a : Addr) (n : Nat) : Prop := ∃ f s : Int, H a = some (.lst [.int f, .int s, .int n]) ∧ 0 ≤ s ∧ s < 2147483549
def spTake : Sp := fun vs H Q _ => ∃ (a : Addr) (m : Int) (n : Nat), vs = [.ref a, .int m] ∧ Dr H a n ∧ n ≤ 1000 ∧ 0 < m ∧ m < 1000000 ∧
  ∀ r f s : Int, 0 ≤ r → r < m → 0 ≤ s → s < 2147483549 → Q (.int r) (upd H a (.lst [.int f, .int s, .int (n + 1 : Nat)]))
section
variable {w : World} {K : PySem.W.Frag} {mg : Str → Option Value} {base : Heap} {f : Addr} {fd : FuncData}
theorem ok_take (F : L2.Fun K "_law_take" "_law_take" sTake f fd) (T : Nms mg) : FnG prg w K mg base 1 f fd ["draws", "many"] spTake := by
  have S := fsTake
  refine fnG_mk F S (fun vs H Q E h => by obtain ⟨a, m, n, rfl, _⟩ := h; rfl) fun cdv A outer s H vs Q E hr gd hsp => ?_
  obtain ⟨a, m, n, rfl, ⟨fg, sd, hd, hs0, hs1⟩, hn, hm0, hm1, hq⟩ := hsp
  refine ⟨_, (pss_cons (ps_asg (pv 0) (pg_unl rfl (pgs_cons (pg_name (i := 2) S.nd rfl (Or.inl rfl)) (pgs_cons (pg_name (i := 3) S.nd rfl (Or.inl rfl)) (pgs_cons (pg_name (i := 4) S.nd rfl (Or.inl rfl)) pgs_nil)))))
    (pss_cons (ps_asg (pe_op op_modN (pe_callTy call_int1 (by rfl) T.n_int (by decide +kernel) (pa_cons (pe_op op_add (pe_op op_add (pe_op op_mul (pv 3) (pe_op op_add pe_int (pe_op op_mul pe_int (pv 4)))) (pe_op op_mul pe_int (pv 4))) pe_int) pa_nil)) pe_int) (pg_sub (pv 0) pe_int set_list))
    (pss_cons (ps_asg (pe_op op_add (pv 4) pe_int) (pg_sub (pv 0) pe_int set_list))
    (pss_cons (ps_if (pt_cmpR op_gt (pv 2) pe_int (nomark _)) (pss_cons (ps_asg (pe_op op_fdivN (pe_callTy call_int1 (by rfl) T.n_int (by decide +kernel) (pa_cons (pv 2) pa_nil)) (pv 1)) (pg_sub (pv 0) pe_int set_list))
    (pss_one (ps_ret (pe_op op_modN (pe_callTy call_int1 (by rfl) T.n_int (by decide +kernel) (pa_cons (pv 2) pa_nil)) (pv 1))))) pss_nil)
    (pss_one (ps_ret (pe_op op_modN (pe_callTy call_int1 (by rfl) T.n_int (by decide +kernel) (pa_cons (pe_op op_fdivN (pe_ix ix_list (pv 0) pe_int (fun _ _ => rfl)) pe_int) pa_nil)) (pv 1)))))))), ?_⟩
  refine ⟨_, rfl, a, _, rfl, SqL.of hd, rfl, _, _, rfl, _, _, rfl, _, _, rfl, rfl, ?_⟩
  -- draws[1] = ..
  refine ⟨_, rfl, _, rfl, _, _, rfl, rfl, .inl ⟨by decide, by decide⟩, _, _, rfl, rfl, _, _, rfl, rfl, .inl ⟨by omega, by omega⟩, ?_⟩
  refine ⟨_, rfl, _, _, rfl, rfl, .inl ⟨by decide, by decide⟩, _, _, rfl, rfl, _, _, rfl, rfl, .inl ⟨_, rfl, _, _, rfl, rfl, (by show (2147483549 : Int) ≠ 0; decide), ?_⟩⟩
  refine ⟨_, rfl, a, _, _, 1, rfl, rfl, hd, rfl, ?_⟩
  -- draws[2] = turn + 1
  refine ⟨_, rfl, _, _, rfl, rfl, _, rfl, a, _, _, 2, rfl, rfl, upd_same, rfl, ?_⟩
  -- if figures > 0
  refine ⟨_, rfl, _, _, rfl, rfl, _, rfl, ite2 (fun hp => ?_) fun hp => ?_⟩
  · refine ⟨_, rfl, .inl ⟨_, rfl, _, rfl, _, _, rfl, rfl, ⟨by omega, by omega⟩, ?_⟩⟩
    refine ⟨_, rfl, a, _, _, 0, rfl, rfl, upd_same, rfl, ?_⟩
    refine ⟨_, rfl, .inl ⟨_, rfl, _, rfl, _, _, rfl, rfl, by omega, ?_⟩⟩
    show Q (.int _) (upd (upd (upd H a _) a _) a _)
    rw [upd_upd, upd_upd]
    exact hq _ _ _ (Int.fmod_nonneg_of_pos _ hm0) (Int.fmod_lt_of_pos _ hm0) (Int.fmod_nonneg_of_pos _ (by decide)) (Int.fmod_lt_of_pos _ (by decide))
  · refine ⟨_, rfl, a, _, _, _, rfl, rfl, SqL.of upd_same, rfl, _, _, rfl, rfl, ⟨by decide, by decide⟩, .inl ⟨_, rfl, _, rfl, _, _, rfl, rfl, by omega, ?_⟩⟩
    show Q (.int _) (upd (upd H a _) a _)
    rw [upd_upd]
    exact hq _ _ _ (Int.fmod_nonneg_of_pos _ hm0) (Int.fmod_lt_of_pos _ hm0) (Int.fmod_nonneg_of_pos _ (by decide)) (Int.fmod_lt_of_pos _ (by decide))

def spPick : Sp := fun vs H Q _ => ∃ (a p : Addr) (n : Nat) (xs : List V), vs = [.ref a, .ref p] ∧ Dr H a n ∧ n ≤ 1000 ∧ H p = some (.lst xs) ∧ p ≠ a ∧ 0 < xs.length ∧ xs.length < 1000000 ∧
  ∀ (v : V) (f s : Int), v ∈ xs → 0 ≤ s → s < 2147483549 → Q v (upd H a (.lst [.int f, .int s, .int (n + 1 : Nat)]))
theorem ok_pick (F : L2.Fun K "_law_pick" "_law_pick" sPick f fd) (T : Nms mg) (c_law_take : Clb prg w K mg base 1 "_law_take" spTake []) : FnG prg w K mg base 2 f fd ["draws", "some"] spPick := by
  have S := fsPick
  refine fnG_mk F S (fun vs H Q E h => by obtain ⟨a, p, n, xs, rfl, _⟩ := h; rfl) fun cdv A outer s H vs Q E hr gd hsp => ?_
  obtain ⟨a, p, n, xs, rfl, hd, hn, hp, hap, hl0, hl1, hq⟩ := hsp
  refine ⟨_, (pss_one (ps_ret (pe_ix ix_list (pv 1) (pe_clb c_law_take hr (by decide) gd rfl (pa_cons (pv 0) (pa_cons (pe_callB call_len_seq (by rfl) T.n_len (by decide +kernel) (pa_cons (pv 1) pa_nil)) pa_nil))) (fun _ _ => rfl)))), ?_⟩
  refine ⟨_, rfl, _, rfl, _, rfl, p, xs, rfl, .inl (SqL.of hp), a, _, n, rfl, hd, hn, by omega, by omega, fun r f s r0 r1 s0 s1 => ?_⟩
  obtain ⟨j, rfl⟩ := Int.eq_ofNat_of_zero_le r0
  have hj : j < xs.length := by omega
  refine ⟨p, xs, _, xs[j], rfl, rfl, SqL.of (by rw [upd_ne hap]; exact hp), atI_nat (by simp [hj]), ?_⟩
  exact hq _ _ _ (List.getElem_mem hj) s0 s1
/-- the seed that the draws begin with -/
def spPurse (K : PySem.W.Frag) : Sp := fun vs H Q _ => ∃ (a : Addr) (ns : List Int) (i : Nat), vs = [.ref a, .int i] ∧ SqL K H a (ns.map V.int) ∧ ns.length ≤ 63 ∧ i ≤ 2 ∧ ∀ H' p, Same H H' → H p = none → Dr H' p 0 → Q (.ref p) H'
theorem ok_purse (F : L2.Fun K "_law_purse" "_law_purse" sPurse f fd) (T : Nms mg) : FnG prg w K mg base 1 f fd ["cells", "at"] (spPurse K) := by
  have S := fsPurse
  refine fnG_mk F S (fun vs H Q E h => by obtain ⟨a, ns, i, rfl, _⟩ := h; rfl) fun cdv A outer s H vs Q E hr gd hsp => ?_
  obtain ⟨a, ns, i, rfl, hL, hl, hi, hq⟩ := hsp
  refine ⟨_, (pss_cons (ps_set (i := 2) S.nd rfl (Or.inl rfl) (pe_ifExp (pt_cmpR op_lt (pv 1) (pe_callB call_len_seq (by rfl) T.n_len (by decide +kernel) (pa_cons (pv 0) pa_nil)) (nomark _)) (pe_ix ix_list (pv 0) (pv 1) (fun _ _ => rfl)) pe_int))
    (pss_cons (ps_set (i := 3) S.nd rfl (Or.inl rfl) (pe_op op_modN (pe_callTy call_int1 (by rfl) T.n_int (by decide +kernel) (pa_cons (pe_op op_add (pe_op op_add (pe_op op_mul (pv 2) pe_int) (pe_op op_mul (pv 1) pe_int)) pe_int) pa_nil)) pe_int))
    (pss_cons (ps_for PassesOwn.never rfl (pi_list (pe_ifExp (pt_cmpR op_ge (pv 1) (pe_callB call_len_seq (by rfl) T.n_len (by decide +kernel) (pa_cons (pv 0) pa_nil)) (nomark _)) (pe_slice sl_list (pv 0) po_none (po_some pe_int)) (pe_lst pa_nil))) (pg_name (i := 4) S.nd rfl (Or.inl rfl)) (pss_one (ps_set (i := 3) S.nd rfl (Or.inl rfl) (pe_op op_modN (pe_callTy call_int1 (by rfl) T.n_int (by decide +kernel) (pa_cons (pe_op op_add (pe_op op_mul (pv 3) pe_int) (pv 4)) pa_nil)) pe_int))))
    (pss_one (ps_ret (pe_lst (pa_cons (pe_ifExp (pt_cmpR op_ge (pe_callB call_abs (by rfl) T.n_abs (by decide +kernel) (pa_cons (pv 2) pa_nil)) (pe_op op_pow pe_int pe_int) (nomark _)) (pe_op op_modN (pe_callTy call_int1 (by rfl) T.n_int (by decide +kernel) (pa_cons (pe_callB call_abs (by rfl) T.n_abs (by decide +kernel) (pa_cons (pv 2) pa_nil)) pa_nil)) (pe_op op_mulW (pe_op op_mulW (pe_op op_pow pe_int pe_int) (pe_op op_pow pe_int pe_int)) (pe_op op_pow pe_int pe_int))) pe_int) (pa_cons (pv 3) (pa_cons pe_int pa_nil))))))))), ?_⟩
  refine ⟨_, rfl, _, rfl, _, _, rfl, .inl hL, _, _, rfl, rfl, _, rfl, ?_⟩
  refine (show ∀ P : V → Hp → Prop, (∀ c : Int, P (.int c) H) → (if decide ((i : Int) < ((ns.map V.int).length : Int)) = true then tOp (rIxL K) (tVar 0) (tVar 1) (L2.start nPurse [V.ref a, V.int i]) H P else tC (.int 0) (L2.start nPurse [V.ref a, V.int i]) H P) from fun P hP => ite2 (fun hlt => ?_) fun _ => hP 0) _ fun c => ?_
  · have hlt' : i < ns.length := by simpa using of_decide_eq_true hlt
    refine ⟨_, rfl, _, rfl, a, _, _, V.int ns[i], rfl, rfl, hL, atI_nat (by simp [hlt']), hP _⟩
  -- the seed
  refine ⟨_, rfl, _, _, rfl, rfl, .inr ⟨by decide, by decide⟩, _, rfl, _, _, rfl, rfl, .inr ⟨by decide, by decide⟩, _, _, rfl, rfl, _, _, rfl, rfl, .inl ⟨_, rfl, _, _, rfl, rfl, (by show (2147483549 : Int) ≠ 0; decide), ?_⟩⟩
  have b0 : 0 ≤ Int.fmod (c * 20011 + (i : Int) * 82003 + 1009) 2147483549 := Int.fmod_nonneg_of_pos _ (by decide)
  have b1 : Int.fmod (c * 20011 + (i : Int) * 82003 + 1009) 2147483549 < 2147483549 := Int.fmod_lt_of_pos _ (by decide)
  refine ⟨_, rfl, _, rfl, _, _, rfl, .inl hL, _, _, rfl, rfl, _, rfl, ?_⟩
  refine (show ∀ P : V → Hp → Prop, (∀ p (ms : List Int), H p = none → P (.ref p) (upd H p (.lst (ms.map V.int)))) →
    (if decide ((((ns.map V.int).length : Nat) : Int) ≤ (i : Int)) = true then tSl (rSlL K) (tVar 0) tNoPart (tPart (tC (.int 4))) (((L2.start nPurse [V.ref a, V.int i]).set 2 (some (.int c))).set 3 (some (.int (Int.fmod (c * 20011 + (i : Int) * 82003 + 1009) 2147483549)))) H P
      else tLst tNil (((L2.start nPurse [V.ref a, V.int i]).set 2 (some (.int c))).set 3 (some (.int (Int.fmod (c * 20011 + (i : Int) * 82003 + 1009) 2147483549)))) H P) from fun P hP => ite2 (fun _ => ?_) fun _ => ?_) _ fun p ms hp => ?_
  · refine ⟨_, rfl, _, rfl, a, _, rfl, hL, fun p hp => ?_⟩
    have e : cutV (ns.map V.int) none (some 4) = ((ns.drop (HT.sIx (ns.map V.int).length 0 none)).take (HT.sIx (ns.map V.int).length (ns.map V.int).length (some 4) - HT.sIx (ns.map V.int).length 0 none)).map V.int := by
      unfold cutV
      rw [List.map_take, List.map_drop]
    rw [e]
    exact hP p _ hp
  · refine ⟨by show 0 ≤ sizeLine; omega, fun p hp => ?_⟩
    exact hP p [] hp
  have sm : Same H (upd H p (.lst (ms.map V.int))) := fun b o e => by
    rw [upd_ne (ne_of_none e hp)]
    exact e
  refine ⟨p, rfl, ⟨_, SqL.of upd_same⟩, for_list (xs := ms.map V.int) (fun _ σ H' => H' = upd H p (.lst (ms.map V.int)) ∧ ∃ (s : Int) (o : Option V), 0 ≤ s ∧ s < 2147483549 ∧ σ = [some (.ref a), some (.int i), some (.int c), some (.int s), o]) ⟨rfl, _, none, b0, b1, rfl⟩ (fun _ _ _ _ h => by rw [h.1]; exact SqL.of upd_same) (fun j x σ H' hx h => ?_) fun σ H' h => ?_⟩
  · obtain ⟨rfl, s, o, s0', s1', rfl⟩ := h
    obtain ⟨y, _, rfl⟩ := List.mem_map.mp (List.mem_of_getElem? hx)
    refine ⟨_, rfl, _, _, rfl, rfl, .inl ⟨by omega, by omega⟩, _, rfl, _, _, rfl, rfl, .inl ⟨_, rfl, _, _, rfl, rfl, (by show (2147483549 : Int) ≠ 0; decide), ?_⟩⟩
    exact ⟨rfl, _, some (.int y), Int.fmod_nonneg_of_pos _ (by decide), Int.fmod_lt_of_pos _ (by decide), rfl⟩
  · obtain ⟨rfl, s, o, s0', s1', rfl⟩ := h
    refine ⟨_, rfl, _, rfl, _, _, rfl, rfl, ⟨by decide, by decide, by decide⟩, _, _, rfl, rfl, _, rfl, ?_⟩
    refine (show ∀ P : V → Hp → Prop, (∀ z : Int, P (.int z) _) → (if _ = true then tOp (rI (fun x j => j ≠ 0) fun i j => V.int (i.fmod j)) _ _ _ _ P else tC (.int 0) _ _ P) from fun P hP => ite2 (fun _ => ?_) fun _ => hP 0) _ fun z => ?_
    · refine ⟨_, rfl, _, rfl, .inl ⟨_, rfl, ?_⟩⟩
      refine ⟨_, _, rfl, rfl, ⟨by decide, by decide, by decide⟩, _, _, rfl, rfl, ⟨by decide, by decide, by decide⟩, _, _, rfl, rfl, (by unfold CMulW; decide +kernel), ?_⟩
      exact ⟨_, _, rfl, rfl, ⟨by decide, by decide, by decide⟩, _, _, rfl, rfl, (by unfold CMulW; decide +kernel), _, _, rfl, rfl, (by show ((10 : Int) ^ Int.toNat 64 * 10 ^ Int.toNat 64 * 10 ^ Int.toNat 64) ≠ 0; decide +kernel), hP _⟩
    · refine ⟨_, rfl, by show 3 ≤ sizeLine; decide, fun q hq' => ?_⟩
      have sm2 : Same (upd H p (.lst (ms.map V.int))) (upd (upd H p (.lst (ms.map V.int))) q (.lst [.int z, .int s, .int 0])) := fun b o e => by
        rw [upd_ne (ne_of_none e hq')]
        exact e
      exact hq _ q (sm.trans sm2) (sm.free hq') ⟨z, s, upd_same, s0', s1'⟩
/-- the draws behind, all else is kept -/
theorem Dr.kt {H : Hp} {a : Addr} {n : Nat} {T : List (Addr × Str)} (h : Dr H a n) (f s : Int) (m : Nat) : Kt T [a] H (upd H a (.lst [.int f, .int s, .int m])) := by
  obtain ⟨f', s', e, _⟩ := h
  exact Kt.put e rfl (by simp)
theorem Dr.new {H : Hp} {a : Addr} {f s : Int} {m : Nat} (h0 : 0 ≤ s) (h1 : s < 2147483549) : Dr (upd H a (.lst [.int f, .int s, .int m])) a m := ⟨f, s, upd_same, h0, h1⟩
theorem Dr.kp {H H' : Hp} {a : Addr} {n : Nat} {D : List Addr} (h : Dr H a n) (k : Kp D H H') (m : a ∉ D) : Dr H' a n := by
  obtain ⟨f, s, e, h0, h1⟩ := h
  exact ⟨f, s, k.lst e m, h0, h1⟩
end
end K11
set_option maxHeartbeats 4000000
/-! M17: what a told thing shows; a deed by the law. -/
namespace K11
open PySem PySem.Spec L2 DL LamX
open PySem.W (Frag keepIn findIn typeIn subIn mroIn specialIn takesIn kitOne kitAny excIn notFirst)
open PyProof.Rows hiding St wpAt wpAt_bind wpAt_stack wpAt_mono
/-! ### lengths -/
theorem app_len (a b : Str) : (a ++ b).length = a.length + b.length := by
  show (a.cps ++ b.cps).size = _
  rw [Array.size_append]
  rfl
theorem from_len : ∀ (ts : List Str) (k : Nat) (acc : Str), (textFrom k acc ts).length ≤ acc.length + piled ts
  | [], _, _ => Nat.le_add_right _ _
  | t :: ts, k, acc => by
    have ih := from_len ts (k + 1) (acc ++ (if k > 0 then ", " else "" : String) ++ t)
    rw [app_len, app_len] at ih
    rw [piled_cons]
    have e : (((if k > 0 then ", " else "" : String) : Str)).length ≤ 2 := by
      split
      · exact Nat.le_refl _
      · exact Nat.zero_le _
    show (textFrom (k + 1) _ ts).length ≤ _
    omega
theorem list_len (ts : List Str) : (listText ts).length ≤ piled ts + 2 := by
  have := from_len ts 0 "["
  unfold listText
  rw [app_len]
  have e1 : (("[" : String) : Str).length = 1 := rfl
  have e2 : (("]" : String) : Str).length = 1 := rfl
  omega
theorem tup_len (ts : List Str) : (tupleText ts).length ≤ piled ts + 3 := by
  unfold tupleText
  rw [app_len, app_len]
  have e1 : (("(" : String) : Str).length = 1 := rfl
  have e2 : (((if ts.length == 1 then ",)" else ")" : String) : Str)).length ≤ 2 := by
    split
    · exact Nat.le_refl _
    · exact Nat.le_succ _
  by_cases h : ts = []
  · subst h
    have : (Str.join ", " []).length = 0 := rfl
    omega
  · have := join_length_add ts h
    omega
theorem piled_le {ts : List Str} {n : Nat} (h : ∀ t ∈ ts, t.length ≤ n) : piled ts ≤ ts.length * (n + 2) := by
  induction ts with
  | nil => exact Nat.zero_le _
  | cons t ts ih =>
    rw [piled_cons, List.length_cons, Nat.succ_mul]
    have := ih fun x m => h x (List.mem_cons_of_mem _ m)
    have := h t List.mem_cons_self
    omega
theorem shown_all (l : List PyData) : PyData.shownAll l = l.map PyData.shown := by
  induction l with
  | nil => rfl
  | cons x l ih => exact congrArg (PyData.shown x :: ·) ih
theorem show_row {r : Str} (h : okS r = true) : (PyData.shown (.str r)).length ≤ 2002 := by
  have := StrLaws.reprText_len r fun c m => Nat.lt_trans (okS_c h c m) (by decide)
  have := okR_len (okS_R h)
  show (reprText r).length ≤ _
  omega
theorem show_tup {l : List PyData} {n m : Nat} (h : ∀ d ∈ l, d.shown.length ≤ n) (hl : l.length ≤ m) : (PyData.shown (.tuple l)).length ≤ m * (n + 2) + 3 := by
  show (tupleText (PyData.shownAll l)).length ≤ _
  rw [shown_all]
  have h1 := tup_len (l.map PyData.shown)
  have h2 := piled_le (ts := l.map PyData.shown) (n := n) fun t mt => by
    obtain ⟨d, md, rfl⟩ := List.mem_map.mp mt
    exact h d md
  rw [List.length_map] at h2
  have := Nat.mul_le_mul_right (n + 2) hl
  omega
theorem show_list {l : List PyData} {n m : Nat} (h : ∀ d ∈ l, d.shown.length ≤ n) (hl : l.length ≤ m) : (PyData.shown (.list l)).length ≤ m * (n + 2) + 2 := by
  show (listText (PyData.shownAll l)).length ≤ _
  rw [shown_all]
  have h1 := list_len (l.map PyData.shown)
  have h2 := piled_le (ts := l.map PyData.shown) (n := n) fun t mt => by
    obtain ⟨d, md, rfl⟩ := List.mem_map.mp mt
    exact h d md
  rw [List.length_map] at h2
  have := Nat.mul_le_mul_right (n + 2) hl
  omega
theorem show_small : ∀ i : Fin 31, (PyData.shown (.int ((i.val : Nat) : Int))).length ≤ 2002 ∧ PyData.showable (.int ((i.val : Nat) : Int)) = true := by decide +kernel
theorem show_int {i : Nat} (h : i ≤ 30) : (PyData.shown (.int (i : Int))).length ≤ 2002 ∧ PyData.showable (.int (i : Int)) = true := show_small ⟨i, by omega⟩
theorem show_deed {d : Dd} (h : okD d) : (dD d).shown.length ≤ 6015 := by
  have q1 : (PyData.shown (.str "put")).length ≤ 2002 := by decide +kernel
  have q2 : (PyData.shown (.str "row")).length ≤ 2002 := by decide +kernel
  have q3 : (PyData.shown (.str "out")).length ≤ 2002 := by decide +kernel
  have all3 : ∀ {a b c : PyData}, a.shown.length ≤ 2002 → b.shown.length ≤ 2002 → c.shown.length ≤ 2002 → (PyData.shown (.tuple [a, b, c])).length ≤ 6015 := fun {a b c} x y z => show_tup (m := 3) (n := 2002) (fun d m => by
    simp only [List.mem_cons, List.not_mem_nil, or_false] at m
    rcases m with rfl | rfl | rfl
    · exact x
    · exact y
    · exact z) (Nat.le_refl _)
  have all2 : ∀ {a b : PyData}, a.shown.length ≤ 2002 → b.shown.length ≤ 2002 → (PyData.shown (.tuple [a, b])).length ≤ 6015 := fun {a b} x y => Nat.le_trans (show_tup (m := 2) (n := 2002) (fun d m => by
    simp only [List.mem_cons, List.not_mem_nil, or_false] at m
    rcases m with rfl | rfl
    · exact x
    · exact y) (Nat.le_refl _)) (by decide)
  cases d with
  | put i r => exact all3 q1 (show_int h.1).1 (show_row h.2)
  | row i r => exact all3 q2 (show_int h.1).1 (show_row h.2)
  | out i => exact all2 q3 (show_int h).1
theorem able_all {l : List PyData} (h : ∀ d ∈ l, d.showable = true) : PyData.showableAll l = true := by
  induction l with
  | nil => rfl
  | cons d l ih => exact Bool.and_eq_true_iff.mpr ⟨h d List.mem_cons_self, ih fun x m => h x (List.mem_cons_of_mem _ m)⟩
theorem able2 {a b : PyData} (h1 : a.showable = true) (h2 : b.showable = true) : (PyData.tuple [a, b]).showable = true := able_all fun d m => by
  simp only [List.mem_cons, List.not_mem_nil, or_false] at m
  rcases m with rfl | rfl
  · exact h1
  · exact h2
theorem able3 {a b c : PyData} (h1 : a.showable = true) (h2 : b.showable = true) (h3 : c.showable = true) : (PyData.tuple [a, b, c]).showable = true := able_all fun d m => by
  simp only [List.mem_cons, List.not_mem_nil, or_false] at m
  rcases m with rfl | rfl | rfl
  · exact h1
  · exact h2
  · exact h3
theorem able_deed {d : Dd} (h : okD d) : (dD d).showable = true := by
  cases d with
  | put i r => exact able3 rfl (show_int h.1).2 rfl
  | row i r => exact able3 rfl (show_int h.1).2 rfl
  | out i => exact able2 rfl (show_int h).2
/-- [rows, deeds] -/
abbrev dL (rs : List Str) (ds : List Dd) : PyData := .list [dR rs, .tuple (ds.map dD)]
theorem show_dL {rs : List Str} {ds : List Dd} (h1 : ∀ r ∈ rs, okS r = true) (l1 : rs.length ≤ 20) (h2 : ∀ d ∈ ds, okD d) (l2 : ds.length ≤ 500) : (dL rs ds).shown.length ≤ sizeLine ∧ (dL rs ds).showable = true ∧ (dL rs ds).depth ≤ 100 := by
  have sl : sizeLine = 16777216 := sizeLine_eq
  refine ⟨?_, able_all fun d m => ?_, Nat.le_trans (Nat.succ_le_succ (dep_all (n := 2) fun d m => ?_)) (by decide)⟩
  · rw [sl]
    refine Nat.le_trans (show_list (m := 2) (n := 3100000) (fun d m => ?_) (Nat.le_refl _)) (by decide)
    simp only [List.mem_cons, List.not_mem_nil, or_false] at m
    rcases m with rfl | rfl
    · refine Nat.le_trans (show_tup (m := 20) (n := 2002) (fun d m => ?_) (by rw [List.length_map]; exact l1)) (by decide)
      obtain ⟨r, mr, rfl⟩ := List.mem_map.mp m
      exact show_row (h1 r mr)
    · refine Nat.le_trans (show_tup (m := 500) (n := 6015) (fun d m => ?_) (by rw [List.length_map]; exact l2)) (by decide)
      obtain ⟨r, mr, rfl⟩ := List.mem_map.mp m
      exact show_deed (h2 r mr)
  · simp only [List.mem_cons, List.not_mem_nil, or_false] at m
    rcases m with rfl | rfl
    · exact able_all fun d m => by
        obtain ⟨r, mr, rfl⟩ := List.mem_map.mp m
        rfl
    · exact able_all fun d m => by
        obtain ⟨r, mr, rfl⟩ := List.mem_map.mp m
        exact able_deed (h2 r mr)
  · simp only [List.mem_cons, List.not_mem_nil, or_false] at m
    rcases m with rfl | rfl
    · exact Nat.le_trans (dep_rows rs) (by decide)
    · exact dep_deeds ds
theorem rz_row {H : Hp} : ∀ rs : List Str, RzAll H (rs.map V.str) (rs.map PyData.str)
  | [] => .nil
  | r :: rs => .cons (.str r) (rz_row rs)
theorem rz_rows {H : Hp} {p : Addr} {rs : List Str} (h : RowsAt H p rs) : Rz H (.ref p) (dR rs) := .tup h (rz_row rs)
theorem rz_deed {H : Hp} {q : Addr} {d : Dd} (h : DeedAt H q d) : Rz H (.ref q) (dD d) := by
  cases d with
  | put i r => exact .tup h (.cons (.str _) (.cons (.int _) (.cons (.str _) .nil)))
  | row i r => exact .tup h (.cons (.str _) (.cons (.int _) (.cons (.str _) .nil)))
  | out i => exact .tup h (.cons (.str _) (.cons (.int _) .nil))
theorem rz_list {H : Hp} {α : Type} {g : α → PyData} : ∀ (qs : List Addr) (ds : List α), qs.length = ds.length → (∀ (i : Nat) q d, qs[i]? = some q → ds[i]? = some d → Rz H (.ref q) (g d)) → RzAll H (qs.map V.ref) (ds.map g)
  | [], [], _, _ => .nil
  | q :: qs, d :: ds, l, f => .cons (f 0 q d rfl rfl) (rz_list qs ds (Nat.succ.inj l) fun i q d a b => f (i + 1) q d a b)
theorem rz_deeds {H : Hp} {p : Addr} {ds : List Dd} (h : DeedsAt H p ds) : Rz H (.ref p) (.tuple (ds.map dD)) := by
  obtain ⟨qs, e, l, f⟩ := h
  exact .tup e (rz_list qs ds l fun i q d a b => rz_deed (f i q d a b))
/-- equal things are the same -/
def spSame : Sp := fun vs H Q _ => ∃ (x y : V) (d : PyData), vs = [x, y] ∧ Rz H x d ∧ Rz H y d ∧ d.showable = true ∧ d.shown.length ≤ sizeLine ∧ d.depth ≤ 100 ∧ Q (.bl true) H
def spMove (T : List (Addr × Str)) : Sp := fun vs H Q _ => ∃ (p q : Addr) (rs : List Str) (d : Dd), vs = [.ref p, .ref q] ∧ RowsAt H p rs ∧ DeedAt H q d ∧ rs.length ≤ 20 ∧
  (∀ w, mv rs d = .inl w → ∀ H', Kt T [] H H' → Q (.str w) H') ∧ ∀ rs', mv rs d = .inr rs' → ∀ p' H', Kt T [] H H' → RowsAt H' p' rs' → Q (.ref p') H'
def spIsSo (C : Addr) (T : List (Addr × Str)) : Sp := fun vs H Q _ => ∃ (d l p pd : Addr) (b rs : List Str) (ds : List Dd) (ps : List (List Str)), vs = [.ref d, .ref p, .ref pd] ∧ GoodD C H d l b rs ds ps ∧ RowsAt H p rs ∧ DeedsAt H pd ds ∧ ∀ H', Kt T [] H H' → Q (.bl true) H'
section
variable {w : World} {K : Frag} {mg : Str → Option Value} {base : Heap} {f : Addr} {fd : FuncData} {T : List (Addr × Str)} {C : Addr}
theorem ok_same (F : L2.Fun K "_law_same" "_law_same" sSame f fd) (N : Nms mg) : FnG prg w K mg base 1 f fd ["told", "due"] spSame := by
  have S := fsSame
  refine fnG_mk F S (fun vs H Q E h => by obtain ⟨x, y, d, rfl, _⟩ := h; rfl) fun cdv A outer s H vs Q E hr gd hsp => ?_
  obtain ⟨x, y, d, rfl, r1, r2, h1, h2, h3, hQ⟩ := hsp
  have hu : (A.deeper (envOfC "_law_same" (defScope sSame) s.heap.objs.size f cdv)).units + 200 < cLine := by have := hr.un; omega
  refine ⟨_, pss_one (ps_ret (pe_cmpR op_eq (pe_callB (call_reprZ gd hu) (by rfl) N.n_repr (by decide +kernel) (pa_cons (pv 0) pa_nil)) (pe_callB (call_reprZ gd hu) (by rfl) N.n_repr (by decide +kernel) (pa_cons (pv 1) pa_nil)) (nomark _))), ?_⟩
  refine ⟨_, rfl, x, d, rfl, r1, h1, h2, h3, _, rfl, y, d, rfl, r2, h1, h2, h3, rfl, ?_⟩
  rw [decide_eq_true rfl]
  exact hQ
theorem ok_isSo (F : L2.Fun K "_law_is_so" "_law_is_so" sIsSo f fd) (D : Dk K mg C) (cS : Clb prg w K mg base 1 "_law_same" spSame []) : FnG prg w K mg base 2 f fd ["desk", "rows", "deeds_here"] (spIsSo C T) := by
  have S := fsIsSo
  refine fnG_mk F S (fun vs H Q E h => by obtain ⟨d, l, p, pd, b, rs, ds, ps, rfl, _⟩ := h; rfl) fun cdv A outer s H vs Q E hr gd hsp => ?_
  obtain ⟨d, l, p, pd, b, rs, ds, ps, rfl, G, hp, hpd, hQ⟩ := hsp
  obtain ⟨dx, pr, pb, qd, pps, h1, h2, h3, h4, h5, h6⟩ := G.at_
  obtain ⟨e1, e2, e3⟩ := show_dL G.okR G.nr G.okD G.nd
  refine ⟨_, pss_one (ps_ret (pe_clb cS hr (by decide) gd rfl (pa_cons (pe_lstB (pa_cons (pe_fld (pv 0) rfl) (pa_cons (pe_fld (pv 0) rfl) pa_nil))) (pa_cons (pe_lstB (pa_cons (pv 1) (pa_cons (pv 2) pa_nil))) pa_nil)))), ?_⟩
  refine ⟨_, rfl, d, C, dx, _, _, rfl, h1, D.cl, D.nR, lkR, _, rfl, d, C, dx, _, _, rfl, h1, D.cl, D.nD, lkD, (by show 2 ≤ sizeLine; decide), fun t1 n1 z1 => ?_⟩
  have k1 : Kt T [] H (upd H t1 (.lst [.ref pr, .ref qd])) := Kt.new n1
  have g1 : upd H t1 (.lst [.ref pr, .ref qd]) t1 = some (.lst [.ref pr, .ref qd]) := upd_same
  generalize upd H t1 (.lst [.ref pr, .ref qd]) = H1 at k1 g1 ⊢
  refine ⟨_, rfl, _, rfl, (by show 2 ≤ sizeLine; decide), fun t2 n2 z2 => ?_⟩
  have k2 : Kt T [] H1 (upd H1 t2 (.lst [.ref p, .ref pd])) := Kt.new n2
  have g2 : upd H1 t2 (.lst [.ref p, .ref pd]) t2 = some (.lst [.ref p, .ref pd]) := upd_same
  have kk := k1.trans k2
  exact ⟨_, _, dL rs ds, rfl, .lst (k2.kp.lst g1 (by simp)) z1 (.cons (rz_rows (h2.kp kk.kp)) (.cons (rz_deeds (h4.kp kk.kp)) .nil)), .lst g2 z2 (.cons (rz_rows (hp.kp kk.kp)) (.cons (rz_deeds (hpd.kp kk.kp)) .nil)), e2, e1, e3, hQ _ kk⟩
theorem ok_move (F : L2.Fun K "_law_move" "_law_move" sMove f fd) (N : Nms mg) : FnG prg w K mg base 1 f fd ["rows", "deed"] (spMove T) := by
  have S := fsMove
  refine fnG_mk F S (fun vs H Q E h => by obtain ⟨p, q, rs, d, rfl, _⟩ := h; rfl) fun cdv A outer s H vs Q E hr gd hsp => ?_
  obtain ⟨p, q, rs, d, rfl, hp, hq, hl, hno, hgo⟩ := hsp
  refine ⟨_, pss_cons (ps_if (pt_cmpR op_eq (pe_ix ix_tup (pv 1) pe_int (fun _ _ => rfl)) pe_str (nomark _)) (pss_cons (ps_if (pt_cmpR op_gt (pe_callB call_len_seq (by rfl) N.n_len (by decide +kernel) (pa_cons (pv 0) pa_nil)) pe_int (nomark _)) (pss_one (ps_ret pe_str)) pss_nil)
    (pss_one (ps_ret (pe_ifExp (pt_cmpR op_le (pe_ix ix_tup (pv 1) pe_int (fun _ _ => rfl)) (pe_callB call_len_seq (by rfl) N.n_len (by decide +kernel) (pa_cons (pv 0) pa_nil)) (nomark _)) (pe_op op_catA (pe_op op_catA (pe_slice sl_tupA (pv 0) po_none (po_some (pe_ix ix_tup (pv 1) pe_int (fun _ _ => rfl)))) (pe_tup (pa_cons (pe_ix ix_tup (pv 1) pe_int (fun _ _ => rfl)) pa_nil))) (pe_slice sl_tupA (pv 0) (po_some (pe_ix ix_tup (pv 1) pe_int (fun _ _ => rfl))) po_none)) pe_str)))) pss_nil)
    (pss_cons (ps_if (pt_cmpR op_ge (pe_ix ix_tup (pv 1) pe_int (fun _ _ => rfl)) (pe_callB call_len_seq (by rfl) N.n_len (by decide +kernel) (pa_cons (pv 0) pa_nil)) (nomark _)) (pss_one (ps_ret pe_str)) pss_nil)
    (pss_cons (ps_if (pt_cmpR op_eq (pe_ix ix_tup (pv 1) pe_int (fun _ _ => rfl)) pe_str (nomark _)) (pss_one (ps_ret (pe_op op_catA (pe_slice sl_tupA (pv 0) po_none (po_some (pe_ix ix_tup (pv 1) pe_int (fun _ _ => rfl)))) (pe_slice sl_tupA (pv 0) (po_some (pe_op op_add (pe_ix ix_tup (pv 1) pe_int (fun _ _ => rfl)) pe_int)) po_none)))) pss_nil)
    (pss_one (ps_ret (pe_ifExp (pt_cmpR op_ne (pe_ix ix_tup (pv 0) (pe_ix ix_tup (pv 1) pe_int (fun _ _ => rfl)) (fun _ _ => rfl)) (pe_ix ix_tup (pv 1) pe_int (fun _ _ => rfl)) (nomark _)) (pe_op op_catA (pe_op op_catA (pe_slice sl_tupA (pv 0) po_none (po_some (pe_ix ix_tup (pv 1) pe_int (fun _ _ => rfl)))) (pe_tup (pa_cons (pe_ix ix_tup (pv 1) pe_int (fun _ _ => rfl)) pa_nil))) (pe_slice sl_tupA (pv 0) (po_some (pe_op op_add (pe_ix ix_tup (pv 1) pe_int (fun _ _ => rfl)) pe_int)) po_none)) pe_str))))), ?_⟩
  have ub : ∀ (i : Nat) (xs : List V), (xs.take i).length ≤ xs.length := fun i xs => by rw [List.length_take]; omega
  cases d with
  | put i r =>
    refine ⟨_, rfl, q, _, _, _, rfl, rfl, SqT.of hq, rfl, rfl, _, rfl, iteT ⟨_, rfl, p, _, rfl, .inr (SqT.of hp), _, _, rfl, rfl, _, rfl, ?_⟩⟩
    simp only [mv] at hno hgo
    refine ite2 (fun e => ?_) fun e => ⟨_, rfl, q, _, _, _, rfl, rfl, SqT.of hq, rfl, _, rfl, p, _, rfl, .inr (SqT.of hp), _, _, rfl, rfl, _, rfl, ite2 (fun e2 => ?_) fun e2 => ?_⟩
    · have e := of_decide_eq_true e
      rw [len_map] at e
      rw [if_pos (by omega)] at hno
      exact hno _ rfl _ Kt.refl
    · have e2 := of_decide_eq_true e2
      rw [len_map] at e2
      have e : ¬ ((((rs.map V.str).length : Nat) : Int) > 19) := fun z => e (decide_eq_true z)
      rw [len_map] at e
      rw [if_neg (by omega), if_pos (by omega)] at hgo
      refine ⟨_, rfl, _, rfl, q, _, _, _, rfl, rfl, SqT.of hq, rfl, _, rfl, slA_of (T := T) hp fun p2 H2 k2 h2 => ?_⟩
      rw [cut_take] at h2
      refine ⟨_, rfl, q, _, _, .str r, rfl, rfl, SqT.of (k2.kp.tup hq), rfl, (by show 1 ≤ sizeLine; decide), fun t nt => ?_⟩
      have k3 : Kt T [] H2 (upd H2 t (.tup [.str r])) := Kt.new nt
      have g3 : upd H2 t (.tup [.str r]) t = some (.tup [.str r]) := upd_same
      generalize upd H2 t (.tup [.str r]) = H3 at k3 g3 ⊢
      refine catA_of (T := T) (k3.kp.tup h2) g3 (by have := ub i (rs.map V.str); rw [List.length_map] at this; show _ + 1 ≤ 1000; omega) fun p4 H4 k4 h4 => ?_
      refine ⟨_, rfl, _, rfl, q, _, _, _, rfl, rfl, SqT.of (k4.kp.tup (k3.kp.tup (k2.kp.tup hq))), rfl, _, rfl, slN_of (T := T) (k4.kp.tup (k3.kp.tup (k2.kp.tup hp))) fun p5 H5 k5 h5 => ?_⟩
      rw [cut_drop] at h5
      refine catA_of (T := T) (k5.kp.tup h4) h5 (by simp only [List.length_append, List.length_take, List.length_drop, List.length_map, List.length_singleton]; omega) fun p6 H6 k6 h6 => hgo _ rfl p6 H6 ((((k2.trans k3).trans k4).trans k5).trans k6) ?_
      unfold RowsAt
      rw [h6]
      simp
    · have e2 : ¬ ((i : Int) ≤ _) := fun z => e2 (decide_eq_true z)
      rw [len_map] at e2
      have e : ¬ ((((rs.map V.str).length : Nat) : Int) > 19) := fun z => e (decide_eq_true z)
      rw [len_map] at e
      rw [if_neg (by omega), if_neg (by omega)] at hno
      exact hno _ rfl _ Kt.refl
  | row i r =>
    refine ⟨_, rfl, q, _, _, _, rfl, rfl, SqT.of hq, rfl, rfl, _, rfl, iteF ⟨_, rfl, q, _, _, _, rfl, rfl, SqT.of hq, rfl, _, rfl, p, _, rfl, .inr (SqT.of hp), _, _, rfl, rfl, _, rfl, ?_⟩⟩
    simp only [mv] at hno hgo
    refine ite2 (fun e => ?_) fun e => ?_
    · have e := of_decide_eq_true e
      rw [len_map] at e
      rw [if_pos (by omega)] at hno
      exact hno _ rfl _ Kt.refl
    · have e' : ¬ ((i : Int) ≥ (((rs.map V.str).length : Nat) : Int)) := fun z => e (decide_eq_true z)
      rw [len_map] at e'
      have lt : i < rs.length := by omega
      rw [if_neg (by omega)] at hno hgo
      refine ⟨_, rfl, q, _, _, _, rfl, rfl, SqT.of hq, rfl, rfl, _, rfl, iteF ?_⟩
      refine ⟨_, rfl, _, rfl, q, _, _, _, rfl, rfl, SqT.of hq, rfl, p, _, _, .str rs[i], rfl, rfl, SqT.of hp, row_at (by simp [lt]), _, rfl, q, _, _, _, rfl, rfl, SqT.of hq, rfl, rfl, _, rfl, ite2 (fun e2 => ?_) fun e2 => ?_⟩
      · have ne : ¬ (rs[i]? = some r) := fun z => by
          have z' : some rs[i] = some r := by rw [← z]; simp [lt]
          rw [Option.some.inj z'] at e2
          simp at e2
        rw [if_neg ne] at hgo
        refine ⟨_, rfl, _, rfl, q, _, _, _, rfl, rfl, SqT.of hq, rfl, _, rfl, slA_of (T := T) hp fun p2 H2 k2 h2 => ?_⟩
        rw [cut_take] at h2
        refine ⟨_, rfl, q, _, _, .str r, rfl, rfl, SqT.of (k2.kp.tup hq), rfl, (by show 1 ≤ sizeLine; decide), fun t nt => ?_⟩
        have k3 : Kt T [] H2 (upd H2 t (.tup [.str r])) := Kt.new nt
        have g3 : upd H2 t (.tup [.str r]) t = some (.tup [.str r]) := upd_same
        generalize upd H2 t (.tup [.str r]) = H3 at k3 g3 ⊢
        refine catA_of (T := T) (k3.kp.tup h2) g3 (by have := ub i (rs.map V.str); rw [List.length_map] at this; show _ + 1 ≤ 1000; omega) fun p4 H4 k4 h4 => ?_
        refine ⟨_, rfl, _, rfl, q, _, _, _, rfl, rfl, SqT.of (k4.kp.tup (k3.kp.tup (k2.kp.tup hq))), rfl, _, _, rfl, rfl, _, rfl, slN_of (T := T) (k4.kp.tup (k3.kp.tup (k2.kp.tup hp))) fun p5 H5 k5 h5 => ?_⟩
        rw [show ((i : Int) + 1) = ((i + 1 : Nat) : Int) from rfl, cut_drop] at h5
        refine catA_of (T := T) (k5.kp.tup h4) h5 (by simp only [List.length_append, List.length_take, List.length_drop, List.length_map, List.length_singleton]; omega) fun p6 H6 k6 h6 => hgo _ rfl p6 H6 ((((k2.trans k3).trans k4).trans k5).trans k6) ?_
        unfold RowsAt
        rw [h6]
        simp
      · have eq : rs[i]? = some r := by
          have z : V.str rs[i] = V.str r := Classical.byContradiction fun z => e2 (by simp [z])
          injection z with z
          rw [← z]
          simp [lt]
        rw [if_pos eq] at hno
        exact hno _ rfl _ Kt.refl
  | out i =>
    refine ⟨_, rfl, q, _, _, _, rfl, rfl, SqT.of hq, rfl, rfl, _, rfl, iteF ⟨_, rfl, q, _, _, _, rfl, rfl, SqT.of hq, rfl, _, rfl, p, _, rfl, .inr (SqT.of hp), _, _, rfl, rfl, _, rfl, ?_⟩⟩
    simp only [mv] at hno hgo
    refine ite2 (fun e => ?_) fun e => ?_
    · have e := of_decide_eq_true e
      rw [len_map] at e
      rw [if_pos (by omega)] at hno
      exact hno _ rfl _ Kt.refl
    · have e' : ¬ ((i : Int) ≥ (((rs.map V.str).length : Nat) : Int)) := fun z => e (decide_eq_true z)
      rw [len_map] at e'
      rw [if_neg (by omega)] at hgo
      refine ⟨_, rfl, q, _, _, _, rfl, rfl, SqT.of hq, rfl, rfl, _, rfl, iteT ?_⟩
      refine ⟨_, rfl, _, rfl, q, _, _, _, rfl, rfl, SqT.of hq, rfl, _, rfl, slA_of (T := T) hp fun p2 H2 k2 h2 => ?_⟩
      rw [cut_take] at h2
      refine ⟨_, rfl, _, rfl, q, _, _, _, rfl, rfl, SqT.of (k2.kp.tup hq), rfl, _, _, rfl, rfl, _, rfl, slN_of (T := T) (k2.kp.tup hp) fun p5 H5 k5 h5 => ?_⟩
      rw [show ((i : Int) + 1) = ((i + 1 : Nat) : Int) from rfl, cut_drop] at h5
      refine catA_of (T := T) (k5.kp.tup h2) h5 (by simp only [List.length_take, List.length_drop, List.length_map]; omega) fun p6 H6 k6 h6 => hgo _ rfl p6 H6 ((k2.trans k5).trans k6) ?_
      unfold RowsAt
      rw [h6]
      simp
end
end K11
set_option maxHeartbeats 4000000
/-! M18: the page of a round. -/
namespace K11
open PySem PySem.Spec L2 DL LamX
open PySem.W (Frag keepIn findIn typeIn subIn mroIn specialIn takesIn kitOne kitAny excIn notFirst)
open PyProof.Rows hiding St wpAt wpAt_bind wpAt_stack wpAt_mono
/-! ### texts put together -/
def isT (n : Nat) (x : Str) : Prop := x.length ≤ n ∧ ∀ c ∈ x.cps.toList, c ≠ 10 ∧ c < 1114112
def isTb (n : Nat) (x : Str) : Bool := decide (x.length ≤ n) && x.cps.toList.all fun c => !decide (c = 10) && decide (c < 1114112)
theorem isT_of {n : Nat} {x : Str} (h : isTb n x = true) : isT n x := by
  obtain ⟨h1, h2⟩ := Bool.and_eq_true_iff.mp h
  refine ⟨of_decide_eq_true h1, fun c m => ?_⟩
  obtain ⟨a, b⟩ := Bool.and_eq_true_iff.mp (List.all_eq_true.mp h2 c m)
  exact ⟨by simpa using a, of_decide_eq_true b⟩
theorem isT_app {n m : Nat} {x y : Str} (h : isT n x) (h' : isT m y) : isT (n + m) (x ++ y) := by
  refine ⟨by rw [app_len]; exact Nat.add_le_add h.1 h'.1, fun c mc => ?_⟩
  have e : (x ++ y).cps.toList = x.cps.toList ++ y.cps.toList := by
    show (x.cps ++ y.cps).toList = _
    simp
  rw [e] at mc
  rcases List.mem_append.mp mc with q | q
  · exact h.2 c q
  · exact h'.2 c q
theorem isT_ok {n : Nat} {x : Str} (h : isT n x) (l : n ≤ 200) : okS x = true := by
  refine Bool.and_eq_true_iff.mpr ⟨Bool.and_eq_true_iff.mpr ⟨decide_eq_true (Nat.le_trans h.1 l), ?_⟩, List.all_eq_true.mpr fun c m => decide_eq_true (h.2 c m).2⟩
  have : 10 ∉ x.cps.toList := fun m => (h.2 10 m).1 rfl
  simpa using this
structure Ev (n : Nat) (t : TE) (σ : L2.St) (H : Hp) (x : Str) : Prop where
  ok : isT n x
  ev : ∀ Q : VK, Q (.str x) H → t σ H Q
structure EvL (t : TA) (σ : L2.St) (H : Hp) (xs : List Str) : Prop where
  ok : ∀ x ∈ xs, okS x = true
  ev : ∀ Q : List V → Hp → Prop, Q (xs.map V.str) H → t σ H Q
section
variable {n m : Nat} {ta tb te : TE} {t : TA} {σ : L2.St} {H : Hp} {x y : Str} {xs ys : List Str} {T : List (Addr × Str)} {p : Addr} {Q : VK}
theorem Ev.lit (n : Nat) {s : Str} (h : isTb n s = true) : Ev n (tC (.str s)) σ H s := ⟨isT_of h, fun _ q => q⟩
theorem Ev.var {i : Nat} (e : σ[i]? = some (some (.str x))) (h : isT 8 x) : Ev 8 (tVar i) σ H x := ⟨h, fun _ q => ⟨_, e, q⟩⟩
theorem Ev.add (h : Ev n ta σ H x) (h' : Ev m tb σ H y) (l : n + m ≤ 200) : Ev (n + m) (tOp (fun x y H Q => ∃ i j, x = .str i ∧ y = .str j ∧ i.length + j.length ≤ sizeLine ∧ Q (.str (i ++ j)) H) ta tb) σ H (x ++ y) :=
  ⟨isT_app h.ok h'.ok, fun _ q => h.ev _ (h'.ev _ ⟨_, _, rfl, rfl, Nat.le_trans (Nat.add_le_add h.ok.1 h'.ok.1) (Nat.le_trans l (by decide)), q⟩)⟩
theorem EvL.nil : EvL tNil σ H [] := ⟨fun _ m => (by cases m), fun _ q => q⟩
theorem EvL.cons (h : Ev n te σ H x) (l : n ≤ 200) (r : EvL t σ H xs) : EvL (tCons te t) σ H (x :: xs) := ⟨fun z mz => by
  rcases List.mem_cons.mp mz with rfl | mz
  · exact isT_ok h.ok l
  · exact r.ok z mz, fun _ q => h.ev _ (r.ev _ q)⟩
theorem EvL.lst (h : EvL t σ H xs) (l : xs.length ≤ 100) (q : ∀ p, H p = none → Q (.ref p) (upd H p (.lst (xs.map V.str)))) : tLst t σ H Q := h.ev _ ⟨by rw [List.length_map]; exact Nat.le_trans l (by decide), q⟩
theorem EvL.cat {i : Nat} (e : σ[i]? = some (some (.ref p))) (hp : H p = some (.lst (ys.map V.str))) (h : EvL t σ H xs) (l : ys.length + xs.length ≤ 100) (q : ∀ r H', Kt T [] H H' → H' r = some (.lst ((ys ++ xs).map V.str)) → Q (.ref r) H') : tOp rCat (tVar i) (tLst t) σ H Q := by
  refine ⟨_, e, h.lst (by omega) fun b nb => ⟨p, b, ys.map V.str, xs.map V.str, rfl, rfl, ?_, upd_same, ?_, fun r nr => q r _ ((Kt.new nb).trans (Kt.new nr)) ?_⟩⟩
  · rw [upd_ne (ne_of_none hp nb)]
    exact hp
  · rw [List.length_map, List.length_map]
    exact Nat.le_trans l (by decide)
  · rw [upd_same, List.map_append]
end
theorem erase_map {α β : Type} (f : α → β) : ∀ (l : List α) (i : Nat), (l.map f).eraseIdx i = (l.eraseIdx i).map f
  | [], _ => rfl
  | _ :: _, 0 => rfl
  | x :: l, i + 1 => congrArg (f x :: ·) (erase_map f l i)
/-- the first sign -/
def hd (s : Str) : Option Nat := s.cps.toList.head?
theorem hd_app {x y : Str} {c : Nat} (h : hd x = some c) : hd (x ++ y) = some c := by
  unfold hd at *
  have e : (x ++ y).cps.toList = x.cps.toList ++ y.cps.toList := by
    show (x.cps ++ y.cps).toList = _
    simp
  rw [e]
  cases q : x.cps.toList with
  | nil =>
    rw [q] at h
    cases h
  | cons z zs =>
    rw [q] at h
    exact h

def pR0 (a b c n f e : Str) : List Str := [(("point " : Str) ++ a), (("point " : Str) ++ b), (("arrow " : Str) ++ c), (("number " : Str) ++ n), ((("rule " : Str) ++ f) ++ ("(p, q) = dot(p, q) * 2" : Str))]
def pR1 (a b c n f e : Str) : List Str := [(((((("let " : Str) ++ e) ++ (" = " : Str)) ++ b) ++ (" - " : Str)) ++ a)]
def pR2 (a b c n f e : Str) : List Str := [(((((((("tell " : Str) ++ f) ++ ("(" : Str)) ++ e) ++ (", " : Str)) ++ c) ++ (") + " : Str)) ++ n), ((((("tell cross(" : Str) ++ e) ++ (", left(" : Str)) ++ c) ++ ("))" : Str))]
def pM0 (a b c n f e : Str) : List Str := [((("tell x(" : Str) ++ a) ++ (")" : Str)), ((("tell x(" : Str) ++ c) ++ (")" : Str)), ((((("tell x(" : Str) ++ c) ++ (")^2 + y(" : Str)) ++ c) ++ (")^2" : Str))]
def pM1 (a b c n f e : Str) : List Str := [((((("tell x(" : Str) ++ b) ++ (") - x(" : Str)) ++ a) ++ (")" : Str)), ("point w" : Str), (((("let w = " : Str) ++ a) ++ (" + " : Str)) ++ c)]
def pM2 (a b c n f e : Str) : List Str := [(("tell " : Str) ++ a), (("number " : Str) ++ a), ("x" : Str), ("tell 1" : Str), ((((((("tell " : Str) ++ n) ++ (" / (" : Str)) ++ n) ++ (" - " : Str)) ++ n) ++ (")" : Str))]
def pM3 (a b c n f e : Str) : List Str := [("rule w(p) = p + 1" : Str), ((("tell dot(" : Str) ++ e) ++ (", by(1, 0))" : Str))]

/-- the words that are drawn of -/
def W0 : List Str := (("abcdefghkmnorst" : Str).cps.toList.map fun c => (⟨#[c]⟩ : Str)) ++ [("area" : Str), ("abcdefgh" : Str)]
theorem W0_ok : ∀ x ∈ W0, isT 8 x := fun x m => isT_of (List.all_eq_true.mp (show W0.all (isTb 8) = true by decide +kernel) x m)
/-- rows and more of them, good for a round -/
structure Pg (first more : List Str) : Prop where
  l1 : first.length = 8
  l2 : more.length = 13
  k1 : ∀ r ∈ first, okS r = true
  k2 : ∀ r ∈ more, okS r = true
  ne : ∃ x y, first[0]? = some x ∧ first[7]? = some y ∧ hd x = some 112 ∧ hd y = some 116
def spPage (T : List (Addr × Str)) : Sp := fun vs H Q _ => ∃ (a0 : Addr) (k : Nat), vs = [.ref a0] ∧ Dr H a0 k ∧ k ≤ 900 ∧
  ∀ H' t pr lm first more, Kt T [a0] H H' → Dr H' a0 (k + 6) → H' t = some (.tup [.ref pr, .ref lm]) → RowsAt H' pr first → H' lm = some (.lst (more.map V.str)) → Pg first more → Q (.ref t) H'
section
variable {w : World} {K : Frag} {mg : Str → Option Value} {base : Heap} {fa : Addr} {fd : FuncData} {T : List (Addr × Str)}
theorem ok_page (F : L2.Fun K "_law_page" "_law_page" sPage fa fd) (N : Nms mg) (cT : Clb prg w K mg base 1 "_law_take" spTake []) : FnG prg w K mg base 2 fa fd ["draws"] (spPage T) := by
  have S := fsPage
  refine fnG_mk F S (fun vs H Q E h => by obtain ⟨a0, k, rfl, _⟩ := h; rfl) fun cdv A outer s H vs Q E hr gd hsp => ?_
  obtain ⟨a0, k, rfl, hd0, hk, hQ⟩ := hsp
  refine ⟨_, (pss_cons (ps_par (i := 1) (j := 2) (by rfl) S.nd rfl rfl (by decide) rfl rfl (pa_cons (pe_op op_cat (pe_callTy (call_listS rfl) (by rfl) N.n_list (by decide +kernel) (pa_cons pe_str pa_nil)) (pe_lst (pa_cons pe_str (pa_cons pe_str pa_nil)))) (pa_cons (pe_lst pa_nil) pa_nil)) (by rfl))
    (pss_cons (ps_for PassesOwn.never rfl (pi_range1 rfl N.n_range (pa_cons pe_int pa_nil)) (pg_name (i := 3) S.nd rfl (Or.inl rfl)) (pss_one (ps_expr (pe_bm PySem.F.plainAttrs_list PySem.F.slot_list_append PySem.F.type_list_append mt_append (pv 2) (pa_cons (pe_bm PySem.F.plainAttrs_list PySem.F.slot_list_pop PySem.F.type_list_pop mt_popAt (pv 1) (pa_cons (pe_clb cT hr (by decide) gd rfl (pa_cons (pv 0) (pa_cons (pe_callB call_len_seq (by rfl) N.n_len (by decide +kernel) (pa_cons (pv 1) pa_nil)) pa_nil))) pa_nil)) pa_nil)))))
    (pss_cons (ps_asg (pv 2) (pg_unl rfl (pgs_cons (pg_name (i := 4) S.nd rfl (Or.inl rfl)) (pgs_cons (pg_name (i := 5) S.nd rfl (Or.inl rfl)) (pgs_cons (pg_name (i := 6) S.nd rfl (Or.inl rfl)) (pgs_cons (pg_name (i := 7) S.nd rfl (Or.inl rfl)) (pgs_cons (pg_name (i := 8) S.nd rfl (Or.inl rfl)) (pgs_cons (pg_name (i := 9) S.nd rfl (Or.inl rfl)) pgs_nil))))))))
    (pss_cons (ps_set (i := 10) S.nd rfl (Or.inl rfl) (pe_lst (pa_cons (pe_op op_add_str pe_str (pv 4)) (pa_cons (pe_op op_add_str pe_str (pv 5)) (pa_cons (pe_op op_add_str pe_str (pv 6)) (pa_cons (pe_op op_add_str pe_str (pv 7)) (pa_cons (pe_op op_add_str (pe_op op_add_str pe_str (pv 8)) pe_str) pa_nil)))))))
    (pss_cons (ps_set (i := 10) S.nd rfl (Or.inl rfl) (pe_op op_cat (pv 10) (pe_lst (pa_cons (pe_op op_add_str (pe_op op_add_str (pe_op op_add_str (pe_op op_add_str (pe_op op_add_str pe_str (pv 9)) pe_str) (pv 5)) pe_str) (pv 4)) pa_nil))))
    (pss_cons (ps_set (i := 10) S.nd rfl (Or.inl rfl) (pe_op op_cat (pv 10) (pe_lst (pa_cons (pe_op op_add_str (pe_op op_add_str (pe_op op_add_str (pe_op op_add_str (pe_op op_add_str (pe_op op_add_str (pe_op op_add_str pe_str (pv 8)) pe_str) (pv 9)) pe_str) (pv 6)) pe_str) (pv 7)) (pa_cons (pe_op op_add_str (pe_op op_add_str (pe_op op_add_str (pe_op op_add_str pe_str (pv 9)) pe_str) (pv 6)) pe_str) pa_nil)))))
    (pss_cons (ps_set (i := 11) S.nd rfl (Or.inl rfl) (pe_lst (pa_cons (pe_op op_add_str (pe_op op_add_str pe_str (pv 4)) pe_str) (pa_cons (pe_op op_add_str (pe_op op_add_str pe_str (pv 6)) pe_str) (pa_cons (pe_op op_add_str (pe_op op_add_str (pe_op op_add_str (pe_op op_add_str pe_str (pv 6)) pe_str) (pv 6)) pe_str) pa_nil)))))
    (pss_cons (ps_set (i := 11) S.nd rfl (Or.inl rfl) (pe_op op_cat (pv 11) (pe_lst (pa_cons (pe_op op_add_str (pe_op op_add_str (pe_op op_add_str (pe_op op_add_str pe_str (pv 5)) pe_str) (pv 4)) pe_str) (pa_cons pe_str (pa_cons (pe_op op_add_str (pe_op op_add_str (pe_op op_add_str pe_str (pv 4)) pe_str) (pv 6)) pa_nil))))))
    (pss_cons (ps_set (i := 11) S.nd rfl (Or.inl rfl) (pe_op op_cat (pv 11) (pe_lst (pa_cons (pe_op op_add_str pe_str (pv 4)) (pa_cons (pe_op op_add_str pe_str (pv 4)) (pa_cons pe_str (pa_cons pe_str (pa_cons (pe_op op_add_str (pe_op op_add_str (pe_op op_add_str (pe_op op_add_str (pe_op op_add_str (pe_op op_add_str pe_str (pv 7)) pe_str) (pv 7)) pe_str) (pv 7)) pe_str) pa_nil))))))))
    (pss_cons (ps_set (i := 11) S.nd rfl (Or.inl rfl) (pe_op op_cat (pv 11) (pe_lst (pa_cons pe_str (pa_cons (pe_op op_add_str (pe_op op_add_str pe_str (pv 9)) pe_str) pa_nil)))))
    (pss_one (ps_ret (pe_tup (pa_cons (pe_callTy call_tuple_of (by rfl) N.n_tuple (by decide +kernel) (pa_cons (pv 10) pa_nil)) (pa_cons (pv 11) pa_nil))))))))))))))), ?_⟩
  -- the words
  refine ⟨("abcdefghkmnorst" : Str), rfl, by decide +kernel, fun l1 nl1 => ⟨(by show 2 ≤ sizeLine; decide), fun l2 nl2 => ⟨l1, l2, DL.signs "abcdefghkmnorst", [.str "area", .str "abcdefgh"], rfl, rfl, ?_, upd_same, ?_, fun ls nls => ⟨(by show 0 ≤ sizeLine; omega), fun lf nlf => ⟨_, _, rfl, ?_⟩⟩⟩⟩⟩
  · rw [upd_ne (ne_of_none upd_same nl2)]
    exact upd_same
  · show ("abcdefghkmnorst" : Str).cps.toList.map (fun c => V.str ⟨#[c]⟩) |>.length |> fun z => z + 2 ≤ sizeLine
    decide +kernel
  have eW : DL.signs ("abcdefghkmnorst" : Str) ++ [V.str "area", V.str "abcdefgh"] = W0.map V.str := by
    unfold DL.signs W0
    rw [List.map_append, List.map_map]
    rfl
  rw [eW]
  have k0 : Kt T [] H (upd (upd (upd (upd H l1 (.lst (DL.signs "abcdefghkmnorst"))) l2 (.lst [.str "area", .str "abcdefgh"])) ls (.lst (W0.map V.str))) lf (.lst [])) := (((Kt.new nl1).trans (Kt.new nl2)).trans (Kt.new nls)).trans (Kt.new nlf)
  have g1 : upd (upd (upd (upd H l1 (.lst (DL.signs "abcdefghkmnorst"))) l2 (.lst [.str "area", .str "abcdefgh"])) ls (.lst (W0.map V.str))) lf (.lst []) ls = some (.lst (W0.map V.str)) := by
    rw [upd_ne (ne_of_none upd_same nlf)]
    exact upd_same
  have g2 : upd (upd (upd (upd H l1 (.lst (DL.signs "abcdefghkmnorst"))) l2 (.lst [.str "area", .str "abcdefgh"])) ls (.lst (W0.map V.str))) lf (.lst []) lf = some (.lst []) := upd_same
  have nl : ls ≠ lf := ne_of_none upd_same nlf
  have na1 : a0 ≠ ls := by
    obtain ⟨f', s', e, _⟩ := hd0
    exact ne_of_none ((Kt.new (T := T) (D := []) nl1).trans (Kt.new nl2) |>.kp.lst e (by simp)) nls
  have na2 : a0 ≠ lf := by
    obtain ⟨f', s', e, _⟩ := hd0
    exact ne_of_none ((((Kt.new (T := T) (D := []) nl1).trans (Kt.new nl2)).trans (Kt.new nls)) |>.kp.lst e (by simp)) nlf
  have kd0 : Dr _ a0 k := hd0.kp k0.kp (by simp)
  have nlH : H ls = none := by
    cases e : H ls with
    | none => rfl
    | some o =>
      have q := nls
      have n1 : ls ≠ l2 := fun z => by
        rw [z, upd_same] at q
        cases q
      rw [upd_ne n1] at q
      have n2 : ls ≠ l1 := fun z => by
        rw [z, upd_same] at q
        cases q
      rw [upd_ne n2, e] at q
      cases q
  have nfH : H lf = none := by
    cases e : H lf with
    | none => rfl
    | some o =>
      have q := nlf
      rw [upd_ne nl.symm] at q
      have n1 : lf ≠ l2 := fun z => by
        rw [z, upd_same] at q
        cases q
      rw [upd_ne n1] at q
      have n2 : lf ≠ l1 := fun z => by
        rw [z, upd_same] at q
        cases q
      rw [upd_ne n2, e] at q
      cases q
  generalize upd (upd (upd (upd H l1 (.lst (DL.signs "abcdefghkmnorst"))) l2 (.lst [.str "area", .str "abcdefgh"])) ls (.lst (W0.map V.str))) lf (.lst []) = H0 at k0 g1 g2 kd0 ⊢
  refine ⟨6, rfl, by decide, by decide, for_range (n := 6) (fun i σ Hi => ∃ (Wi Fi : List Str) (o : Option V), σ = [some (.ref a0), some (.ref ls), some (.ref lf), o, none, none, none, none, none, none, none, none] ∧ Kt T [a0, ls, lf] H Hi ∧ Dr Hi a0 (k + i) ∧ Hi ls = some (.lst (Wi.map V.str)) ∧ Hi lf = some (.lst (Fi.map V.str)) ∧ Wi.length + i = 17 ∧ Fi.length = i ∧ (∀ x ∈ Wi, isT 8 x) ∧ ∀ x ∈ Fi, isT 8 x)
    ⟨W0, [], none, rfl, k0.of, kd0, g1, g2, by decide +kernel, rfl, W0_ok, fun x m => by cases m⟩ (fun i σ Hi hi h => ?_) fun σ Hi h => ?_⟩
  · obtain ⟨Wi, Fi, o, rfl, ki, di, w1, f1, lw, lf', okW, okF⟩ := h
    refine ⟨_, rfl, .inl ⟨rfl, _, SqL.of f1⟩, _, rfl, .inl ⟨rfl, _, SqL.of w1⟩, _, rfl, _, rfl, ls, _, rfl, .inl (SqL.of w1), a0, _, k + i, rfl, di, by omega, ?_, ?_, fun r fg sd r0 r1 s0 s1 => ?_⟩
    · rw [List.length_map]
      omega
    · rw [List.length_map]
      omega
    rw [List.length_map] at r1
    obtain ⟨j, rfl⟩ := Int.eq_ofNat_of_zero_le r0
    have hj : j < Wi.length := by omega
    have kd := di.kt (T := T) fg sd (k + i + 1)
    have d2 : Dr (upd Hi a0 (.lst [.int fg, .int sd, .int (k + i + 1 : Nat)])) a0 (k + i + 1) := Dr.new s0 s1
    have w2 : upd Hi a0 (.lst [.int fg, .int sd, .int (k + i + 1 : Nat)]) ls = some (.lst (Wi.map V.str)) := by
      rw [upd_ne na1.symm]
      exact w1
    have f2 : upd Hi a0 (.lst [.int fg, .int sd, .int (k + i + 1 : Nat)]) lf = some (.lst (Fi.map V.str)) := by
      rw [upd_ne na2.symm]
      exact f1
    generalize upd Hi a0 (.lst [.int fg, .int sd, .int (k + i + 1 : Nat)]) = H1 at kd d2 w2 f2 ⊢
    refine ⟨ls, _, _, j, .str Wi[j], rfl, rfl, w2, by omega, by omega, ?_, by simp [hj], ?_⟩
    · rw [seqIndex_of (by omega) (by rw [List.length_map]; omega)]
      rfl
    have ew : (Wi.map V.str).eraseIdx j = (Wi.eraseIdx j).map V.str := erase_map V.str Wi j
    rw [ew]
    have kw : Kt T [a0, ls, lf] H1 (upd H1 ls (.lst ((Wi.eraseIdx j).map V.str))) := Kt.put w2 rfl (by simp)
    have w3 : upd H1 ls (.lst ((Wi.eraseIdx j).map V.str)) ls = some (.lst ((Wi.eraseIdx j).map V.str)) := upd_same
    have f3 : upd H1 ls (.lst ((Wi.eraseIdx j).map V.str)) lf = some (.lst (Fi.map V.str)) := by
      rw [upd_ne nl.symm]
      exact f2
    have d3 : Dr (upd H1 ls (.lst ((Wi.eraseIdx j).map V.str))) a0 (k + i + 1) := by
      obtain ⟨x1, x2, x3, x4⟩ := d2
      exact ⟨x1, x2, by rw [upd_ne na1]; exact x3, x4⟩
    generalize upd H1 ls (.lst ((Wi.eraseIdx j).map V.str)) = H2 at kw w3 f3 d3 ⊢
    refine ⟨lf, _, _, rfl, rfl, f3, ?_, Wi.eraseIdx j, Fi ++ [Wi[j]], _, rfl, ((ki.trans (kd.mono (by simp))).trans kw).trans (Kt.put f3 rfl (by simp)), ?_, ?_, ?_, ?_, ?_, fun x m => okW x ((List.eraseIdx_sublist Wi j).subset m), fun x m => ?_⟩
    · rw [List.length_map]
      exact Nat.lt_of_le_of_lt (show Fi.length ≤ 100 by omega) (by decide)
    · obtain ⟨x1, x2, x3, x4⟩ := d3
      exact ⟨x1, x2, by rw [upd_ne na2]; exact x3, x4⟩
    · rw [upd_ne nl]
      exact w3
    · rw [upd_same, List.map_append]
      rfl
    · rw [List.length_eraseIdx_of_lt hj]
      omega
    · rw [List.length_append, lf']
      rfl
    · rcases List.mem_append.mp m with m | m
      · exact okF x m
      · rw [List.mem_singleton.mp m]
        exact okW _ (List.getElem_mem hj)
  · obtain ⟨Wi, Fi, o, rfl, ki, di, w1, f1, lw, lf', okW, okF⟩ := h
    match Fi, lf', f1, okF with
    | [a, b, c, n, f, e], _, f1, okF =>
      have ha : isT 8 a := okF a (by simp)
      have hb : isT 8 b := okF b (by simp)
      have hc : isT 8 c := okF c (by simp)
      have hn : isT 8 n := okF n (by simp)
      have hf : isT 8 f := okF f (by simp)
      have he : isT 8 e := okF e (by simp)
      refine ⟨_, rfl, lf, _, rfl, SqL.of f1, rfl, _, _, rfl, _, _, rfl, _, _, rfl, _, _, rfl, _, _, rfl, _, _, rfl, rfl, ?_⟩
      have kH : Kt T [a0] H Hi := ⟨fun b o e c z => ki.kp b o e (fun q m => by
        simp only [List.mem_cons, List.not_mem_nil, or_false] at m
        rcases m with rfl | rfl | rfl
        · exact c q (by simp)
        · rw [nlH] at e
          cases e
        · rw [nfH] at e
          cases e) z, ki.tb⟩
      try dsimp only [tSeq, tAsg, gName]
      refine EvL.lst (xs := pR0 a b c n f e) ?ev0 (Nat.le_of_ble_eq_true rfl) fun p0 np0 => ?_
      case ev0 => exact (EvL.cons (Ev.add (Ev.lit 6 (by decide +kernel)) (Ev.var (i := 4) rfl ha) (by decide)) (by decide) (EvL.cons (Ev.add (Ev.lit 6 (by decide +kernel)) (Ev.var (i := 5) rfl hb) (by decide)) (by decide) (EvL.cons (Ev.add (Ev.lit 6 (by decide +kernel)) (Ev.var (i := 6) rfl hc) (by decide)) (by decide) (EvL.cons (Ev.add (Ev.lit 7 (by decide +kernel)) (Ev.var (i := 7) rfl hn) (by decide)) (by decide) (EvL.cons (Ev.add (Ev.add (Ev.lit 5 (by decide +kernel)) (Ev.var (i := 8) rfl hf) (by decide)) (Ev.lit 22 (by decide +kernel)) (by decide)) (by decide) EvL.nil)))))
      have kR0 : Kt T [] Hi (upd Hi p0 (.lst ((pR0 a b c n f e).map V.str))) := Kt.new np0
      have hR0 : upd Hi p0 (.lst ((pR0 a b c n f e).map V.str)) p0 = some (.lst ((pR0 a b c n f e).map V.str)) := upd_same
      generalize upd Hi p0 (.lst ((pR0 a b c n f e).map V.str)) = HR0 at kR0 hR0 ⊢
      try dsimp only [tSeq, tAsg, gName]
      refine EvL.cat (T := T) (i := 10) (xs := pR1 a b c n f e) (ys := pR0 a b c n f e) rfl hR0 ?ev1 (Nat.le_of_ble_eq_true rfl) fun p1 HR1 kR1 hR1 => ?_
      case ev1 => exact (EvL.cons (Ev.add (Ev.add (Ev.add (Ev.add (Ev.add (Ev.lit 4 (by decide +kernel)) (Ev.var (i := 9) rfl he) (by decide)) (Ev.lit 3 (by decide +kernel)) (by decide)) (Ev.var (i := 5) rfl hb) (by decide)) (Ev.lit 3 (by decide +kernel)) (by decide)) (Ev.var (i := 4) rfl ha) (by decide)) (by decide) EvL.nil)
      try dsimp only [tSeq, tAsg, gName]
      refine EvL.cat (T := T) (i := 10) (xs := pR2 a b c n f e) (ys := pR0 a b c n f e ++ pR1 a b c n f e) rfl hR1 ?ev2 (Nat.le_of_ble_eq_true rfl) fun p2 HR2 kR2 hR2 => ?_
      case ev2 => exact (EvL.cons (Ev.add (Ev.add (Ev.add (Ev.add (Ev.add (Ev.add (Ev.add (Ev.lit 5 (by decide +kernel)) (Ev.var (i := 8) rfl hf) (by decide)) (Ev.lit 1 (by decide +kernel)) (by decide)) (Ev.var (i := 9) rfl he) (by decide)) (Ev.lit 2 (by decide +kernel)) (by decide)) (Ev.var (i := 6) rfl hc) (by decide)) (Ev.lit 4 (by decide +kernel)) (by decide)) (Ev.var (i := 7) rfl hn) (by decide)) (by decide) (EvL.cons (Ev.add (Ev.add (Ev.add (Ev.add (Ev.lit 11 (by decide +kernel)) (Ev.var (i := 9) rfl he) (by decide)) (Ev.lit 7 (by decide +kernel)) (by decide)) (Ev.var (i := 6) rfl hc) (by decide)) (Ev.lit 2 (by decide +kernel)) (by decide)) (by decide) EvL.nil))
      try dsimp only [tSeq, tAsg, gName]
      refine EvL.lst (xs := pM0 a b c n f e) ?em0 (Nat.le_of_ble_eq_true rfl) fun m0 nm0 => ?_
      case em0 => exact (EvL.cons (Ev.add (Ev.add (Ev.lit 7 (by decide +kernel)) (Ev.var (i := 4) rfl ha) (by decide)) (Ev.lit 1 (by decide +kernel)) (by decide)) (by decide) (EvL.cons (Ev.add (Ev.add (Ev.lit 7 (by decide +kernel)) (Ev.var (i := 6) rfl hc) (by decide)) (Ev.lit 1 (by decide +kernel)) (by decide)) (by decide) (EvL.cons (Ev.add (Ev.add (Ev.add (Ev.add (Ev.lit 7 (by decide +kernel)) (Ev.var (i := 6) rfl hc) (by decide)) (Ev.lit 8 (by decide +kernel)) (by decide)) (Ev.var (i := 6) rfl hc) (by decide)) (Ev.lit 3 (by decide +kernel)) (by decide)) (by decide) EvL.nil)))
      have kM0 : Kt T [] HR2 (upd HR2 m0 (.lst ((pM0 a b c n f e).map V.str))) := Kt.new nm0
      have hM0 : upd HR2 m0 (.lst ((pM0 a b c n f e).map V.str)) m0 = some (.lst ((pM0 a b c n f e).map V.str)) := upd_same
      generalize upd HR2 m0 (.lst ((pM0 a b c n f e).map V.str)) = HM0 at kM0 hM0 ⊢
      try dsimp only [tSeq, tAsg, gName]
      refine EvL.cat (T := T) (i := 11) (xs := pM1 a b c n f e) (ys := pM0 a b c n f e) rfl hM0 ?em1 (Nat.le_of_ble_eq_true rfl) fun m1 HM1 kM1 hM1 => ?_
      case em1 => exact (EvL.cons (Ev.add (Ev.add (Ev.add (Ev.add (Ev.lit 7 (by decide +kernel)) (Ev.var (i := 5) rfl hb) (by decide)) (Ev.lit 6 (by decide +kernel)) (by decide)) (Ev.var (i := 4) rfl ha) (by decide)) (Ev.lit 1 (by decide +kernel)) (by decide)) (by decide) (EvL.cons (Ev.lit 7 (by decide +kernel)) (by decide) (EvL.cons (Ev.add (Ev.add (Ev.add (Ev.lit 8 (by decide +kernel)) (Ev.var (i := 4) rfl ha) (by decide)) (Ev.lit 3 (by decide +kernel)) (by decide)) (Ev.var (i := 6) rfl hc) (by decide)) (by decide) EvL.nil)))
      try dsimp only [tSeq, tAsg, gName]
      refine EvL.cat (T := T) (i := 11) (xs := pM2 a b c n f e) (ys := pM0 a b c n f e ++ pM1 a b c n f e) rfl hM1 ?em2 (Nat.le_of_ble_eq_true rfl) fun m2 HM2 kM2 hM2 => ?_
      case em2 => exact (EvL.cons (Ev.add (Ev.lit 5 (by decide +kernel)) (Ev.var (i := 4) rfl ha) (by decide)) (by decide) (EvL.cons (Ev.add (Ev.lit 7 (by decide +kernel)) (Ev.var (i := 4) rfl ha) (by decide)) (by decide) (EvL.cons (Ev.lit 1 (by decide +kernel)) (by decide) (EvL.cons (Ev.lit 6 (by decide +kernel)) (by decide) (EvL.cons (Ev.add (Ev.add (Ev.add (Ev.add (Ev.add (Ev.add (Ev.lit 5 (by decide +kernel)) (Ev.var (i := 7) rfl hn) (by decide)) (Ev.lit 4 (by decide +kernel)) (by decide)) (Ev.var (i := 7) rfl hn) (by decide)) (Ev.lit 3 (by decide +kernel)) (by decide)) (Ev.var (i := 7) rfl hn) (by decide)) (Ev.lit 1 (by decide +kernel)) (by decide)) (by decide) EvL.nil)))))
      try dsimp only [tSeq, tAsg, gName]
      refine EvL.cat (T := T) (i := 11) (xs := pM3 a b c n f e) (ys := pM0 a b c n f e ++ pM1 a b c n f e ++ pM2 a b c n f e) rfl hM2 ?em3 (Nat.le_of_ble_eq_true rfl) fun m3 HM3 kM3 hM3 => ?_
      case em3 => exact (EvL.cons (Ev.lit 17 (by decide +kernel)) (by decide) (EvL.cons (Ev.add (Ev.add (Ev.lit 9 (by decide +kernel)) (Ev.var (i := 9) rfl he) (by decide)) (Ev.lit 11 (by decide +kernel)) (by decide)) (by decide) EvL.nil))
      have oR0 : ∀ r ∈ pR0 a b c n f e, okS r = true := (show EvL _ [none, none, none, none, some (.str a), some (.str b), some (.str c), some (.str n), some (.str f), some (.str e)] Hi (pR0 a b c n f e) from (EvL.cons (Ev.add (Ev.lit 6 (by decide +kernel)) (Ev.var (i := 4) rfl ha) (by decide)) (by decide) (EvL.cons (Ev.add (Ev.lit 6 (by decide +kernel)) (Ev.var (i := 5) rfl hb) (by decide)) (by decide) (EvL.cons (Ev.add (Ev.lit 6 (by decide +kernel)) (Ev.var (i := 6) rfl hc) (by decide)) (by decide) (EvL.cons (Ev.add (Ev.lit 7 (by decide +kernel)) (Ev.var (i := 7) rfl hn) (by decide)) (by decide) (EvL.cons (Ev.add (Ev.add (Ev.lit 5 (by decide +kernel)) (Ev.var (i := 8) rfl hf) (by decide)) (Ev.lit 22 (by decide +kernel)) (by decide)) (by decide) EvL.nil)))))).ok
      have oR1 : ∀ r ∈ pR1 a b c n f e, okS r = true := (show EvL _ [none, none, none, none, some (.str a), some (.str b), some (.str c), some (.str n), some (.str f), some (.str e)] Hi (pR1 a b c n f e) from (EvL.cons (Ev.add (Ev.add (Ev.add (Ev.add (Ev.add (Ev.lit 4 (by decide +kernel)) (Ev.var (i := 9) rfl he) (by decide)) (Ev.lit 3 (by decide +kernel)) (by decide)) (Ev.var (i := 5) rfl hb) (by decide)) (Ev.lit 3 (by decide +kernel)) (by decide)) (Ev.var (i := 4) rfl ha) (by decide)) (by decide) EvL.nil)).ok
      have oR2 : ∀ r ∈ pR2 a b c n f e, okS r = true := (show EvL _ [none, none, none, none, some (.str a), some (.str b), some (.str c), some (.str n), some (.str f), some (.str e)] Hi (pR2 a b c n f e) from (EvL.cons (Ev.add (Ev.add (Ev.add (Ev.add (Ev.add (Ev.add (Ev.add (Ev.lit 5 (by decide +kernel)) (Ev.var (i := 8) rfl hf) (by decide)) (Ev.lit 1 (by decide +kernel)) (by decide)) (Ev.var (i := 9) rfl he) (by decide)) (Ev.lit 2 (by decide +kernel)) (by decide)) (Ev.var (i := 6) rfl hc) (by decide)) (Ev.lit 4 (by decide +kernel)) (by decide)) (Ev.var (i := 7) rfl hn) (by decide)) (by decide) (EvL.cons (Ev.add (Ev.add (Ev.add (Ev.add (Ev.lit 11 (by decide +kernel)) (Ev.var (i := 9) rfl he) (by decide)) (Ev.lit 7 (by decide +kernel)) (by decide)) (Ev.var (i := 6) rfl hc) (by decide)) (Ev.lit 2 (by decide +kernel)) (by decide)) (by decide) EvL.nil))).ok
      have oM0 : ∀ r ∈ pM0 a b c n f e, okS r = true := (show EvL _ [none, none, none, none, some (.str a), some (.str b), some (.str c), some (.str n), some (.str f), some (.str e)] Hi (pM0 a b c n f e) from (EvL.cons (Ev.add (Ev.add (Ev.lit 7 (by decide +kernel)) (Ev.var (i := 4) rfl ha) (by decide)) (Ev.lit 1 (by decide +kernel)) (by decide)) (by decide) (EvL.cons (Ev.add (Ev.add (Ev.lit 7 (by decide +kernel)) (Ev.var (i := 6) rfl hc) (by decide)) (Ev.lit 1 (by decide +kernel)) (by decide)) (by decide) (EvL.cons (Ev.add (Ev.add (Ev.add (Ev.add (Ev.lit 7 (by decide +kernel)) (Ev.var (i := 6) rfl hc) (by decide)) (Ev.lit 8 (by decide +kernel)) (by decide)) (Ev.var (i := 6) rfl hc) (by decide)) (Ev.lit 3 (by decide +kernel)) (by decide)) (by decide) EvL.nil)))).ok
      have oM1 : ∀ r ∈ pM1 a b c n f e, okS r = true := (show EvL _ [none, none, none, none, some (.str a), some (.str b), some (.str c), some (.str n), some (.str f), some (.str e)] Hi (pM1 a b c n f e) from (EvL.cons (Ev.add (Ev.add (Ev.add (Ev.add (Ev.lit 7 (by decide +kernel)) (Ev.var (i := 5) rfl hb) (by decide)) (Ev.lit 6 (by decide +kernel)) (by decide)) (Ev.var (i := 4) rfl ha) (by decide)) (Ev.lit 1 (by decide +kernel)) (by decide)) (by decide) (EvL.cons (Ev.lit 7 (by decide +kernel)) (by decide) (EvL.cons (Ev.add (Ev.add (Ev.add (Ev.lit 8 (by decide +kernel)) (Ev.var (i := 4) rfl ha) (by decide)) (Ev.lit 3 (by decide +kernel)) (by decide)) (Ev.var (i := 6) rfl hc) (by decide)) (by decide) EvL.nil)))).ok
      have oM2 : ∀ r ∈ pM2 a b c n f e, okS r = true := (show EvL _ [none, none, none, none, some (.str a), some (.str b), some (.str c), some (.str n), some (.str f), some (.str e)] Hi (pM2 a b c n f e) from (EvL.cons (Ev.add (Ev.lit 5 (by decide +kernel)) (Ev.var (i := 4) rfl ha) (by decide)) (by decide) (EvL.cons (Ev.add (Ev.lit 7 (by decide +kernel)) (Ev.var (i := 4) rfl ha) (by decide)) (by decide) (EvL.cons (Ev.lit 1 (by decide +kernel)) (by decide) (EvL.cons (Ev.lit 6 (by decide +kernel)) (by decide) (EvL.cons (Ev.add (Ev.add (Ev.add (Ev.add (Ev.add (Ev.add (Ev.lit 5 (by decide +kernel)) (Ev.var (i := 7) rfl hn) (by decide)) (Ev.lit 4 (by decide +kernel)) (by decide)) (Ev.var (i := 7) rfl hn) (by decide)) (Ev.lit 3 (by decide +kernel)) (by decide)) (Ev.var (i := 7) rfl hn) (by decide)) (Ev.lit 1 (by decide +kernel)) (by decide)) (by decide) EvL.nil)))))).ok
      have oM3 : ∀ r ∈ pM3 a b c n f e, okS r = true := (show EvL _ [none, none, none, none, some (.str a), some (.str b), some (.str c), some (.str n), some (.str f), some (.str e)] Hi (pM3 a b c n f e) from (EvL.cons (Ev.lit 17 (by decide +kernel)) (by decide) (EvL.cons (Ev.add (Ev.add (Ev.lit 9 (by decide +kernel)) (Ev.var (i := 9) rfl he) (by decide)) (Ev.lit 11 (by decide +kernel)) (by decide)) (by decide) EvL.nil))).ok
      have kM := ((kM0.trans kM1).trans kM2).trans kM3
      refine ⟨_, rfl, p2, _, rfl, .inl ⟨SqL.of (kM.kp.lst hR2 (by simp)), fun tt ntt => ?_⟩⟩
      have k9 : Kt T [] HM3 (upd HM3 tt (.tup (((pR0 a b c n f e ++ pR1 a b c n f e) ++ pR2 a b c n f e).map V.str))) := Kt.new ntt
      have h9 : upd HM3 tt (.tup (((pR0 a b c n f e ++ pR1 a b c n f e) ++ pR2 a b c n f e).map V.str)) tt = some (.tup (((pR0 a b c n f e ++ pR1 a b c n f e) ++ pR2 a b c n f e).map V.str)) := upd_same
      generalize upd HM3 tt (.tup (((pR0 a b c n f e ++ pR1 a b c n f e) ++ pR2 a b c n f e).map V.str)) = H9 at k9 h9 ⊢
      refine ⟨_, rfl, (by show 2 ≤ sizeLine; decide), fun t nt => ?_⟩
      have kA := (((kR0.trans kR1).trans kR2).trans kM).trans k9
      have kB := kA.trans (Kt.new (o := .tup [.ref tt, .ref m3]) nt)
      refine hQ _ t tt m3 ((pR0 a b c n f e ++ pR1 a b c n f e) ++ pR2 a b c n f e) (((pM0 a b c n f e ++ pM1 a b c n f e) ++ pM2 a b c n f e) ++ pM3 a b c n f e) (kH.trans kB.of) (di.kp kB.kp (by simp)) upd_same ?_ ?_ ⟨rfl, rfl, fun r m => ?_, fun r m => ?_, _, _, rfl, rfl, ?_, ?_⟩
      · unfold RowsAt
        rw [upd_ne (ne_of_none h9 nt)]
        exact h9
      · have q := k9.kp.lst hM3 (by simp)
        rw [upd_ne (ne_of_none q nt)]
        exact q
      · rcases List.mem_append.mp m with m | m
        · rcases List.mem_append.mp m with m | m
          · exact oR0 r m
          · exact oR1 r m
        · exact oR2 r m
      · rcases List.mem_append.mp m with m | m
        · rcases List.mem_append.mp m with m | m
          · rcases List.mem_append.mp m with m | m
            · exact oM0 r m
            · exact oM1 r m
          · exact oM2 r m
        · exact oM3 r m
      · exact hd_app (by decide +kernel)
      · exact hd_app (hd_app (hd_app (hd_app (by decide +kernel))))
end
end K11
set_option maxHeartbeats 4000000
/-! M19: a drawn deed; what a deed says; whether a desk is empty; what are no rows. -/
namespace K11
open PySem PySem.Spec L2 DL LamX
open PySem.W (Frag keepIn findIn typeIn subIn mroIn specialIn takesIn kitOne kitAny excIn notFirst)
open PyProof.Rows hiding St wpAt wpAt_bind wpAt_stack wpAt_mono
theorem knew {T : List (Addr × Str)} {H : Hp} {y dy : Addr} {o u : HO} (n : H y = none) (n' : H dy = none) (h : dy ≠ y) : Kt T [] H (upd (upd H dy u) y o) := (Kt.new n').trans (Kt.new (by rw [upd_ne h.symm]; exact n))
/-- a method, ready to be called -/
structure ClM (P : Program) (w : World) (K : Frag) (mg : Str → Option Value) (base : Heap) (CX : CXT) (k : Nat) (C : Addr) (m : Str) (sp : Sp) : Prop where
  ex : ∃ (f : Addr) (fd : FuncData) (ps : List Str), L2.Meth K C m f ∧ FnOk P w K mg base CX k f fd ps sp ∧ L2.Binds K fd ps []
/-- a class, ready to be called -/
structure ClI (P : Program) (w : World) (K : Frag) (mg : Str → Option Value) (base : Heap) (CX : CXT) (k : Nat) (C : Addr) (ks : List Str) (sp : Sp) : Prop where
  ex : ∃ (f : Addr) (fd : FuncData) (ps : List Str), L2.Mk K C f ∧ FnOk P w K mg base CX k f fd ps sp ∧ L2.Binds K fd ps [] ∧ KBn K fd ps 1 ks (fun us ws => us ++ ws) (fun vs zs => vs ++ zs)
/-- a caught class -/
structure ExC (K : Frag) (mg : Str → Option Value) (x : Str) (C : Addr) : Prop where
  g : mg x = some (.ref C)
  ex : PySem.W.exmOne K (.ref C) (.ref C) = some true
  xf : XfC K C
def spDeed (T : List (Addr × Str)) : Sp := fun vs H Q _ => ∃ (a p lm : Addr) (k : Nat) (rs more : List Str), vs = [.ref a, .ref p, .ref lm] ∧ Dr H a k ∧ k ≤ 990 ∧ RowsAt H p rs ∧ rs.length ≤ 20 ∧ (∀ r ∈ rs, okS r = true) ∧
  H lm = some (.lst (more.map V.str)) ∧ lm ≠ a ∧ more.length = 13 ∧ (∀ r ∈ more, okS r = true) ∧ ∀ H' q dd k', Kt T [a] H H' → Dr H' a k' → k' ≤ k + 3 → DeedAt H' q dd → okD dd → Q (.ref q) H'
def spIsEmpty (C : Addr) (T : List (Addr × Str)) : Sp := fun vs H Q _ => ∃ (d l : Addr) (b rs : List Str) (ds : List Dd), vs = [.ref d] ∧ GoodD C H d l b rs ds [] ∧ ∀ H', Kt T [] H H' → Q (.bl true) H'
def spRefused (T : List (Addr × Str)) : Sp := fun vs H Q _ => ∃ x v, vs = [x, v] ∧ Tabs T H ∧ RowsIn H x (some v) ∧ scal v v = true ∧ ∀ H', Kt T [] H H' → Q (.bl true) H'
section
variable {w : World} {K : Frag} {mg : Str → Option Value} {base : Heap} {f : Addr} {fd : FuncData} {T : List (Addr × Str)} {C : Addr}
theorem ok_deed (F : L2.Fun K "_law_deed" "_law_deed" sDeed f fd) (N : Nms mg) (cT : Clb prg w K mg base 1 "_law_take" spTake []) (cP : Clb prg w K mg base 2 "_law_pick" spPick []) : FnG prg w K mg base 3 f fd ["draws", "rows", "more"] (spDeed T) := by
  have S := fsDeed
  refine fnG_mk F S (fun vs H Q E h => by obtain ⟨a, p, lm, k, rs, more, rfl, _⟩ := h; rfl) fun cdv A outer s H vs Q E hr gd hsp => ?_
  obtain ⟨a, p, lm, k, rs, more, rfl, hd, hk, hp, hl, ok1, hm, nma, lm13, ok2, hQ⟩ := hsp
  refine ⟨_, pss_cons (ps_par (i := 3) (j := 4) (by rfl) S.nd rfl rfl (by decide) rfl rfl (pa_cons (pe_clb cT hr (by decide) gd rfl (pa_cons (pv 0) (pa_cons pe_int pa_nil))) (pa_cons (pe_clb cT hr (by decide) gd rfl (pa_cons (pv 0) (pa_cons (pe_op op_add (pe_callB call_len_seq (by rfl) N.n_len (by decide +kernel) (pa_cons (pv 1) pa_nil)) pe_int) pa_nil))) pa_nil)) (by rfl))
    (pss_cons (ps_set (i := 5) S.nd rfl (Or.inl rfl) (pe_ifExp (pt_cmpR op_gt (pe_callB call_len_seq (by rfl) N.n_len (by decide +kernel) (pa_cons (pv 1) pa_nil)) pe_int (nomark _)) (pe_clb cP hr (by decide) gd rfl (pa_cons (pv 0) (pa_cons (pe_op op_cat (pv 2) (pe_callTy call_list_of (by rfl) N.n_list (by decide +kernel) (pa_cons (pv 1) pa_nil))) pa_nil))) (pe_clb cP hr (by decide) gd rfl (pa_cons (pv 0) (pa_cons (pv 2) pa_nil)))))
    (pss_one (ps_ret (pe_ifExp (pt_cmpR op_eq (pv 3) pe_int (nomark _)) (pe_tup (pa_cons pe_str (pa_cons (pv 4) pa_nil))) (pe_tup (pa_cons (pe_ifExp (pt_cmpR op_lt (pv 3) pe_int (nomark _)) pe_str pe_str) (pa_cons (pv 4) (pa_cons (pv 5) pa_nil)))))))), ?_⟩
  refine ⟨_, rfl, a, 5, k, rfl, hd, by omega, by decide, by decide, fun r1 f1 s1 a1 a2 a3 a4 => ?_⟩
  have k1 := hd.kt (T := T) f1 s1 (k + 1)
  have d1 : Dr (upd H a (.lst [.int f1, .int s1, .int (k + 1 : Nat)])) a (k + 1) := Dr.new a3 a4
  generalize upd H a (.lst [.int f1, .int s1, .int (k + 1 : Nat)]) = H1 at k1 d1 ⊢
  refine ⟨_, rfl, _, rfl, p, _, rfl, .inr (SqT.of (k1.kp.tup hp)), _, _, rfl, rfl, a, _, k + 1, rfl, d1, by omega, by omega, ?_, fun r2 f2 s2 b1 b2 b3 b4 => ?_⟩
  · rw [len_map]
    omega
  rw [len_map] at b2
  have k2 := k1.trans (d1.kt (T := T) f2 s2 (k + 1 + 1))
  have d2 : Dr (upd H1 a (.lst [.int f2, .int s2, .int (k + 1 + 1 : Nat)])) a (k + 1 + 1) := Dr.new b3 b4
  generalize upd H1 a (.lst [.int f2, .int s2, .int (k + 1 + 1 : Nat)]) = H2 at k2 d2 ⊢
  have hm2 : H2 lm = some (.lst (more.map V.str)) := k2.kp.lst hm (by simpa using nma)
  have hp2 := hp.kp k2.kp
  obtain ⟨j, rfl⟩ := Int.eq_ofNat_of_zero_le b1
  have hj : j ≤ 30 := by omega
  refine ⟨_, _, rfl, ?_⟩
  have fin : ∀ (r : Str) (H3 : Hp), okS r = true → Kt T [a] H H3 → Dr H3 a (k + 1 + 1 + 1) → tRet (tIf (tTest (tOp rEq (tVar 3) (tC (.int 0)))) (tTup (tCons (tC (.str "out")) (tCons (tVar 4) tNil))) (tTup (tCons (tIf (tTest (tOp (rI0 fun i j => .bl (decide (i < j))) (tVar 3) (tC (.int 3)))) (tC (.str "put")) (tC (.str "row"))) (tCons (tVar 4) (tCons (tVar 5) tNil)))))
      { nx := fun _ H' => Q .non H', rt := Q } [some (.ref a), some (.ref p), some (.ref lm), some (.int r1), some (.int (j : Nat)), some (.str r)] H3 := by
    intro r H3 okr k3 d3
    have out : ∀ (dd : Dd) (q : Addr), H3 q = none → okD dd → Q (.ref q) (upd H3 q (.tup (ddV dd))) := fun dd q nq okd => by
      have kq := k3.trans (Kt.new (o := .tup (ddV dd)) nq)
      refine hQ _ q dd (k + 3) kq ?_ (Nat.le_refl _) upd_same okd
      obtain ⟨x1, x2, x3, x4⟩ := d3
      exact ⟨x1, x2, by rw [upd_ne (ne_of_none x3 nq)]; exact x3, x4⟩
    refine ⟨_, rfl, rfl, _, rfl, ite2 (fun _ => ⟨_, rfl, (by show 2 ≤ sizeLine; decide), fun q nq => out (.out j) q nq hj⟩) fun _ => ⟨_, rfl, _, _, rfl, rfl, _, rfl, ite2 (fun _ => ⟨_, rfl, _, rfl, (by show 3 ≤ sizeLine; decide), fun q nq => out (.put j r) q nq ⟨hj, okr⟩⟩) fun _ => ⟨_, rfl, _, rfl, (by show 3 ≤ sizeLine; decide), fun q nq => out (.row j r) q nq ⟨hj, okr⟩⟩⟩⟩
  refine ⟨_, rfl, p, _, rfl, .inr (SqT.of hp2), _, _, rfl, rfl, _, rfl, ite2 (fun _ => ?_) fun _ => ?_⟩
  · refine ⟨_, rfl, _, rfl, _, rfl, p, _, rfl, .inr (SqT.of hp2), fun l3 n3 => ⟨lm, l3, more.map V.str, rs.map V.str, rfl, rfl, ?_, upd_same, ?_, fun l4 n4 => ?_⟩⟩
    · rw [upd_ne (ne_of_none hm2 n3)]
      exact hm2
    · rw [List.length_map, List.length_map]
      exact Nat.le_trans (show more.length + rs.length ≤ 100 by omega) (by decide)
    have k4 : Kt T [] H2 (upd (upd H2 l3 (.lst (rs.map V.str))) l4 (.lst (more.map V.str ++ rs.map V.str))) := (Kt.new n3).trans (Kt.new n4)
    have g4 : upd (upd H2 l3 (.lst (rs.map V.str))) l4 (.lst (more.map V.str ++ rs.map V.str)) l4 = some (.lst (more.map V.str ++ rs.map V.str)) := upd_same
    have d4 : Dr (upd (upd H2 l3 (.lst (rs.map V.str))) l4 (.lst (more.map V.str ++ rs.map V.str))) a (k + 1 + 1) := d2.kp k4.kp (by simp)
    have n4a : l4 ≠ a := by
      obtain ⟨x1, x2, x3, x4⟩ := d2
      have := (Kt.new (T := T) (D := []) (o := .lst (rs.map V.str)) n3).kp.lst x3 (by simp)
      exact (ne_of_none this n4).symm
    generalize upd (upd H2 l3 (.lst (rs.map V.str))) l4 (.lst (more.map V.str ++ rs.map V.str)) = H4 at k4 g4 d4 ⊢
    refine ⟨a, l4, k + 1 + 1, _, rfl, d4, by omega, g4, n4a, ?_, ?_, fun v f s hv s0 s1 => ?_⟩
    · rw [List.length_append, List.length_map, List.length_map]
      omega
    · rw [List.length_append, List.length_map, List.length_map]
      omega
    rw [← List.map_append] at hv
    obtain ⟨r, hr', rfl⟩ := List.mem_map.mp hv
    refine fin r _ ?_ ((k2.trans k4.of).trans (d4.kt (T := T) f s _)) (Dr.new s0 s1)
    rcases List.mem_append.mp hr' with m | m
    · exact ok2 r m
    · exact ok1 r m
  · refine ⟨_, rfl, _, rfl, a, lm, k + 1 + 1, _, rfl, d2, by omega, hm2, nma, ?_, ?_, fun v f s hv s0 s1 => ?_⟩
    · rw [List.length_map]
      omega
    · rw [List.length_map]
      omega
    obtain ⟨r, hr', rfl⟩ := List.mem_map.mp hv
    exact fin r _ (ok2 r hr') (k2.trans (d2.kt (T := T) f s _)) (Dr.new s0 s1)
theorem ok_isEmpty {CN : Addr} (F : L2.Fun K "_law_is_empty" "_law_is_empty" sIsEmpty f fd) (D : Dk K mg C) (X : ExC K mg "NothingToUndo" CN) (cU : ClM prg w K mg base (L2.CX prg w) 1 C "undo" (spUndo C CN T)) : FnG prg w K mg base 2 f fd ["desk"] (spIsEmpty C T) := by
  have S := fsIsEmpty
  obtain ⟨fU, fdU, psU, mU, FU, bU⟩ := cU.ex
  refine fnG_mk F S (fun vs H Q E h => by obtain ⟨d, l, b, rs, ds, rfl, _⟩ := h; rfl) fun cdv A outer s H vs Q E hr gd hsp => ?_
  obtain ⟨d, l, b, rs, ds, rfl, G, hQ⟩ := hsp
  obtain ⟨dx, pr, pb, pd, pps, h1, _⟩ := G.at_
  have hr' : Room 1 (A.deeper (envOfC "_law_is_empty" (defScope sIsEmpty) s.heap.objs.size f cdv)) := hr
  refine ⟨_, pss_one (ps_try_only rfl rfl ⟨rfl, by decide, .inl X.g⟩ L2.takes0 (fun W pn xe tk _ => pss_ex (hW := fun E => ∀ cls d σ H, E cls d H → W cls d σ H) (fun E hW => pss_cons (ps_expr (pe_meth0 (pv 0) D.cl mU FU ⟨hr'.hd, hr'.dp, hr'.un⟩ bU .nil (passes_call (E := E) tk hW))) (pss_one (ps_ret pe_bl)))) (fun a oe cls d pn _ _ => pss_one (ps_ret pe_bl))), ?_⟩
  refine ⟨fun cls _ H' => cls = .ref CN ∧ Q (.bl true) H', fun cls d' σ' H' h => ⟨true, by rw [h.1]; exact X.ex, fun _ a _ => h.2, fun z => nomatch z⟩, ?_⟩
  exact ⟨_, rfl, d, dx, _, rfl, h1, rfl, d, l, b, rs, ds, [], rfl, G, .inl ⟨rfl, fun H' k => ⟨rfl, hQ H' k⟩⟩⟩
theorem ok_refused {CR : Addr} (F : L2.Fun K "_law_is_refused" "_law_is_refused" sIsRefused f fd) (D : Dk K mg C) (X : ExC K mg "InvalidRows" CR) (hno : findIn K (.ref CR) "index" = some none) (cI : ClI prg w K mg base (L2.CX prg w) 6 C ["rows"] (spInit C CR T)) : FnG prg w K mg base 8 f fd ["odd", "index"] (spRefused T) := by
  have S := fsIsRefused
  obtain ⟨fI, fdI, psI, M, FI, bI, _⟩ := cI.ex
  refine fnG_mk F S (fun vs H Q E h => by obtain ⟨x, v, rfl, _⟩ := h; rfl) fun cdv A outer s H vs Q E hr gd hsp => ?_
  obtain ⟨x, v, rfl, hT, hR, hs, hQ⟩ := hsp
  have hr' : Room 7 (A.deeper (envOfC "_law_is_refused" (defScope sIsRefused) s.heap.objs.size f cdv)) := hr
  refine ⟨_, pss_one (ps_try_as (i := 2) rfl rfl S.nd rfl rfl ⟨rfl, by decide, .inl X.g⟩ L2.takes0
    (fun W pn xe tk _ => pss_cons (ps_expr (pe_makeS M FI ⟨hr'.hd, hr'.dp, hr'.un⟩ rfl D.g bI (fun σ => passAt tk σ) (pa_cons (pv 0) pa_nil))) (pss_one (ps_ret pe_bl)))
    (fun a oe cls d pn hz hf => pss_one (ps_ret (pe_cmpR op_eq (pe_xf X.xf hno hz hf (pv 2)) (pv 1) (nomark _))))), ?_⟩
  refine ⟨_, rfl, fun y dy ny ndy hne => ⟨y, dy, x, rfl, upd_same, ?_, .inr ⟨v, hR.same ?_, fun H' e k he => ⟨true, X.ex, fun _ a _ => ?_, fun z => nomatch z⟩⟩⟩⟩
  · exact (knew ny ndy hne).tb hT
  · exact fun b o e => by
      rw [upd_ne (ne_of_none e ny), upd_ne (ne_of_none e ndy)]
      exact e
  · refine ⟨_, rfl, rfl, rfl, e, _, v, rfl, he, rfl, _, rfl, hs, ?_⟩
    rw [decide_eq_true rfl]
    exact hQ _ ((knew ny ndy hne).trans k)
end
end K11
set_option maxHeartbeats 4000000
/-! M20: a desk led: its states; what a deed says; the run. -/
namespace K11
open PySem PySem.Spec L2 DL LamX
open PySem.W (Frag keepIn findIn typeIn subIn mroIn specialIn takesIn kitOne kitAny excIn notFirst)
open PyProof.Rows hiding St wpAt wpAt_bind wpAt_stack wpAt_mono
/-- from first by the deeds: the rows ahead of each, and those behind -/
inductive Led (first : List Str) : List (List Str) → List Str → List Dd → Prop
  | nil : Led first [] first []
  | snoc {ps : List (List Str)} {r r' : List Str} {ds : List Dd} {dd : Dd} (h : Led first ps r ds) (m : mv r dd = .inr r') : Led first (ps ++ [r]) r' (ds ++ [dd])
theorem Led.len {first r : List Str} {ps : List (List Str)} {ds : List Dd} (h : Led first ps r ds) : ps.length = ds.length := by
  induction h with
  | nil => rfl
  | snoc h m ih => rw [List.length_append, List.length_append, ih]; rfl
theorem Led.inv {first r : List Str} {ps : List (List Str)} {ds : List Dd} {dd : Dd} (h : Led first ps r (ds ++ [dd])) : ∃ ps' r', Led first ps' r' ds ∧ mv r' dd = .inr r ∧ ps = ps' ++ [r'] := by
  generalize e : ds ++ [dd] = l at h
  cases h with
  | nil => simp at e
  | snoc h m =>
    obtain ⟨rfl, e2⟩ := List.append_inj' e rfl
    cases e2
    exact ⟨_, _, h, m, rfl⟩
theorem Led.det {first r r2 : List Str} {ps ps2 : List (List Str)} {ds : List Dd} (h : Led first ps r ds) (h2 : Led first ps2 r2 ds) : ps = ps2 ∧ r = r2 := by
  induction h generalizing ps2 r2 with
  | nil =>
    generalize e : ([] : List Dd) = l at h2
    cases h2 with
    | nil => exact ⟨rfl, rfl⟩
    | snoc h m => simp at e
  | snoc h m ih =>
    obtain ⟨ps', r', h', m', rfl⟩ := h2.inv
    obtain ⟨rfl, rfl⟩ := ih h'
    rw [m] at m'
    cases m'
    exact ⟨rfl, rfl⟩
theorem Led.take {first r : List Str} {ps : List (List Str)} {ds : List Dd} (h : Led first ps r ds) (i : Nat) : ∃ psi ri, Led first psi ri (ds.take i) := by
  induction h with
  | nil => exact ⟨_, _, by rw [List.take_nil]; exact .nil⟩
  | snoc h m ih =>
    rename_i ps r r' ds dd
    by_cases hi : i ≤ ds.length
    · rw [List.take_append_of_le_length hi]
      exact ih
    · rw [List.take_of_length_le (by rw [List.length_append]; show ds.length + 1 ≤ i; omega)]
      exact ⟨_, _, .snoc h m⟩
/-- what _law_said makes of what its lambda does -/
def TSaid (K : Frag) (CB : Addr) : (XK → Hp → VK → Prop) → Hp → VK → Prop := fun tl H Q =>
  tl (fun cls d H' => cls = .ref CB ∧ ∃ dd fs v, d = some dd ∧ H' dd = some (.xd fs) ∧ fs.lookup ("reason" : Str) = some v ∧ Q v H') H fun v H' => V.non = V.non ∧ ∃ k, V.bl (decide (v = V.non)) = V.bl k ∧ if k = true then Q (.str "done") H' else Q (.str "told") H'
theorem said_gives {X : Cx} {CB g : Addr} {cdg : Value} {q : Str} (B : ExC X.K X.mg "Barred" CB) (hno : findIn X.K (.ref CB) "reason" = some none) :
    GivesTo X nSaid "_law_said" (defScope sSaid) g cdg (defBody sSaid) "act" q (TSaid X.K CB) := by
  intro f c' s H Q tl act hc h
  refine ⟨_, pss_one (ps_try_fst (X := (cxOf C8.CX0 X.prog X.w X.K X.mg X.base nSaid "_law_said" (defScope sSaid) g cdg X.A X.stack s H C8.E0).nox) (i := 1) (c := .ref CB)
      (ts := fun a cls d => tRet (tXf a cls d CB "reason" (tVar 1)))
      rfl rfl fsSaid.nd rfl rfl ⟨rfl, by decide, .inl B.g⟩ (fun W pn xe tk _ => pss_ex (hW := fun E => ∀ cls d σ' H', E cls d H' → W cls d σ' H') (fun E hW => pss_one (ps_ret (pe_ifExp (pt_cmpR op_isN (act W pn xe E _ _ tk hW) pe_non (nomark _)) pe_str pe_str))))
      (fun a oe cls d pn hz hf => pss_one (ps_ret (pe_xf (C := CB) B.xf hno hz hf (pv 1))))), ?_⟩
  refine ⟨_, fun cls d σ' H' e hl => ?_, rfl, hc, h⟩
  obtain ⟨rfl, dd, fs, v, e1, e2, e3, e4⟩ := e
  refine ⟨B.ex, fun a _ => ?_⟩
  refine ⟨.ref a, ?_, rfl, rfl, dd, fs, v, e1, e2, e3, e4⟩
  have hl' : σ'.length = 2 := hl
  rw [List.getElem?_set_self (by omega)]
end K11
set_option maxHeartbeats 4000000
/-! M21: the run. -/
namespace K11
open PySem PySem.Spec L2 DL LamX
open PySem.W (Frag keepIn findIn typeIn subIn mroIn specialIn takesIn kitOne kitAny excIn notFirst)
open PyProof.Rows hiding St wpAt wpAt_bind wpAt_stack wpAt_mono
abbrev qR : Str := (envOfC "_law_run" (defScope sRun) 0 0 .none).qual ++ "<lambda>"
def spRun (C : Addr) (T : List (Addr × Str)) : Sp := fun vs H Q _ => ∃ (a p lm d l : Addr) (k : Nat) (first more : List Str), vs = [.ref a, .ref p, .ref lm, .ref d] ∧ Tabs T H ∧ Dr H a k ∧ k ≤ 900 ∧ RowsAt H p first ∧
  H lm = some (.lst (more.map V.str)) ∧ more.length = 13 ∧ (∀ r ∈ more, okS r = true) ∧ GoodD C H d l first first [] [] ∧ lm ≠ a ∧ l ≠ a ∧ lm ≠ l ∧
  ∀ H' ls k' sps ps r ds, Kt T [a, d, l] H H' → Dr H' a k' → k' ≤ k + 60 → H' ls = some (.lst (sps.map V.ref)) → TextsAt H' sps (ps ++ [r]) → Led first ps r ds → GoodD C H' d l first r ds ps → ds.length ≤ 12 → H ls = none → ls ≠ a → ls ≠ l → Q (.ref ls) H'
theorem Led.small {first r : List Str} {ps : List (List Str)} {ds : List Dd} (h : Led first ps r ds) (l : first.length ≤ 20) : (∀ x ∈ ps, x.length ≤ 20) ∧ r.length ≤ 20 := by
  induction h with
  | nil => exact ⟨fun x m => (by cases m), l⟩
  | snoc h m ih =>
    refine ⟨fun x mx => ?_, mv_len m ih.2⟩
    rcases List.mem_append.mp mx with q | q
    · exact ih.1 x q
    · rw [List.mem_singleton.mp q]
      exact ih.2
theorem DeedsAt.init {H H' : Hp} {D : List Addr} {p' : Addr} {ds : List Dd} {qs : List Addr} (l : qs.length = ds.length) (f : ∀ (i : Nat) q d, qs[i]? = some q → ds[i]? = some d → DeedAt H q d) (k : Kp D H H') (e : H' p' = some (.tup (cutV (qs.map V.ref) none (some (-1))))) : DeedsAt H' p' ds.dropLast := by
  refine ⟨qs.dropLast, ?_, by rw [List.length_dropLast, List.length_dropLast, l], fun i q x a b => (f i q x ?_ ?_).kp k⟩
  · rw [List.map_dropLast, e, cut_init]
  · rw [List.getElem?_dropLast] at a
    split at a
    · exact a
    · cases a
  · rw [List.getElem?_dropLast] at b
    split at b
    · exact b
    · cases b
/-- the loop's invariant -/
def RunI (C : Addr) (T : List (Addr × Str)) (H : Hp) (a p lm d l : Addr) (k : Nat) (first : List Str) (ls : Addr) (i : Nat) (σ : L2.St) (Hi : Hp) : Prop := ∃ (pdh : Addr) (o6 o7 o8 : Option V) (k' : Nat) (sps : List Addr) (ps : List (List Str)) (r : List Str) (ds : List Dd),
  σ = [some (.ref a), some (.ref p), some (.ref lm), some (.ref d), some (.ref ls), some (.ref pdh), o6, o7, o8] ∧ Kt T [ls, a, d, l] H Hi ∧ Dr Hi a k' ∧ k' ≤ k + 5 * i ∧ Hi ls = some (.lst (sps.map V.ref)) ∧ TextsAt Hi sps (ps ++ [r]) ∧ Led first ps r ds ∧ GoodD C Hi d l first r ds ps ∧ ds.length ≤ i ∧ DeedsAt Hi pdh ds
section
variable {w : World} {K : Frag} {mg : Str → Option Value} {base : Heap} {f : Addr} {fd : FuncData} {T : List (Addr × Str)} {C : Addr}
theorem tyStr {H : Hp} {x : Str} : TyX K H (.str x) (.type "str") := .base (.str x)
theorem ok_run {CN CB c P : Addr} (F : L2.Fun K "_law_run" "_law_run" sRun f fd) (N : Nms mg) (D : Dk K mg C) (hcode : fd.code = .ref c) (TB : TabB base mg c P) (hm : (P, qR) ∈ T) (hu : ∀ p ∈ T, p.1 = P → p.2 = qR)
    (cT : Clb prg w K mg base 1 "_law_take" spTake []) (cD : Clb prg w K mg base 3 "_law_deed" (spDeed T) []) (cM : Clb prg w K mg base 1 "_law_move" (spMove T) []) (cS : Clb prg w K mg base 2 "_law_is_so" (spIsSo C T) [])
    (cU : ClM prg w K mg base (L2.CX prg w) 1 C "undo" (spUndo C CN T)) (cO : ClM prg w K mg base (L2.CX prg w) 4 C "do" (spDo C CB T)) (B : ExC K mg "Barred" CB) (hno : findIn K (.ref CB) "reason" = some none)
    {g : Addr} {fdg : FuncData} (FS : L2.Fun K "_law_said" "_law_said" sSaid g fdg) (mgS : mg "_law_said" = some (.ref g)) : FnG prg w K mg base 7 f fd ["draws", "first", "more", "desk"] (spRun C T) := by
  have S := fsRun
  obtain ⟨fU, fdU, psU, mU, FU, bU⟩ := cU.ex
  obtain ⟨fO, fdO, psO, mO, FO, bO⟩ := cO.ex
  obtain ⟨oc, od, kV, doc, pm, an, cdv, ct, osl, rfl, lkS, hcS⟩ := FS.ex
  have bS := FS.binds (ps := ["act"]) fun _ _ _ _ _ _ us hl => match us, hl with | [_], _ => rfl
  refine fnG_mkC F hcode S (fun vs H Q E h => by obtain ⟨a, p, lm, d, l, k, first, more, rfl, _⟩ := h; rfl) fun A outer s H vs Q E hr gd hsp => ?_
  obtain ⟨a, p, lm, d, l, k, first, more, rfl, hT, hd0, hk, hp, hlm, l13, okm, G0, n1, n2, n3, hQ⟩ := hsp
  have hr6 : Room 6 (A.deeper (envOfC "_law_run" (defScope sRun) s.heap.objs.size f (.ref c))) := hr
  have tail : ∀ (D' : Ends) (i : Nat) (pdh ls : Addr) (o6 o7 o8 : Option V) (k' : Nat) (sps : List Addr) (ps : List (List Str)) (r : List Str) (ds : List Dd) (Hn : Hp), (∀ σ H', RunI C T H a p lm d l k first ls (i + 1) σ H' → D'.nx σ H') →
      Kt T [ls, a, d, l] H Hn → Dr Hn a k' → k' ≤ k + 5 * (i + 1) → Hn ls = some (.lst (sps.map V.ref)) → TextsAt Hn sps (ps ++ [r]) → Led first ps r ds → GoodD C Hn d l first r ds ps → ds.length ≤ i + 1 → DeedsAt Hn pdh ds → ls ≠ a → ls ≠ l →
      tIfS (tNot (tB (tCall (spIsSo C T) [] E0 (tCons (tVar 3) (tCons (tOp (rIxL K) (tVar 4) (tUn (rU fun i => .int (-i)) (tC (.int 1)))) (tCons (tVar 5) tNil)))))) (tRet (tC .non)) tNext D' [some (.ref a), some (.ref p), some (.ref lm), some (.ref d), some (.ref ls), some (.ref pdh), o6, o7, o8] Hn := by
    intro D' i pdh ls o6 o7 o8 k' sps ps r ds Hn hD kn dn hk' hls ht hled G hl hpd na nl
    obtain ⟨tl, ta⟩ := id ht
    rcases List.eq_nil_or_concat sps with rfl | ⟨sps', q, rfl⟩
    · rw [List.length_append] at tl
      simp at tl
    rw [List.concat_eq_append] at hls tl ta
    have lq : sps'.length = ps.length := by simpa using tl
    have hq : RowsAt Hn q r := ta sps'.length q r (by simp) (by rw [lq]; simp)
    refine ⟨_, rfl, _, rfl, _, rfl, ls, _, _, .ref q, rfl, rfl, SqL.of hls, ?_, _, rfl, d, l, q, pdh, first, r, ds, ps, rfl, G, hq, hpd, fun H' k2 => ⟨true, rfl, iteF (hD _ _ ?_)⟩⟩
    · rw [List.map_append]
      exact atI_last _ _
    · refine ⟨pdh, o6, o7, o8, k', _, ps, r, ds, rfl, kn.trans k2.of, dn.kp k2.kp (by simp), hk', k2.kp.lst hls (by simp), ?_, hled, G.kt k2 (by simp) (by simp), hl, hpd.kp k2.kp⟩
      rw [List.concat_eq_append] at ht
      exact ht.kp k2.kp
  refine ⟨_, pss_cons (ps_par (i := 4) (j := 5) (by rfl) S.nd rfl rfl (by decide) rfl rfl (pa_cons (pe_lst (pa_cons (pv 1) pa_nil)) (pa_cons (pe_tup pa_nil) pa_nil)) (by rfl))
    (pss_cons (ps_for PassesOwn.never rfl (pi_range1 rfl N.n_range (pa_cons pe_int pa_nil)) (pg_name (i := 6) S.nd rfl (Or.inl rfl))
      (pss_cons (ps_if (PW.pt (pw_and (pt_cmpR op_eq (pe_clb cT hr (by decide) gd rfl (pa_cons (pv 0) (pa_cons pe_int pa_nil))) pe_int (nomark _)) (pw_and1 (pt_cmpR op_gt (pe_callB call_len_seq (by rfl) N.n_len (by decide +kernel) (pa_cons (pv 4) pa_nil)) pe_int (nomark _)))))
        (pss_cons (ps_if (pt_cmpR op_notN (pe_meth0 (pv 3) D.cl mU FU (hr6.mono (by decide)) bU .nil passL) pe_non (nomark _)) (pss_one (ps_ret pe_non)) pss_nil)
        (pss_cons (ps_expr (pe_bm0 PySem.F.plainAttrs_list PySem.F.slot_list_pop PySem.F.type_list_pop mt_pop (pv 4)))
        (pss_one (ps_set (i := 5) S.nd rfl (Or.inl rfl) (pe_slice sl_tupA (pv 5) po_none (po_some (pe_un un_neg pe_int)))))))
        (pss_cons (ps_set (i := 7) S.nd rfl (Or.inr rfl) (pe_clb cD hr (by decide) gd rfl (pa_cons (pv 0) (pa_cons (pe_ix ix_list (pv 4) (pe_un un_neg pe_int) (fun _ _ => rfl)) (pa_cons (pv 2) pa_nil)))))
        (pss_cons (ps_set (i := 8) S.nd rfl (Or.inl rfl) (pe_clb cM hr (by decide) gd rfl (pa_cons (pe_ix ix_list (pv 4) (pe_un un_neg pe_int) (fun _ _ => rfl)) (pa_cons (pv 7) pa_nil))))
        (pss_cons (ps_if (pt_cmpR op_ne (pe_lamcall (k := 4) (T := T) (t := fun E => tMeth C "do" (spDo C CB T) [] E (tVar 3) (tCons (tVar 7) tNil)) rfl mgS FS.kp lkS hcS bS fsSaid rfl (.inl rfl) (said_gives (q := qR) B hno) TB rfl hm hu (hr6.mono (by decide)) (lamS_by (sc := defScope sRun) (by decide +kernel)) rfl (fun _ _ _ _ _ => rfl)
            (fun A' outer' s' H' E' f' c'' hr2 => pe_meth (pv 3) D.cl mO FO hr2 bO .nil (passes_call (takes_of rfl rfl rfl rfl) (fun _ _ _ _ h => h)) (pa_cons (pv 7) pa_nil)))
          (pe_ifExp (pt_val (pe_callB call_isi (by rfl) N.n_isinstance (by decide +kernel) (pa_cons (pv 8) (pa_cons (pe_bltn (v := .ty "str") rfl N.n_str (by decide +kernel) rfl) pa_nil)))) (pv 8) pe_str) (nomark _)) (pss_one (ps_ret pe_non)) pss_nil)
        (pss_one (ps_if (pt_not (pt_val (pe_callB call_isi (by rfl) N.n_isinstance (by decide +kernel) (pa_cons (pv 8) (pa_cons (pe_bltn (v := .ty "str") rfl N.n_str (by decide +kernel) rfl) pa_nil)))))
          (pss_cons (ps_expr (pe_bm PySem.F.plainAttrs_list PySem.F.slot_list_append PySem.F.type_list_append mt_append (pv 4) (pa_cons (pv 8) pa_nil))) (pss_one (ps_set (i := 5) S.nd rfl (Or.inl rfl) (pe_op op_catA (pv 5) (pe_tup (pa_cons (pv 7) pa_nil)))))) pss_nil))))))
      (pss_one (ps_if (pt_not (pt_val (pe_clb cS hr (by decide) gd rfl (pa_cons (pv 3) (pa_cons (pe_ix ix_list (pv 4) (pe_un un_neg pe_int) (fun _ _ => rfl)) (pa_cons (pv 5) pa_nil)))))) (pss_one (ps_ret pe_non)) pss_nil))))
    (pss_one (ps_ret (pv 4)))), ?_⟩
  refine ⟨_, rfl, (by show 1 ≤ sizeLine; decide), fun ls nls => ⟨(by show 0 ≤ sizeLine; omega), fun pdh npd => ⟨_, _, rfl, ?_⟩⟩⟩
  have k0 : Kt T [] H (upd (upd H ls (.lst [.ref p])) pdh (.tup [])) := (Kt.new nls).trans (Kt.new npd)
  have g1 : upd (upd H ls (.lst [.ref p])) pdh (.tup []) ls = some (.lst [.ref p]) := by
    rw [upd_ne (ne_of_none upd_same npd)]
    exact upd_same
  have g2 : upd (upd H ls (.lst [.ref p])) pdh (.tup []) pdh = some (.tup []) := upd_same
  generalize upd (upd H ls (.lst [.ref p])) pdh (.tup []) = H0 at k0 g1 g2 ⊢
  have na : ls ≠ a := by
    obtain ⟨x1, x2, x3, _⟩ := hd0
    exact (ne_of_none x3 nls).symm
  obtain ⟨dx, pr, pb, pd, pps, e1, e2, e3, e4, e5, e6⟩ := G0.at_
  have nl : ls ≠ l := (ne_of_none e5 nls).symm
  have nd : ls ≠ d := (ne_of_none e1 nls).symm
  have ndl : d ≠ l := ne_of e1 e5 (by intro z; cases z)
  have nda : d ≠ a := by
    obtain ⟨x1, x2, x3, _⟩ := hd0
    exact ne_of e1 x3 (by intro z; cases z)
  refine ⟨12, rfl, by decide, by decide, for_range (n := 12) (fun i σ Hi => RunI C T H a p lm d l k first ls i σ Hi) ⟨pdh, none, none, none, k, [p], [], first, [], rfl, k0.of, hd0.kp k0.kp (by simp), by omega, g1, ⟨rfl, fun i q x hq hx => ?_⟩, .nil, G0.kt k0 (by simp) (by simp), Nat.le_refl _, ⟨[], g2, rfl, fun i q x hq => by simp at hq⟩⟩ (fun i σ Hi hi h => ?_) fun σ Hi h => ?_⟩
  · cases i with
    | zero =>
      cases hq
      cases hx
      exact hp.kp k0.kp
    | succ n => simp at hq
  · obtain ⟨pdh, o6, o7, o8, k', sps, ps, r, ds, rfl, ki, di, hk', hls, ht, hled, G, hl, hpd⟩ := h
    refine ⟨_, rfl, a, 5, k', rfl, di, by omega, by decide, by decide, fun r1 f1 s1 a1 a2 a3 a4 => ?_⟩
    have kt1 := di.kt (T := T) f1 s1 (k' + 1)
    have d1 : Dr (upd Hi a (.lst [.int f1, .int s1, .int (k' + 1 : Nat)])) a (k' + 1) := Dr.new a3 a4
    generalize upd Hi a (.lst [.int f1, .int s1, .int (k' + 1 : Nat)]) = H1 at kt1 d1 ⊢
    have k1 : Kt T [ls, a, d, l] H H1 := ki.trans (kt1.mono (by simp))
    have hls1 := kt1.kp.lst hls (by simpa using na)
    have ht1 := ht.kp kt1.kp
    have G1 := G.kt kt1 (by simpa using nda) (by simpa using n2)
    have hpd1 := hpd.kp kt1.kp
    have lenS : sps.length = ps.length + 1 := by
      have := ht.1
      rw [List.length_append] at this
      exact this
    have spl : ∃ sps' q, sps = sps' ++ [q] := by
      rcases List.eq_nil_or_concat sps with rfl | ⟨sps', q, rfl⟩
      · simp at lenS
      · exact ⟨sps', q, List.concat_eq_append⟩
    obtain ⟨sps', q, rfl⟩ := spl
    have lq : sps'.length = ps.length := by
      rw [List.length_append] at lenS
      exact Nat.succ.inj lenS
    have hq1 : RowsAt H1 q r := ht1.2 sps'.length q r (by simp) (by rw [lq]; simp)
    refine ⟨rfl, _, rfl, ite2 (fun _ => ⟨_, rfl, ls, _, rfl, .inl (SqL.of hls1), _, _, rfl, rfl, _, rfl, ite2 (fun gt => ?th) fun _ => ?el⟩) fun _ => iteF ?el2⟩
    case th =>
      have gt := of_decide_eq_true gt
      have psn : ps.length ≠ 0 := fun z => by
        rw [List.length_map, List.length_append, lq, z] at gt
        simp at gt
      obtain ⟨ds', dd, rfl⟩ : ∃ ds' dd, ds = ds' ++ [dd] := by
        rcases List.eq_nil_or_concat ds with rfl | ⟨ds', dd, rfl⟩
        · exact absurd hled.len (by simpa using psn)
        · exact ⟨ds', dd, List.concat_eq_append⟩
      obtain ⟨ps', r0, hled', _, rfl⟩ := hled.inv
      obtain ⟨dx1, pr1, pb1, pd1, pps1, i1, _⟩ := G1.at_
      have okr0 : r0.length ≤ 20 := (hled.small G0.nr).1 r0 (by simp)
      refine ⟨_, rfl, d, dx1, _, rfl, i1, rfl, d, l, first, r, _, _, rfl, G1, .inr ⟨ps', r0, rfl, okr0, fun H2 k2 G2 => ⟨rfl, _, rfl, iteF ?_⟩⟩⟩
      rw [List.dropLast_concat] at G2
      have hls2 := k2.kp.lst hls1 (by simp [nd, nl])
      refine ⟨_, rfl, .inl ⟨rfl, _, SqL.of hls2⟩, ls, _, .ref q, rfl, rfl, hls2, (by simp), ?_⟩
      rw [List.map_append, List.map_singleton, List.dropLast_concat]
      have k3 : Kt T [ls, a, d, l] H2 (upd H2 ls (.lst (sps'.map V.ref))) := Kt.put hls2 rfl (by simp)
      have hls3 : upd H2 ls (.lst (sps'.map V.ref)) ls = some (.lst (sps'.map V.ref)) := upd_same
      have k3' : Kt T [ls] H2 (upd H2 ls (.lst (sps'.map V.ref))) := Kt.put hls2 rfl (by simp)
      generalize upd H2 ls (.lst (sps'.map V.ref)) = H3 at k3 k3' hls3 ⊢
      have kA : Kt T [ls, a, d, l] H H3 := (k1.trans (k2.mono (by simp))).trans k3
      obtain ⟨qs, h4, l4, f4⟩ := hpd1
      have hqs3 := k3'.kp.tup (k2.kp.tup h4)
      refine ⟨_, rfl, _, rfl, _, rfl, slA_of (T := T) hqs3 fun p5 H5 k5 hp5 => ?_⟩
      have kk : Kt T [ls, d, l] H1 H5 := ((k2.mono (by simp)).trans (k3'.mono (by simp))).trans k5.of
      have pd5 := DeedsAt.init l4 f4 kk.kp hp5
      rw [List.dropLast_concat] at pd5
      refine tail _ i p5 ls _ o7 o8 (k' + 1) sps' ps' r0 ds' H5 (fun _ _ z => z) (kA.trans k5.of) (d1.kp kk.kp (by simp [Ne.symm na, Ne.symm nda, Ne.symm n2])) (by omega) (k5.kp.lst hls3 (by simp)) ?_ hled' ((G2.kt k3' (by simp [Ne.symm nd]) (by simp [Ne.symm nl])).kt k5 (by simp) (by simp)) ?_ pd5 na nl
      · have := ht1.dropLast
        rw [List.dropLast_concat, List.dropLast_concat] at this
        exact this.kp kk.kp
      · rw [List.length_append] at hl
        have : ds'.length + 1 ≤ i := hl
        omega
    all_goals
      have hlm1 : H1 lm = some (.lst (more.map V.str)) := k1.kp.lst hlm (by simp [ne_of_none hlm nls, n1, n3, ne_of hlm e1 (by intro z; cases z)])
      have tT : Tabs T H1 := k1.tb hT
      have lastq : atI ((sps' ++ [q]).map V.ref) (-1) = some (.ref q) := by
        rw [List.map_append]
        exact atI_last _ _
      refine ⟨_, rfl, _, rfl, _, rfl, ls, _, _, .ref q, rfl, rfl, SqL.of hls1, lastq, _, rfl, a, q, lm, k' + 1, r, more, rfl, d1, by omega, hq1, G1.nr, G1.okR, hlm1, n1, l13, okm, fun H2 qd dd k2' kt2 d2 hk2 hdd okdd => ?_⟩
      have hls2 := kt2.kp.lst hls1 (by simpa using na)
      have hq2 := hq1.kp kt2.kp
      refine ⟨_, rfl, _, rfl, ls, _, _, .ref q, rfl, rfl, SqL.of hls2, lastq, _, rfl, q, qd, r, dd, rfl, hq2, hdd, G1.nr, fun w hw H3 k3 => ?_, fun r2 hm2 p2 H3 k3 hp2 => ?_⟩
      · refine ⟨k3.tb (kt2.tb tT), fun H4 eN T4 => ?_⟩
        have k4 : Kt T [] H3 H4 := Kt.ext eN T4
        have kx : Kt T [a] H1 H4 := (kt2.trans k3.of).trans k4.of
        have G4 := G1.kt kx (by simpa using nda) (by simpa using n2)
        obtain ⟨dx1, pr1, pb1, pd1, pps1, i1, _⟩ := G4.at_
        refine ⟨_, rfl, d, dx1, _, rfl, i1, rfl, _, rfl, d, l, qd, first, r, ds, ps, dd, rfl, G4, hdd.kp (k3.trans k4).kp, okdd, by omega, by rw [hled.len]; omega, fun r2 hm2 H5 k5 G5 => ?_, fun w' hw' H5 e5 k5 he5 => ?_⟩
        · rw [hw] at hm2
          cases hm2
        · rw [hw] at hw'
          cases hw'
          refine ⟨rfl, e5, _, .str w, rfl, he5, rfl, _, rfl, _, _, _, _, true, rfl, .ty _, tyStr, kit_same, true, rfl, iteT ⟨_, rfl, rfl, _, rfl, ?_⟩⟩
          rw [decide_eq_true rfl]
          refine iteF ⟨_, rfl, _, _, _, _, true, rfl, .ty _, tyStr, kit_same, true, rfl, iteF ?_⟩
          have ky : Kt T [a] H1 H5 := kx.trans k5.of
          exact tail _ i pdh ls _ _ _ k2' (sps' ++ [q]) ps r ds H5 (fun _ _ z => z) (k1.trans (ky.mono (by simp))) (((d2.kp k3.kp (by simp)).kp k4.kp (by simp)).kp k5.kp (by simp)) (by omega) (ky.kp.lst hls1 (by simpa using na)) (ht1.kp ky.kp) hled (G4.kt k5 (by simp) (by simp)) (by omega) (hpd1.kp ky.kp) na nl
      · refine ⟨k3.tb (kt2.tb tT), fun H4 eN T4 => ?_⟩
        have k4 : Kt T [] H3 H4 := Kt.ext eN T4
        have kx : Kt T [a] H1 H4 := (kt2.trans k3.of).trans k4.of
        have G4 := G1.kt kx (by simpa using nda) (by simpa using n2)
        obtain ⟨dx1, pr1, pb1, pd1, pps1, i1, _⟩ := G4.at_
        refine ⟨_, rfl, d, dx1, _, rfl, i1, rfl, _, rfl, d, l, qd, first, r, ds, ps, dd, rfl, G4, hdd.kp (k3.trans k4).kp, okdd, by omega, by rw [hled.len]; omega, fun r3 hm3 H5 k5 G5 => ?_, fun w' hw' => by rw [hm2] at hw'; cases hw'⟩
        rw [hm2] at hm3
        cases hm3
        have hp5 : RowsAt H5 p2 r2 := (hp2.kp k4.kp).kp k5.kp
        have tyT : ∀ {Hx}, RowsAt Hx p2 r2 → TyX K Hx (.ref p2) (.type "tuple") := fun h => .base (.tup h)
        refine ⟨rfl, true, rfl, iteT ⟨_, rfl, _, _, _, _, false, rfl, .ty _, tyT hp5, kit_ty (by decide +kernel), false, rfl, iteF ⟨rfl, _, rfl, ?_⟩⟩⟩
        rw [decide_eq_true rfl]
        refine iteF ⟨_, rfl, _, _, _, _, false, rfl, .ty _, tyT hp5, kit_ty (by decide +kernel), false, rfl, iteT ?_⟩
        have kz : Kt T [a, d, l] H1 H5 := (kx.mono (by simp)).trans (k5.mono (by simp))
        have hls5 := kz.kp.lst hls1 (by simp [na, nd, nl])
        refine ⟨_, rfl, .inl ⟨rfl, _, SqL.of hls5⟩, _, rfl, ls, _, _, rfl, rfl, hls5, ?_, ?_⟩
        · rw [List.length_map, lenS]
          have := hled.len
          exact Nat.lt_of_le_of_lt (show ps.length + 1 ≤ 100 by omega) (by decide)
        have e7 : (sps' ++ [q]).map V.ref ++ [V.ref p2] = ((sps' ++ [q]) ++ [p2]).map V.ref := by simp
        rw [e7]
        have k6 : Kt T [ls] H5 (upd H5 ls (.lst (((sps' ++ [q]) ++ [p2]).map V.ref))) := Kt.put hls5 rfl (by simp)
        have hls6 : upd H5 ls (.lst (((sps' ++ [q]) ++ [p2]).map V.ref)) ls = some (.lst (((sps' ++ [q]) ++ [p2]).map V.ref)) := upd_same
        generalize upd H5 ls (.lst (((sps' ++ [q]) ++ [p2]).map V.ref)) = H6 at k6 hls6 ⊢
        refine ⟨_, rfl, _, rfl, (by show 1 ≤ sizeLine; decide), fun t nt => ?_⟩
        have k7 : Kt T [] H6 (upd H6 t (.tup [.ref qd])) := Kt.new nt
        have g7 : upd H6 t (.tup [.ref qd]) t = some (.tup [.ref qd]) := upd_same
        generalize upd H6 t (.tup [.ref qd]) = H7 at k7 g7 ⊢
        obtain ⟨qs, h4, l4, f4⟩ := hpd1
        have kw : Kt T [ls, a, d, l] H1 H7 := ((kz.mono (by simp)).trans (k6.mono (by simp))).trans k7.of
        refine catA_of (T := T) (xs := qs.map V.ref) (ys := [.ref qd]) (kw.kp.tup h4) g7 ?_ fun p8 H8 k8 hp8 => ?_
        · rw [List.length_map, l4]
          show ds.length + 1 ≤ 1000
          omega
        have kv : Kt T [ls, a, d, l] H1 H8 := kw.trans k8.of
        have k58 : Kt T [ls] H5 H8 := (k6.trans k7.of).trans k8.of
        have d3 : Dr H5 a k2' := ((d2.kp k3.kp (by simp)).kp k4.kp (by simp)).kp k5.kp (by simp [Ne.symm nda, Ne.symm n2])
        refine tail _ i p8 ls _ _ _ k2' ((sps' ++ [q]) ++ [p2]) (ps ++ [r]) r2 (ds ++ [dd]) H8 (fun _ _ z => z) (k1.trans kv) (d3.kp k58.kp (by simp [Ne.symm na])) (by omega) (k8.kp.lst (k7.kp.lst hls6 (by simp)) (by simp)) ((ht1.kp kv.kp).snoc (hp5.kp k58.kp)) (.snoc hled hm2) (G5.kt k58 (by simp [Ne.symm nd]) (by simp [Ne.symm nl])) ?_ (DeedsAt.snoc (kv.kp.tup h4) l4 (fun i x y a b => (f4 i x y a b).kp kv.kp) (((hdd.kp (k3.trans k4).kp).kp k5.kp).kp k58.kp) ?_) na nl
        · rw [List.length_append]
          show ds.length + 1 ≤ i + 1
          omega
        · rw [List.map_append]
          exact hp8
  · obtain ⟨pdh, o6, o7, o8, k', sps, ps, r, ds, rfl, ki, di, hk', hls, ht, hled, G, hl, hpd⟩ := h
    exact ⟨_, rfl, hQ _ ls k' sps ps r ds (ki.drop nls) di (by omega) hls ht hled G hl nls na nl⟩
end
end K11
set_option maxHeartbeats 4000000
/-! M22: new desks; desks compared. -/
namespace K11
open PySem PySem.Spec L2 DL LamX
open PySem.W (Frag keepIn findIn typeIn subIn mroIn specialIn takesIn kitOne kitAny excIn notFirst)
open PyProof.Rows hiding St wpAt wpAt_bind wpAt_stack wpAt_mono
/-- == of the class, ready -/
structure ClE (P : Program) (w : World) (K : Frag) (mg : Str → Option Value) (base : Heap) (C : Addr) (sp : Sp) : Prop where
  ex : ∃ (f : Addr) (fd : FuncData) (ps : List Str), EqC K C f ∧ FnOk P w K mg base CX0 1 f fd ps sp ∧ L2.Binds K fd ps []
theorem Kt.dropF {T : List (Addr × Str)} {D : List Addr} {H H' : Hp} {y : Addr} (h : Kt T (y :: D) H H') (n : Fr H y) : Kt T D H H' := ⟨fun b o e c z => h.kp b o e (fun q m => by
  rcases List.mem_cons.mp m with e2 | m
  · rw [e2] at e
    obtain ⟨ps, e3⟩ := n o e
    exact z ps e3
  · exact c q m) z, h.tb⟩
section
variable {K : Frag} {mg : Str → Option Value} {T : List (Addr × Str)} {C CR : Addr} {H : Hp} {p d d2 l l2 : Addr} {rs b b2 rs2 : List Str} {ds ds2 : List Dd} {ps ps2 : List (List Str)} {Q : VK} {E : XK} {r neg : Bool} {y : V} {t : Value}
theorem make_good {y dy : Addr} {R : VK} (ny : H y = none) (ndy : H dy = none) (hne : dy ≠ y) (hT : Tabs T H) (hp : RowsAt H p rs) (l20 : rs.length ≤ 20) (ok : ∀ r ∈ rs, okS r = true) (q : ∀ l H', Fr H l → l ≠ y → Kt T [] H H' → GoodD C H' y l rs rs [] [] → R .non H') :
    spInit C CR T [.ref y, .ref p] (upd (upd H dy (.own y)) y (.ins C dy [])) R E := by
  have k1 : Kt T [] H (upd (upd H dy (.own y)) y (.ins C dy [])) := knew ny ndy hne
  refine ⟨y, dy, .ref p, rfl, upd_same, k1.tb hT, .inl ⟨p, rs, rfl, hp.kp k1.kp, l20, ok, fun H' l fr k2 dk => ?_⟩⟩
  have ly : l ≠ y := fun z => by
    obtain ⟨q, e⟩ := fr _ (by rw [z]; exact upd_same)
    cases e
  refine q l H' (fun o e => ?_) ly ((k1.of.trans k2).drop ny) ⟨dk, l20, ok, ok, fun x m => (by cases m), fun x m => (by cases m), Nat.zero_le _, Nat.zero_le _⟩
  by_cases z : ∃ ps, o = .tbl ps
  · exact z
  · exact fr o (k1.kp l o e (fun _ => by simp) fun ps e => z ⟨ps, e⟩)
theorem eq_desk (D : Dk K mg C) (G : GoodD C H d l b rs ds ps) (G2 : GoodD C H d2 l2 b2 rs2 ds2 ps2) (ha : EqAns b b2 ds ds2 r) (q : ∀ H', Kt T [] H H' → Q (.bl (if neg then !r else r)) H') : rOwnV K C (spEq C K T) neg (.ref d) (.ref d2) H Q := by
  obtain ⟨dx, _, _, _, _, h1, _⟩ := G.at_
  obtain ⟨dx2, _, _, _, _, i1, _⟩ := G2.at_
  exact ⟨d, dx, _, .ref C, rfl, h1, .base (.ins i1 D.cl D.ca D.hn D.ht D.mo), D.fI, d, l, b, rs, ds, ps, _, rfl, G, .inl ⟨d2, l2, b2, rs2, ds2, ps2, r, rfl, G2, ha, fun H' k => ⟨r, rfl, q H' k⟩⟩⟩
theorem eq_odd (G : GoodD C H d l b rs ds ps) (ty : TyX K H y t) (nf : notFirst K C t = true) (k : kitOne K t (.ref C) = some false) (q : Q (.bl (if neg then !false else false)) H) : rOwnV K C (spEq C K T) neg (.ref d) y H Q := by
  obtain ⟨dx, _, _, _, _, h1, _⟩ := G.at_
  exact ⟨d, dx, _, t, rfl, h1, ty, nf, d, l, b, rs, ds, ps, y, rfl, G, .inr ⟨t, ty, k, false, rfl, q⟩⟩
end
section
variable {K : Frag} {mg : Str → Option Value} {T : List (Addr × Str)} {C : Addr} {H : Hp} {p d d2 l l2 : Addr} {rs b b2 rs2 : List Str} {ds ds2 : List Dd} {ps ps2 : List (List Str)} {Q : VK} {r : Bool}
theorem eq_deskE (D : Dk K mg C) (G : GoodD C H d l b rs ds ps) (G2 : GoodD C H d2 l2 b2 rs2 ds2 ps2) (ha : EqAns b b2 ds ds2 r) (q : ∀ H', Kt T [] H H' → Q (.bl r) H') : rOwnV K C (spEq C K T) false (.ref d) (.ref d2) H Q := eq_desk D G G2 ha q
theorem eq_deskN (D : Dk K mg C) (G : GoodD C H d l b rs ds ps) (G2 : GoodD C H d2 l2 b2 rs2 ds2 ps2) (ha : EqAns b b2 ds ds2 r) (q : ∀ H', Kt T [] H H' → Q (.bl (!r)) H') : rOwnV K C (spEq C K T) true (.ref d) (.ref d2) H Q := eq_desk D G G2 ha q
theorem Pg.neqs {first more : List Str} (g : Pg first more) : first.drop 1 ≠ first ∧ first.reverse ≠ first ∧ [] ≠ first ∧ first.dropLast ++ [("" : Str)] ≠ first := by
  obtain ⟨x, y, h0, h7, hx, hy⟩ := g.ne
  have l := g.l1
  refine ⟨fun e => ?_, fun e => ?_, fun e => ?_, fun e => ?_⟩
  · have := congrArg List.length e
    rw [List.length_drop] at this
    omega
  · have : first.reverse[0]? = first[0]? := by rw [e]
    rw [List.getElem?_reverse (by omega), l, h0, h7] at this
    cases this
    rw [hx] at hy
    cases hy
  · rw [← e] at l
    cases l
  · have : (first.dropLast ++ [("" : Str)])[7]? = first[7]? := by rw [e]
    rw [List.getElem?_append_right (by rw [List.length_dropLast]; omega), List.length_dropLast, l, h7] at this
    cases this
    cases hy
end
/-- a desk that began otherwise -/
def Far (C : Addr) (H : Hp) (first : List Str) (x : V) : Prop := ∃ fx lx bx, x = .ref fx ∧ GoodD C H fx lx bx bx [] [] ∧ bx ≠ first
theorem Far.kt {C : Addr} {T : List (Addr × Str)} {H H' : Hp} {first : List Str} {x : V} (h : Far C H first x) (k : Kt T [] H H') : Far C H' first x := by
  obtain ⟨fx, lx, bx, e, G, n⟩ := h
  exact ⟨fx, lx, bx, e, G.kt k (by simp) (by simp), n⟩
/-- what is no desk -/
def Odd (K : Frag) (C : Addr) (H : Hp) (x : V) : Prop := ∃ t, TyX K H x t ∧ notFirst K C t = true ∧ kitOne K t (.ref C) = some false
def spAreEqual (C : Addr) (T : List (Addr × Str)) : Sp := fun vs H Q _ => ∃ (d l p : Addr) (first r more : List Str) (ds : List Dd) (ps : List (List Str)), vs = [.ref d, .ref p] ∧ Tabs T H ∧ GoodD C H d l first r ds ps ∧ Led first ps r ds ∧ RowsAt H p first ∧ Pg first more ∧ ds.length ≤ 12 ∧ ∀ H', Kt T [] H H' → Q (.bl true) H'
section
variable {w : World} {K : Frag} {mg : Str → Option Value} {base : Heap} {f : Addr} {fd : FuncData} {T : List (Addr × Str)} {C : Addr}
theorem ok_areEqual {CN CB CR : Addr} (F : L2.Fun K "_law_are_equal" "_law_are_equal" sAreEqual f fd) (N : Nms mg) (D : Dk K mg C) (cS : Clb prg w K mg base 1 "_law_same" spSame [])
    (cU : ClM prg w K mg base (L2.CX prg w) 1 C "undo" (spUndo C CN T)) (cO : ClM prg w K mg base (L2.CX prg w) 4 C "do" (spDo C CB T)) (cX : ClM prg w K mg base CX0 2 C "text" (spText C T)) (cI : ClI prg w K mg base (L2.CX prg w) 6 C ["rows"] (spInit C CR T)) (cE : ClE prg w K mg base C (spEq C K T)) :
    FnG prg w K mg base 8 f fd ["desk", "first"] (spAreEqual C T) := by
  have S := fsAreEqual
  obtain ⟨fU, fdU, psU, mU, FU, bU⟩ := cU.ex
  obtain ⟨fO, fdO, psO, mO, FO, bO⟩ := cO.ex
  obtain ⟨fX, fdX, psX, mX, FX, bX⟩ := cX.ex
  obtain ⟨fI, fdI, psI, M, FI, bI, kI⟩ := cI.ex
  obtain ⟨fE, fdE, psE, EQ, FE, bE⟩ := cE.ex
  refine fnG_mk F S (fun vs H Q E h => by obtain ⟨d, l, p, first, r, more, ds, ps, rfl, _⟩ := h; rfl) fun cdv A outer s H vs Q E hr gd hsp => ?_
  obtain ⟨d, l, p, first, r, more, ds, ps, rfl, hT, G, hled, hp, pg, hds, hQ⟩ := hsp
  have hr7 : Room 7 (A.deeper (envOfC "_law_are_equal" (defScope sAreEqual) s.heap.objs.size f cdv)) := hr
  have r1 := hr7.mono (show 1 ≤ 7 by decide)
  have r2 := hr7.mono (show 2 ≤ 7 by decide)
  refine ⟨_, pss_cons (ps_set (i := 2) S.nd rfl (Or.inl rfl) (pe_makeK M FI hr7 rfl D.g kI passL (pk_cons (pv 1) pk_nil)))
    (pss_cons (ps_for PassesOwn.never rfl (pi_tup (pe_fld (pv 0) rfl)) (pg_name (i := 3) S.nd rfl (Or.inl rfl)) (pss_one (ps_expr (pe_meth (pv 2) D.cl mO FO (hr7.mono (by decide)) bO .nil passL (pa_cons (pv 3) pa_nil)))))
    (pss_cons (ps_if (pt_not (pt_val (pe_clb cS hr (by decide) gd rfl (pa_cons (pe_lstB (pa_cons (pe_cmpR (op_ownEq EQ FE bE r1) (pv 0) (pv 2) (nomark _)) (pa_cons (pe_cmpR (op_ownEq EQ FE bE r1) (pv 2) (pv 0) (nomark _)) (pa_cons (pe_cmpR (op_ownNe EQ FE bE r2) (pv 0) (pv 2) (nomark _)) pa_nil)))) (pa_cons (pe_lstB (pa_cons pe_bl (pa_cons pe_bl (pa_cons pe_bl pa_nil)))) pa_nil))))) (pss_one (ps_ret pe_bl)) pss_nil)
    (pss_cons (ps_for PassesOwn.never rfl (pi_list (pe_lst (pa_cons (pe_make M FI hr7 rfl D.g bI .nil passL (pa_cons (pe_slice sl_tupA (pv 1) (po_some pe_int) po_none) pa_nil)) (pa_cons (pe_make M FI hr7 rfl D.g bI .nil passL (pa_cons (pe_revT (pv 1)) pa_nil)) (pa_cons (pe_make M FI hr7 rfl D.g bI .nil passL (pa_cons (pe_tup pa_nil) pa_nil)) (pa_cons (pe_make M FI hr7 rfl D.g bI .nil passL (pa_cons (pe_op op_catA (pe_slice sl_tupA (pv 1) po_none (po_some (pe_un un_neg pe_int))) (pe_tup (pa_cons pe_str pa_nil))) pa_nil)) pa_nil)))))) (pg_name (i := 4) S.nd rfl (Or.inl rfl))
      (pss_one (ps_if (PW.pt (pw_or (pt_cmpR (op_ownEq EQ FE bE r1) (pv 4) (pe_make M FI hr7 rfl D.g bI .nil passL (pa_cons (pv 1) pa_nil)) (nomark _)) (pw_or1 (pt_not (pt_cmpR (op_ownNe EQ FE bE r2) (pv 4) (pe_make M FI hr7 rfl D.g bI .nil passL (pa_cons (pv 1) pa_nil)) (nomark _)))))) (pss_one (ps_ret pe_bl)) pss_nil)))
    (pss_cons (ps_set (i := 5) S.nd rfl (Or.inl rfl) (pe_lst (pa_cons pe_non (pa_cons (pe_fld (pv 0) rfl) (pa_cons (pe_fld (pv 0) rfl) (pa_cons (pe_meth0 (pv 0) D.cl mX FX r2 bX .nil pass0) (pa_cons (pe_tup (pa_cons (pv 0) pa_nil)) (pa_cons pe_bl pa_nil))))))))
    (pss_cons (ps_if (PW.pt (pw_or (pt_cmpR (op_ownNe EQ FE bE r2) (pv 0) (pv 0) (nomark _)) (pw_or (pt_not (pt_truthR (pv 0) tru_ins (by intro _; rfl))) (pw_or1 (pt_cmpR (op_neD hr.units) (pe_lc (own := [("each", 6)]) (g := gName 6) (by rfl) S.nd (pi_list (pv 5)) (blkOk_by (own := [("each", 6)]) (N := nAreEqual) (sc := defScope sAreEqual) (by decide +kernel)) (fun _ _ _ _ _ => pg_name (i := 6) S.nd rfl (Or.inl rfl))
        (fun _ _ _ _ _ => pts_one (PW.pt (pw_or (pt_cmpR (r := rOwnV K C (spEq C K T) false) (op_ownEq EQ FE bE r1) (pv 0) (pv 6) (nomark _)) (pw_or1 (pt_not (pt_cmpR (r := rOwnV K C (spEq C K T) true) (op_ownNe EQ FE bE r2) (pv 0) (pv 6) (nomark _))))))) (fun _ _ _ _ _ => pv 6)) (pe_lst pa_nil) (nomark _)))))) (pss_one (ps_ret pe_bl)) pss_nil)
    (pss_cons (ps_if (pt_cmpR (op_neD hr.units) (pe_fld (pv 2) rfl) (pe_tup pa_nil) (nomark _)) (pss_cons (ps_expr (pe_meth0 (pv 2) D.cl mU FU r1 bU .nil passL)) (pss_one (ps_ret (pe_and (pe_cmpR (op_ownNe EQ FE bE r2) (pv 2) (pv 0) (nomark _)) (pe_one (pe_cmpR (op_ownNe EQ FE bE r2) (pv 0) (pv 2) (nomark _))))))) pss_nil)
    (pss_one (ps_ret (pe_cmpR (op_ownEq EQ FE bE r1) (pe_make M FI hr7 rfl D.g bI .nil passL (pa_cons (pv 1) pa_nil)) (pv 0) (nomark _)))))))))), ?_⟩
  obtain ⟨nq1, nq2, nq3, nq4⟩ := pg.neqs
  have l8 := pg.l1
  have okf := pg.k1
  obtain ⟨dx0, pr0, pb0, pd0, pps0, i1, i2, i3, i4, i5, i6⟩ := id G.at_
  refine ⟨_, rfl, rfl, fun g dg ng ndg0 hne => make_good ng ndg0 hne hT hp (by omega) okf fun lg H1 nlg nlgy k1 GA => ⟨rfl, ?_⟩⟩
  have ndg : d ≠ g := ne_of_none i1 ng
  have nlg_ : l ≠ g := ne_of_none i5 ng
  have ndlg : d ≠ lg := nlg.ne i1 fun ps z => by cases z
  have nllg : l ≠ lg := nlg.ne i5 fun ps z => by cases z
  have G1 := G.kt k1 (by simp) (by simp)
  obtain ⟨dx1, pr1, pb1, pd1, pps1, j1, j2, j3, ⟨qs, j4, l4, f4⟩, j5, j6⟩ := id G1.at_
  refine ⟨_, rfl, d, C, dx1, _, _, rfl, j1, D.cl, D.nD, lkD, pd1, rfl, ⟨_, SqT.of j4⟩, ?_⟩
  refine for_tup (xs := qs.map V.ref) (fun i σ Hi => ∃ (o3 : Option V) (psi : List (List Str)) (ri : List Str), σ = [some (.ref d), some (.ref p), some (.ref g), o3, none, none, none] ∧ Kt T [g, lg] H1 Hi ∧ Led first psi ri (ds.take i) ∧ GoodD C Hi g lg first ri (ds.take i) psi)
    ⟨none, [], first, rfl, Kt.refl, .nil, GA⟩ (fun i σ Hi _ h => by obtain ⟨_, _, _, _, k, _⟩ := h; exact SqT.of (k.kp.tup j4)) (fun i x σ Hi hx h => ?_) fun σ Hi h => ?_
  · obtain ⟨o3, psi, ri, rfl, ki, ledi, Gi⟩ := h
    rw [List.getElem?_map] at hx
    obtain ⟨q, hq, rfl⟩ := Option.map_eq_some_iff.mp hx
    have hi : i < ds.length := by
      rw [← l4]
      exact (List.getElem?_eq_some_iff.mp hq).1
    obtain ⟨psn, rn, ledn⟩ := hled.take (i + 1)
    have e : ds.take (i + 1) = ds.take i ++ [ds[i]] := by
      rw [List.take_add_one]
      simp [hi]
    rw [e] at ledn
    obtain ⟨ps', r', led', m', rfl⟩ := ledn.inv
    obtain ⟨rfl, rfl⟩ := ledi.det led'
    obtain ⟨dxg, _, _, _, _, hg1, _⟩ := Gi.at_
    have lt : (ds.take i).length = i := by rw [List.length_take]; omega
    refine ⟨_, rfl, g, dxg, _, rfl, hg1, rfl, _, rfl, g, lg, q, first, ri, ds.take i, psi, ds[i], rfl, Gi, (f4 i q ds[i] hq (by simp [hi])).kp ki.kp, G.okD _ (List.getElem_mem hi), by omega, by rw [ledi.len]; omega, fun rs' hm' H' k' G' => ?_, fun w hw => by rw [m'] at hw; cases hw⟩
    exact ⟨_, psi ++ [ri], rs', rfl, ki.trans k', by rw [e]; exact .snoc ledi hm', by rw [e]; exact G'⟩
  obtain ⟨o3, psi, ri, rfl, ki, ledi, Gi⟩ := h
  rw [List.length_map, l4, List.take_length] at ledi Gi
  obtain ⟨rfl, rfl⟩ := hled.det ledi
  have kA : Kt T [] H Hi := ((k1.of.trans ki).drop ng).dropF nlg
  have Gd := G.kt kA (by simp) (by simp)
  have same : EqAns first first ds ds true := .inl ⟨rfl, rfl, rfl⟩
  -- led alike
  refine ⟨_, rfl, _, rfl, eq_deskE (r := true) D Gd Gi same fun H2 k2 => ?_⟩
  have Gd2 := Gd.kt k2 (by simp) (by simp)
  have Gi2 := Gi.kt k2 (by simp) (by simp)
  refine ⟨_, rfl, _, rfl, eq_deskE (r := true) D Gi2 Gd2 same fun H3 k3 => ?_⟩
  have Gd3 := Gd2.kt k3 (by simp) (by simp)
  have Gi3 := Gi2.kt k3 (by simp) (by simp)
  refine ⟨_, rfl, _, rfl, eq_deskN (r := true) D Gd3 Gi3 same fun H4 k4 => ⟨(by show 3 ≤ sizeLine; decide), fun t1 n1 z1 => ?_⟩⟩
  have k5 : Kt T [] H4 (upd H4 t1 (.lst [.bl true, .bl true, .bl (!true)])) := Kt.new n1
  have g5 : upd H4 t1 (.lst [.bl true, .bl true, .bl (!true)]) t1 = some (.lst [.bl true, .bl true, .bl false]) := upd_same
  generalize upd H4 t1 (.lst [.bl true, .bl true, .bl (!true)]) = H5 at k5 g5 ⊢
  refine ⟨(by show 3 ≤ sizeLine; decide), fun t2 n2 z2 => ?_⟩
  have k6 : Kt T [] H5 (upd H5 t2 (.lst [.bl true, .bl true, .bl false])) := Kt.new n2
  have g6 : upd H5 t2 (.lst [.bl true, .bl true, .bl false]) t2 = some (.lst [.bl true, .bl true, .bl false]) := upd_same
  generalize upd H5 t2 (.lst [.bl true, .bl true, .bl false]) = H6 at k6 g6 ⊢
  have rzb : ∀ Hx, RzAll Hx [.bl true, .bl true, .bl false] [.bool true, .bool true, .bool false] := fun Hx => .cons (.bl _) (.cons (.bl _) (.cons (.bl _) .nil))
  refine ⟨_, _, .list [.bool true, .bool true, .bool false], rfl, .lst (k6.kp.lst g5 (by simp)) z1 (rzb _), .lst g6 z2 (rzb _), by decide +kernel, by decide +kernel, by decide +kernel, true, rfl, iteF ?_⟩
  have k36 := (k4.trans k5).trans k6
  have kB := ((kA.trans k2).trans k3).trans k36
  have Gd6 := Gd3.kt k36 (by simp) (by simp)
  have Gi6 := Gi3.kt k36 (by simp) (by simp)
  have hp6 := hp.kp kB.kp
  have hT6 := kB.tb hT
  clear Gd3 Gi3 Gd2 Gi2 k2 k3 k4 k5 k6 g5 g6 Gd Gi ki
  -- others
  refine ⟨_, rfl, _, rfl, slN_of (T := T) hp6 fun p7 H7 k7 h7 => ?_⟩
  rw [show (some (1 : Int)) = some ((1 : Nat) : Int) from rfl, cut_drop, ← List.map_drop] at h7
  refine fun y1 dy1 ny1 ndy1 hne1 => make_good ny1 ndy1 hne1 (k7.tb hT6) h7 (by rw [List.length_drop]; omega) (fun r m => okf r (List.mem_of_mem_drop m)) fun l1 H8 _ _ k8 GF1 => ⟨rfl, ?_⟩
  have k78 := k7.trans k8
  refine ⟨_, rfl, p, _, rfl, SqT.of (hp6.kp k78.kp), fun p9 n9 => ?_⟩
  have k9 : Kt T [] H8 (upd H8 p9 (.tup (first.map V.str).reverse)) := Kt.new n9
  have h9 : upd H8 p9 (.tup (first.map V.str).reverse) p9 = some (.tup (first.reverse.map V.str)) := by rw [upd_same, List.map_reverse]
  generalize upd H8 p9 (.tup (first.map V.str).reverse) = H9 at k9 h9 ⊢
  refine fun y2 dy2 ny2 ndy2 hne2 => make_good ny2 ndy2 hne2 (k9.tb (k78.tb hT6)) h9 (by rw [List.length_reverse]; omega) (fun r m => okf r (List.mem_reverse.mp m)) fun l2 H10 _ _ k10 GF2 => ⟨rfl, ?_⟩
  refine ⟨(by show 0 ≤ sizeLine; omega), fun p11 n11 => ?_⟩
  have k11 : Kt T [] H10 (upd H10 p11 (.tup [])) := Kt.new n11
  have h11 : upd H10 p11 (.tup []) p11 = some (.tup (([] : List Str).map V.str)) := upd_same
  generalize upd H10 p11 (.tup []) = H11 at k11 h11 ⊢
  have kC := (k9.trans k10).trans k11
  refine fun y3 dy3 ny3 ndy3 hne3 => make_good ny3 ndy3 hne3 (kC.tb (k78.tb hT6)) h11 (Nat.zero_le _) (fun r m => by cases m) fun l3 H12 _ _ k12 GF3 => ⟨rfl, ?_⟩
  have kD := ((k78.trans kC).trans k12)
  refine ⟨_, rfl, _, rfl, _, rfl, slA_of (T := T) (hp6.kp kD.kp) fun p13 H13 k13 h13 => ?_⟩
  rw [cut_init, ← List.map_dropLast] at h13
  refine ⟨(by show 1 ≤ sizeLine; decide), fun p14 n14 => ?_⟩
  have k14 : Kt T [] H13 (upd H13 p14 (.tup [.str ""])) := Kt.new n14
  have h14 : upd H13 p14 (.tup [.str ""]) p14 = some (.tup [.str ""]) := upd_same
  generalize upd H13 p14 (.tup [.str ""]) = H14 at k14 h14 ⊢
  refine catA_of (T := T) (k14.kp.tup h13) h14 (by rw [List.length_map, List.length_dropLast]; show _ + 1 ≤ 1000; omega) fun p15 H15 k15 h15 => ?_
  have h15' : RowsAt H15 p15 (first.dropLast ++ [("" : Str)]) := by
    unfold RowsAt
    rw [h15, List.map_append]
    rfl
  have kE := ((kD.trans k13).trans k14).trans k15
  refine fun y4 dy4 ny4 ndy4 hne4 => make_good ny4 ndy4 hne4 (kE.tb hT6) h15' (by rw [List.length_append, List.length_dropLast]; show _ + 1 ≤ 20; omega) (fun r m => by
    rcases List.mem_append.mp m with m | m
    · exact okf r ((List.dropLast_sublist first).subset m)
    · rw [List.mem_singleton.mp m]
      decide +kernel) fun l4' H16 _ _ k16 GF4 => ⟨rfl, ?_⟩
  have kF := kE.trans k16
  refine ⟨(by show 4 ≤ sizeLine; decide), fun lf nlf => ?_⟩
  have k17 : Kt T [] H16 (upd H16 lf (.lst [.ref y1, .ref y2, .ref y3, .ref y4])) := Kt.new nlf
  have h17 : upd H16 lf (.lst [.ref y1, .ref y2, .ref y3, .ref y4]) lf = some (.lst [.ref y1, .ref y2, .ref y3, .ref y4]) := upd_same
  generalize upd H16 lf (.lst [.ref y1, .ref y2, .ref y3, .ref y4]) = H17 at k17 h17 ⊢
  have kG := kF.trans k17
  have far : ∀ x ∈ [V.ref y1, .ref y2, .ref y3, .ref y4], Far C H17 first x := fun x m => by
    have a1 : Kt T [] H8 H17 := ((((((kC.trans k12).trans k13).trans k14).trans k15).trans k16)).trans k17 |> fun z => z
    have a2 : Kt T [] H10 H17 := (((((k11.trans k12).trans k13).trans k14).trans k15).trans k16).trans k17
    have a3 : Kt T [] H12 H17 := (((k13.trans k14).trans k15).trans k16).trans k17
    simp only [List.mem_cons, List.not_mem_nil, or_false] at m
    rcases m with rfl | rfl | rfl | rfl
    · exact ⟨y1, l1, _, rfl, GF1.kt a1 (by simp) (by simp), nq1⟩
    · exact ⟨y2, l2, _, rfl, GF2.kt a2 (by simp) (by simp), nq2⟩
    · exact ⟨y3, l3, _, rfl, GF3.kt a3 (by simp) (by simp), nq3⟩
    · exact ⟨y4, l4', _, rfl, GF4.kt k17 (by simp) (by simp), nq4⟩
  have hp17 := hp6.kp kG.kp
  have hT17 := kG.tb hT6
  have Gd17 := Gd6.kt kG (by simp) (by simp)
  have Gi17 := Gi6.kt kG (by simp) (by simp)
  have kH := kB.trans kG
  clear GF1 GF2 GF3 GF4 k7 k8 k9 k10 k11 k12 k13 k14 k15 k16 k17 kE kD kC k78 kF Gd6 Gi6 hp6 hT6
  refine ⟨lf, rfl, ⟨_, SqL.of h17⟩, for_list (xs := [V.ref y1, .ref y2, .ref y3, .ref y4]) (fun i σ Hj => ∃ o4 : Option V, σ = [some (.ref d), some (.ref p), some (.ref g), o3, o4, none, none] ∧ Kt T [] H17 Hj) ⟨none, rfl, Kt.refl⟩ (fun i σ Hj _ h => by obtain ⟨_, _, k⟩ := h; exact SqL.of (k.kp.lst h17 (by simp))) (fun i x σ Hj hx h => ?_) fun σ Hj h => ?_⟩
  · obtain ⟨o4, rfl, kj⟩ := h
    obtain ⟨fx, lx, bx, rfl, Gx, nx⟩ := (far x (List.mem_of_getElem? hx)).kt kj
    have ans : EqAns bx first [] [] false := .inr ⟨rfl, .inl nx⟩
    refine ⟨_, rfl, _, rfl, fun y dy ny ndy hne => make_good ny ndy hne (kj.tb hT17) (hp17.kp kj.kp) (by omega) okf fun ly H18 _ _ k18 GY => ⟨rfl, eq_deskE (r := false) D (Gx.kt k18 (by simp) (by simp)) GY ans fun H19 k19 => ⟨_, rfl, iteF ?_⟩⟩⟩
    have k189 := k18.trans k19
    refine ⟨_, rfl, _, rfl, fun y' dy' ny' ndy' hne' => make_good ny' ndy' hne' (k189.tb (kj.tb hT17)) ((hp17.kp kj.kp).kp k189.kp) (by omega) okf fun ly' H20 _ _ k20 GY' => ⟨rfl, eq_deskN (r := false) D ((Gx.kt k189 (by simp) (by simp)).kt k20 (by simp) (by simp)) GY' ans fun H21 k21 => ⟨_, rfl, iteF ⟨_, rfl, ((kj.trans k189).trans k20).trans k21⟩⟩⟩⟩
  obtain ⟨o4, rfl, kj⟩ := h
  have Gd := Gd17.kt kj (by simp) (by simp)
  have Gi := Gi17.kt kj (by simp) (by simp)
  have hpj := hp17.kp kj.kp
  have hTj := kj.tb hT17
  have kK := kH.trans kj
  clear Gd17 Gi17 hp17 hT17 kH kG kB
  obtain ⟨dxd, prd, pbd, pdd, ppsd, d1, d2, d3, d4, d5, d6⟩ := id Gd.at_
  -- what is no desk
  refine ⟨_, rfl, d, C, dxd, _, _, rfl, d1, D.cl, D.nR, lkR, _, rfl, d, C, dxd, _, _, rfl, d1, D.cl, D.nD, lkD, _, rfl, d, dxd, _, rfl, d1, rfl, d, l, first, _, _, _, rfl, Gd, fun tx H18 k18 => ?_⟩
  refine ⟨_, rfl, (by show 1 ≤ sizeLine; decide), fun tp ntp => ?_⟩
  have k19 : Kt T [] H18 (upd H18 tp (.tup [.ref d])) := Kt.new ntp
  have h19 : upd H18 tp (.tup [.ref d]) tp = some (.tup [.ref d]) := upd_same
  generalize upd H18 tp (.tup [.ref d]) = H19 at k19 h19 ⊢
  refine ⟨(by show 6 ≤ sizeLine; decide), fun lo nlo => ?_⟩
  have k20 : Kt T [] H19 (upd H19 lo (.lst [.non, .ref prd, .ref pdd, .str tx, .ref tp, .bl true])) := Kt.new nlo
  have h20 : upd H19 lo (.lst [.non, .ref prd, .ref pdd, .str tx, .ref tp, .bl true]) lo = some (.lst [.non, .ref prd, .ref pdd, .str tx, .ref tp, .bl true]) := upd_same
  generalize upd H19 lo (.lst [.non, .ref prd, .ref pdd, .str tx, .ref tp, .bl true]) = H20 at k20 h20 ⊢
  have k1820 := (k18.trans k19).trans k20
  have odd : ∀ Hx, Kt T [] H20 Hx → ∀ x ∈ [V.non, .ref prd, .ref pdd, .str tx, .ref tp, .bl true], Odd K C Hx x := fun Hx kx x m => by
    have kz := k1820.trans kx
    simp only [List.mem_cons, List.not_mem_nil, or_false] at m
    rcases m with rfl | rfl | rfl | rfl | rfl | rfl
    · exact ⟨_, .base .non, D.fN, D.kN⟩
    · exact ⟨_, .base (.tup (kz.kp.tup d2)), D.fT, D.kT⟩
    · obtain ⟨qs', e, _⟩ := d4
      exact ⟨_, .base (.tup (kz.kp.tup e)), D.fT, D.kT⟩
    · exact ⟨_, .base (.str _), D.fS, D.kS⟩
    · exact ⟨_, .base (.tup ((k20.trans kx).kp.tup h19)), D.fT, D.kT⟩
    · exact ⟨_, .base (.bl _), D.fB, D.kB⟩
  have Gd20 := Gd.kt k1820 (by simp) (by simp)
  have Gi20 := Gi.kt k1820 (by simp) (by simp)
  have hp20 := hpj.kp k1820.kp
  have hT20 := k1820.tb hTj
  have kL := kK.trans k1820
  clear Gd Gi d1 d2 d3 d4 d5 d6 hpj hTj k18 k19
  refine ⟨_, rfl, _, rfl, eq_deskN (r := true) D Gd20 Gd20 same fun H21 k21 => ⟨_, rfl, iteF ?_⟩⟩
  have Gd21 := Gd20.kt k21 (by simp) (by simp)
  obtain ⟨dx21, _, _, _, _, e1, _⟩ := id Gd21.at_
  refine ⟨_, rfl, d, C, dx21, _, rfl, e1, D.tb, D.tl, iteF ?_⟩
  refine ⟨_, rfl, lo, rfl, ⟨_, SqL.of (k21.kp.lst h20 (by simp))⟩, fun Dd nDd => ?_⟩
  refine lc_list (xs := [V.non, .ref prd, .ref pdd, .str tx, .ref tp, .bl true]) (fun i Hb => Hb Dd = some (.lst []) ∧ Kt T [] H21 Hb) ⟨upd_same, Kt.new nDd⟩ (fun i Hb _ h => SqL.of (h.2.kp.lst (k21.kp.lst h20 (by simp)) (by simp))) (fun i x Hb hx h => ?_) fun Hb h => ?_
  · obtain ⟨ty, tyx, nf, kit⟩ := odd Hb (k21.trans h.2) x (List.mem_of_getElem? hx)
    have Gb := Gd21.kt h.2 (by simp) (by simp)
    refine ⟨rfl, _, rfl, _, rfl, eq_odd Gb tyx nf kit ⟨_, rfl, iteF ⟨_, rfl, _, rfl, eq_odd Gb tyx nf kit ⟨_, rfl, iteF h⟩⟩⟩⟩
  obtain ⟨hDb, kb⟩ := h
  refine ⟨(by show 0 ≤ sizeLine; omega), fun e ne => ?_⟩
  have k23 : Kt T [] Hb (upd Hb e (.lst [])) := Kt.new ne
  have h23 : upd Hb e (.lst []) e = some (.lst []) := upd_same
  generalize upd Hb e (.lst []) = H23 at k23 h23 ⊢
  refine ⟨.list [], .list [], .lst (SqL.of (k23.kp.lst hDb (by simp))) .nil, .lst (SqL.of h23) .nil, by decide +kernel, by decide +kernel, _, rfl, iteF ?_⟩
  have k2023 := (k21.trans kb).trans k23
  have Gd23 := Gd20.kt k2023 (by simp) (by simp)
  have Gi23 := Gi20.kt k2023 (by simp) (by simp)
  have hp23 := hp20.kp k2023.kp
  have hT23 := k2023.tb hT20
  have kM := kL.trans k2023
  obtain ⟨dxg, prg, pbg, pdg, ppsg, q1, q2, q3, q4, q5, q6⟩ := id Gi23.at_
  refine ⟨_, rfl, g, C, dxg, _, _, rfl, q1, D.cl, D.nD, lkD, (by show 0 ≤ sizeLine; omega), fun te nte => ?_⟩
  have k24 : Kt T [] H23 (upd H23 te (.tup [])) := Kt.new nte
  have h24 : upd H23 te (.tup []) te = some (.tup []) := upd_same
  generalize upd H23 te (.tup []) = H24 at k24 h24 ⊢
  have Gd24 := Gd23.kt k24 (by simp) (by simp)
  have Gi24 := Gi23.kt k24 (by simp) (by simp)
  have kN := kM.trans k24
  have shD : SeqAt.shaped (.tuple (ds.map dD)) = true := Bool.and_eq_true_iff.mpr ⟨lay_deeds G.okD, decide_eq_true (Nat.le_trans (dep_deeds ds) (by decide))⟩
  refine ⟨.tuple (ds.map dD), .tuple [], dp_deeds (q4.kp k24.kp), .tup (SqT.of h24) .nil, shD, by decide +kernel, ?_⟩
  rcases List.eq_nil_or_concat ds with rfl | ⟨ds', dd, rfl⟩
  · refine ⟨false, rfl, iteF ?_⟩
    refine ⟨_, rfl, fun y dy ny ndy hne => make_good ny ndy hne (k24.tb hT23) (hp23.kp k24.kp) (by omega) okf fun ly H25 _ _ k25 GY => ⟨rfl, _, rfl, eq_deskE (r := true) D GY (Gd24.kt k25 (by simp) (by simp)) (.inl ⟨rfl, rfl, rfl⟩) fun H26 k26 => hQ _ ((kN.trans k25).trans k26)⟩⟩
  · rw [List.concat_eq_append] at *
    refine ⟨true, ?_, iteT ?_⟩
    · rw [List.map_append]
      cases ds' <;> rfl
    obtain ⟨ps', r0, hled', _, rfl⟩ := hled.inv
    obtain ⟨dxh, prh, pbh, pdh, ppsh, w1, _⟩ := id Gi24.at_
    refine ⟨_, rfl, g, dxh, _, rfl, w1, rfl, g, lg, first, _, _, _, rfl, Gi24, .inr ⟨ps', r0, rfl, (hled.small (by omega)).1 r0 (by simp), fun H25 k25 G25 => ?_⟩⟩
    rw [List.dropLast_concat] at G25
    have Gd25 := Gd24.kt k25 (by simp [ndg, ndlg]) (by simp [nlg_, nllg])
    have kO : Kt T [] H H25 := ((kN.of.trans k25).drop ng).dropF nlg
    have ans : EqAns first first ds' (ds' ++ [dd]) false := .inr ⟨rfl, .inr (by rw [List.length_append]; show ds'.length ≠ ds'.length + 1; omega)⟩
    have ans2 : EqAns first first (ds' ++ [dd]) ds' false := .inr ⟨rfl, .inr (by rw [List.length_append]; show ds'.length + 1 ≠ ds'.length; omega)⟩
    refine ⟨_, rfl, _, rfl, eq_deskN (r := false) D G25 Gd25 ans fun H26 k26 => ⟨true, rfl, iteT ⟨_, rfl, _, rfl, eq_deskN (r := false) D (Gd25.kt k26 (by simp) (by simp)) (G25.kt k26 (by simp) (by simp)) ans2 fun H27 k27 => hQ _ ((kO.trans k26).trans k27)⟩⟩⟩
end
end K11
set_option maxHeartbeats 4000000
/-! M23: a round, and the law. -/
namespace K11
open PySem PySem.Spec L2 DL LamX
open PySem.W (Frag keepIn findIn typeIn subIn mroIn specialIn takesIn kitOne kitAny excIn notFirst)
open PyProof.Rows hiding St wpAt wpAt_bind wpAt_stack wpAt_mono
/-- a bent thing and the index by which it is refused -/
def Bent (H : Hp) (x : V) : Prop := ∃ tp odd idx, x = .ref tp ∧ H tp = some (.tup [odd, idx]) ∧ RowsIn H odd (some idx) ∧ scal idx idx = true
theorem RowsIn.kt {T : List (Addr × Str)} {H H' : Hp} {x : V} {o : Option V} (h : RowsIn H x o) (k : Kt T [] H H') : RowsIn H' x o := by
  cases h with
  | good h l a f => exact .good (k.kp.tup h) l a f
  | bad h l a f => exact .bad (k.kp.tup h) l a f
  | many h l => exact .many (k.kp.tup h) l
  | non => exact .non
  | str r => exact .str r
  | lst h => exact .lst (k.kp.lst h (by simp))
theorem Bent.kt {T : List (Addr × Str)} {H H' : Hp} {x : V} (h : Bent H x) (k : Kt T [] H H') : Bent H' x := by
  obtain ⟨tp, odd, idx, e1, e2, e3, e4⟩ := h
  exact ⟨tp, odd, idx, e1, k.kp.tup e2, e3.kt k, e4⟩
def spRight (T : List (Addr × Str)) : Sp := fun vs H Q _ => ∃ a, vs = [.ref a] ∧ Tabs T H ∧ Dr H a 0 ∧ ∀ H', Kt T [a] H H' → Q (.bl true) H'
def spLaw (K : Frag) (T : List (Addr × Str)) : Sp := fun vs H Q _ => ∃ (a : Addr) (ns : List Int), vs = [.ref a] ∧ SqL K H a (ns.map V.int) ∧ ns.length ≤ 63 ∧ Tabs T H ∧ ∀ H', Q (.bl true) H'
section
variable {w : World} {K : Frag} {mg : Str → Option Value} {base : Heap} {f : Addr} {fd : FuncData} {T : List (Addr × Str)} {C : Addr}
theorem ok_right {CN CB CR : Addr} (F : L2.Fun K "_law_right" "_law_right" sRight f fd) (N : Nms mg) (D : Dk K mg C) (cP : Clb prg w K mg base 2 "_law_page" (spPage T) []) (cS : Clb prg w K mg base 2 "_law_is_so" (spIsSo C T) []) (cEm : Clb prg w K mg base 2 "_law_is_empty" (spIsEmpty C T) [])
    (cR : Clb prg w K mg base 7 "_law_run" (spRun C T) []) (cA : Clb prg w K mg base 8 "_law_are_equal" (spAreEqual C T) []) (cX : Clb prg w K mg base 8 "_law_is_refused" (spRefused T) [])
    (cU : ClM prg w K mg base (L2.CX prg w) 1 C "undo" (spUndo C CN T)) (cI : ClI prg w K mg base (L2.CX prg w) 6 C ["rows"] (spInit C CR T)) (cE : ClE prg w K mg base C (spEq C K T)) :
    FnG prg w K mg base 9 f fd ["draws"] (spRight T) := by
  have S := fsRight
  obtain ⟨fU, fdU, psU, mU, FU, bU⟩ := cU.ex
  obtain ⟨fI, fdI, psI, M, FI, bI, kI⟩ := cI.ex
  obtain ⟨fE, fdE, psE, EQ, FE, bE⟩ := cE.ex
  refine fnG_mk F S (fun vs H Q E h => by obtain ⟨a, rfl, _⟩ := h; rfl) fun cdv A outer s H vs Q E hr gd hsp => ?_
  obtain ⟨a, rfl, hT, hd0, hQ⟩ := hsp
  have hr8 : Room 8 (A.deeper (envOfC "_law_right" (defScope sRight) s.heap.objs.size f cdv)) := hr
  have hr7 := hr8.mono (show 7 ≤ 8 by decide)
  have r1 := hr8.mono (show 1 ≤ 8 by decide)
  have r2 := hr8.mono (show 2 ≤ 8 by decide)
  refine ⟨_, pss_cons (ps_for PassesOwn.never rfl (pi_range1 rfl N.n_range (pa_cons pe_int pa_nil)) (pg_name (i := 1) S.nd rfl (Or.inl rfl))
      (pss_cons (ps_asg (pe_clb cP hr (by decide) gd rfl (pa_cons (pv 0) pa_nil)) (pg_tup rfl (pgs_cons (pg_name (i := 2) S.nd rfl (Or.inl rfl)) (pgs_cons (pg_name (i := 3) S.nd rfl (Or.inl rfl)) pgs_nil))))
      (pss_cons (ps_set (i := 4) S.nd rfl (Or.inl rfl) (pe_make M FI hr7 rfl D.g bI .nil passL (pa_cons (pv 2) pa_nil)))
      (pss_cons (ps_if (PW.pt (pw_or (pt_not (pt_val (pe_clb cS hr (by decide) gd rfl (pa_cons (pv 4) (pa_cons (pv 2) (pa_cons (pe_tup pa_nil) pa_nil)))))) (pw_or1 (pt_not (pt_val (pe_clb cEm hr (by decide) gd rfl (pa_cons (pv 4) pa_nil))))))) (pss_one (ps_ret pe_bl)) pss_nil)
      (pss_cons (ps_set (i := 5) S.nd rfl (Or.inl rfl) (pe_clb cR hr (by decide) gd rfl (pa_cons (pv 0) (pa_cons (pv 2) (pa_cons (pv 3) (pa_cons (pv 4) pa_nil))))))
      (pss_cons (ps_if (PW.pt (pw_or (pt_cmpR op_isN (pv 5) pe_non (nomark _)) (pw_or1 (pt_not (pt_val (pe_clb cA hr (by decide) gd rfl (pa_cons (pv 4) (pa_cons (pv 2) pa_nil)))))))) (pss_one (ps_ret pe_bl)) pss_nil)
      (pss_cons (ps_while PassesOwn.never (pt_cmpR op_gt (pe_callB call_len_seq (by rfl) N.n_len (by decide +kernel) (pa_cons (pv 5) pa_nil)) pe_int (nomark _))
        (pss_cons (ps_expr (pe_bm0 PySem.F.plainAttrs_list PySem.F.slot_list_pop PySem.F.type_list_pop mt_pop (pv 5)))
        (pss_cons (ps_expr (pe_meth0 (pv 4) D.cl mU FU r1 bU .nil passL))
        (pss_one (ps_if (pt_not (pt_val (pe_clb cS hr (by decide) gd rfl (pa_cons (pv 4) (pa_cons (pe_ix ix_list (pv 5) (pe_un un_neg pe_int) (fun _ _ => rfl)) (pa_cons (pe_fld (pv 4) rfl) pa_nil)))))) (pss_one (ps_ret pe_bl)) pss_nil)))))
      (pss_one (ps_if (PW.pt (pw_or (pt_not (pt_val (pe_clb cEm hr (by decide) gd rfl (pa_cons (pv 4) pa_nil)))) (pw_or (pt_cmpR (op_ownNe EQ FE bE r2) (pv 4) (pe_make M FI hr7 rfl D.g bI .nil passL (pa_cons (pv 2) pa_nil)) (nomark _)) (pw_or1 (pt_cmpR (op_neD hr.units) (pe_fld (pv 4) rfl) (pe_tup pa_nil) (nomark _)))))) (pss_one (ps_ret pe_bl)) pss_nil)))))))))
    (pss_cons (ps_set (i := 6) S.nd rfl (Or.inl rfl) (pe_lst (pa_cons (pe_tup (pa_cons pe_non (pa_cons pe_non pa_nil))) (pa_cons (pe_tup (pa_cons (pe_lst (pa_cons pe_str pa_nil)) (pa_cons pe_non pa_nil))) (pa_cons (pe_tup (pa_cons pe_str (pa_cons pe_non pa_nil))) (pa_cons (pe_tup (pa_cons (pe_op op_repT (pe_tup (pa_cons pe_str pa_nil)) pe_int) (pa_cons pe_non pa_nil))) (pa_cons (pe_tup (pa_cons (pe_tup (pa_cons (pe_op op_mulS pe_str pe_int) pa_nil)) (pa_cons pe_int pa_nil))) pa_nil)))))))
    (pss_cons (ps_set (i := 6) S.nd rfl (Or.inl rfl) (pe_op op_cat (pv 6) (pe_lst (pa_cons (pe_tup (pa_cons (pe_tup (pa_cons pe_str (pa_cons pe_str pa_nil))) (pa_cons pe_int pa_nil))) (pa_cons (pe_tup (pa_cons (pe_tup (pa_cons pe_str (pa_cons pe_int pa_nil))) (pa_cons pe_int pa_nil))) (pa_cons (pe_tup (pa_cons (pe_tup (pa_cons pe_non pa_nil)) (pa_cons pe_int pa_nil))) pa_nil))))))
    (pss_one (ps_ret (pe_cmpR (op_eqD hr.units) (pe_lc (own := [("odd", 7), ("index", 8)]) (g := gTup K 2 (gCons (gName 7) (gCons (gName 8) gNil))) (by rfl) S.nd (pi_list (pv 6)) (blkOk_by (own := [("odd", 7), ("index", 8)]) (N := nRight) (sc := defScope sRight) (by decide +kernel)) (fun _ _ _ _ _ => pg_tup rfl (pgs_cons (pg_name (i := 7) S.nd rfl (Or.inl rfl)) (pgs_cons (pg_name (i := 8) S.nd rfl (Or.inl rfl)) pgs_nil)))
      (fun _ _ _ _ _ => pts_one (pt_not (pt_val (pe_clb cX hr (by decide) gd rfl (pa_cons (pv 7) (pa_cons (pv 8) pa_nil)))))) (fun _ _ _ _ _ => pv 7)) (pe_lst pa_nil) (nomark _)))))), ?_⟩
  -- READING
  refine ⟨7, rfl, by decide, by decide, for_range (n := 7) (fun i σ Hi => ∃ (o1 o2 o3 o4 o5 o6 o7 o8 : Option V) (k' : Nat), σ = [some (.ref a), o1, o2, o3, o4, o5, o6, o7, o8] ∧ Kt T [a] H Hi ∧ Dr Hi a k' ∧ k' ≤ 66 * i) ⟨none, none, none, none, none, none, none, none, 0, rfl, Kt.refl, hd0, Nat.le_refl _⟩ (fun i σ Hi hi h => ?_) fun σ Hi h => ?_⟩
  · obtain ⟨o1, o2, o3, o4, o5, o6, o7, o8, k', rfl, ki, di, hk'⟩ := h
    refine ⟨_, rfl, a, k', rfl, di, by omega, fun H1 t pr lm first more kt1 d1 ht hpr hlm pg => ⟨t, _, rfl, SqT.of ht, rfl, _, _, rfl, _, _, rfl, rfl, ?_⟩⟩
    have hT1 : Tabs T H1 := kt1.tb (ki.tb hT)
    have l8 := pg.l1
    have okf := pg.k1
    obtain ⟨fx, sx, ea, _, _⟩ := id d1
    have lma : lm ≠ a := fun z => by
      rw [z, ea] at hlm
      have := congrArg List.length (HO.lst.inj (Option.some.inj hlm))
      rw [List.length_map, pg.l2] at this
      cases this
    refine ⟨_, rfl, fun d dd nd0 ndd hne => make_good nd0 ndd hne hT1 hpr (by omega) okf fun l H2 frl nly k2 G2 => ⟨rfl, ?_⟩⟩
    have nda : d ≠ a := (ne_of_none ea nd0).symm
    have nla : l ≠ a := (frl.ne ea fun ps z => by cases z).symm
    have lml : lm ≠ l := frl.ne hlm fun ps z => by cases z
    have lmd : lm ≠ d := ne_of_none hlm nd0
    refine ⟨_, rfl, _, rfl, (by show 0 ≤ sizeLine; omega), fun te nte => ?_⟩
    have k3 : Kt T [] H2 (upd H2 te (.tup [])) := Kt.new nte
    have g3 : upd H2 te (.tup []) te = some (.tup []) := upd_same
    generalize upd H2 te (.tup []) = H3 at k3 g3 ⊢
    have k23 := k2.trans k3
    refine ⟨d, l, pr, te, first, first, [], [], rfl, G2.kt k3 (by simp) (by simp), hpr.kp k23.kp, ⟨[], g3, rfl, fun i q x z => by simp at z⟩, fun H4 k4 => ⟨true, rfl, iteF ?_⟩⟩
    have G4 := (G2.kt k3 (by simp) (by simp)).kt k4 (by simp) (by simp)
    refine ⟨_, rfl, d, l, first, first, [], rfl, G4, fun H5 k5 => ⟨true, rfl, iteF ?_⟩⟩
    have k15 : Kt T [] H1 H5 := (k23.trans k4).trans k5
    have G5 := G4.kt k5 (by simp) (by simp)
    refine ⟨_, rfl, _, rfl, _, rfl, _, rfl, a, pr, lm, d, l, k' + 6, first, more, rfl, k15.tb hT1, d1.kp k15.kp (by simp), by omega, hpr.kp k15.kp, k15.kp.lst hlm (by simp), pg.l2, pg.k2, G5, lma, nla, lml, fun H6 ls k6 sps ps r ds kt6 d6 hk6 hls ht6 hled G6 hds nls na nl => ?_⟩
    have frls : Fr H1 ls := Fr.of k15.kp nls
    have nlsd : ls ≠ d := by
      obtain ⟨dx, _, _, _, _, e, _⟩ := G5.at_
      exact (ne_of_none e nls).symm
    have k16 : Kt T [ls, d, l, a] H1 H6 := k15.of.trans (kt6.mono (by
      intro b m
      simp only [List.mem_cons, List.not_mem_nil, or_false] at m ⊢
      rcases m with rfl | rfl | rfl <;> simp))
    have hprs : ∀ Hx, Kt T [ls, d, l, a] H1 Hx → RowsAt Hx pr first := fun Hx k => hpr.kp k.kp
    refine ⟨_, rfl, rfl, _, rfl, iteF ⟨_, rfl, _, rfl, d, l, pr, first, r, more, ds, ps, rfl, k16.tb hT1, G6, hled, hprs _ k16, pg, hds, fun H7 k7 => ⟨true, rfl, iteF ?_⟩⟩⟩
    -- undone
    refine while_by (fun σ Hj => ∃ (psj : List (List Str)) (rj : List Str) (dsj : List Dd) (spsj : List Addr), σ = [some (.ref a), some (.int (0 + (i : Int))), some (.ref pr), some (.ref lm), some (.ref d), some (.ref ls), o6, o7, o8] ∧ Kt T [ls, d, l, a] H1 Hj ∧ Dr Hj a k6 ∧ Hj ls = some (.lst (spsj.map V.ref)) ∧ TextsAt Hj spsj (psj ++ [rj]) ∧ Led first psj rj dsj ∧ GoodD C Hj d l first rj dsj psj)
      (fun σ Hj => match Hj ls with | some (.lst xs) => xs.length | _ => 0) ⟨ps, r, ds, sps, rfl, k16.trans k7.of, d6.kp k7.kp (by simp), k7.kp.lst hls (by simp), ht6.kp k7.kp, hled, G6.kt k7 (by simp) (by simp)⟩ (fun σ Hj h => ?_) fun σ Hx Q1 Q2 hq h => by
        obtain ⟨v1, e1, v2, e2, e3, e4, v5, v6, e5, e6, v7, e7, h⟩ := h
        exact ⟨v1, e1, v2, e2, e3, e4, v5, v6, e5, e6, v7, e7, hq _ _ h⟩
    obtain ⟨psj, rj, dsj, spsj, rfl, kj, dj, hlsj, htj, hledj, Gj⟩ := h
    have lenJ : spsj.length = psj.length + 1 := by
      have := htj.1
      rw [List.length_append] at this
      exact this
    refine ⟨_, rfl, ls, _, rfl, .inl (SqL.of hlsj), _, _, rfl, rfl, _, rfl, ite2 (fun gt => ?_) fun ngt => ?_⟩
    · have gt2 := of_decide_eq_true gt
      rw [List.length_map, lenJ] at gt2
      clear gt
      obtain ⟨sps', q, rfl⟩ : ∃ sps' q, spsj = sps' ++ [q] := by
        rcases List.eq_nil_or_concat spsj with rfl | ⟨sps', q, rfl⟩
        · simp at lenJ
        · exact ⟨sps', q, List.concat_eq_append⟩
      have psn : psj.length ≠ 0 := fun z => by
        rw [z] at gt2
        simp at gt2
      obtain ⟨ds', dd', rfl⟩ : ∃ ds' dd', dsj = ds' ++ [dd'] := by
        rcases List.eq_nil_or_concat dsj with rfl | ⟨ds', dd', rfl⟩
        · exact absurd hledj.len (by simpa using psn)
        · exact ⟨ds', dd', List.concat_eq_append⟩
      obtain ⟨ps', r0, hled', _, rfl⟩ := hledj.inv
      have htp := htj.dropLast
      rw [List.dropLast_concat, List.dropLast_concat] at htp
      obtain ⟨sps2, q2, rfl⟩ : ∃ sps2 q2, sps' = sps2 ++ [q2] := by
        rcases List.eq_nil_or_concat sps' with rfl | ⟨sps2, q2, rfl⟩
        · have := htp.1
          rw [List.length_append] at this
          simp at this
        · exact ⟨sps2, q2, List.concat_eq_append⟩
      have lq2 : sps2.length = ps'.length := by
        have := htp.1
        rw [List.length_append, List.length_append] at this
        exact Nat.succ.inj this
      refine ⟨_, rfl, .inl ⟨rfl, _, SqL.of hlsj⟩, ls, _, .ref q, rfl, rfl, hlsj, (by simp), ?_⟩
      rw [List.map_append, List.map_singleton, List.dropLast_concat]
      have k8 : Kt T [ls] Hj (upd Hj ls (.lst ((sps2 ++ [q2]).map V.ref))) := Kt.put hlsj rfl (by simp)
      have hls8 : upd Hj ls (.lst ((sps2 ++ [q2]).map V.ref)) ls = some (.lst ((sps2 ++ [q2]).map V.ref)) := upd_same
      generalize upd Hj ls (.lst ((sps2 ++ [q2]).map V.ref)) = H8 at k8 hls8 ⊢
      have G8 := Gj.kt k8 (by simpa using nlsd.symm) (by simpa using nl.symm)
      obtain ⟨dx8, _, _, _, _, e8, _⟩ := id G8.at_
      refine ⟨_, rfl, d, dx8, _, rfl, e8, rfl, d, l, first, _, _, _, rfl, G8, .inr ⟨ps', r0, rfl, (hledj.small (by omega)).1 r0 (by simp), fun H9 k9 G9 => ?_⟩⟩
      rw [List.dropLast_concat] at G9
      have hls9 := k9.kp.lst hls8 (by simp [nlsd, nl])
      obtain ⟨dx9, pr9, pb9, pd9, pps9, e9, e92, e93, e94, e95, e96⟩ := id G9.at_
      have kk : Kt T [ls, d, l] Hj H9 := (k8.mono (by simp)).trans (k9.mono (by simp))
      have ht9 := htp.kp kk.kp
      have hq2 : RowsAt H9 q2 r0 := ht9.2 sps2.length q2 r0 (by simp) (by rw [lq2]; simp)
      refine ⟨_, rfl, _, rfl, _, rfl, ls, _, _, .ref q2, rfl, rfl, SqL.of hls9, (by rw [List.map_append]; exact atI_last _ _), _, rfl, d, C, dx9, _, _, rfl, e9, D.cl, D.nD, lkD, d, l, q2, pd9, first, r0, ds', ps', rfl, G9, hq2, e94, fun Ha ka => ⟨true, rfl, iteF ⟨⟨ps', r0, ds', sps2 ++ [q2], rfl, (kj.trans (kk.mono (by
        intro b m
        simp only [List.mem_cons, List.not_mem_nil, or_false] at m ⊢
        rcases m with rfl | rfl | rfl <;> simp))).trans ka.of, (dj.kp kk.kp (by simp [Ne.symm na, Ne.symm nda, Ne.symm nla])).kp ka.kp (by simp), ka.kp.lst hls9 (by simp), ht9.kp ka.kp, hled', G9.kt ka (by simp) (by simp)⟩, ?_⟩⟩⟩
      show (match Ha ls with | some (.lst xs) => xs.length | _ => 0) < (match Hj ls with | some (.lst xs) => xs.length | _ => 0)
      rw [ka.kp.lst hls9 (by simp), hlsj]
      show ((sps2 ++ [q2]).map V.ref).length < (((sps2 ++ [q2]) ++ [q]).map V.ref).length
      simp
    · have ngt : ¬ ((((spsj.map V.ref).length : Nat) : Int) > 1) := fun z => ngt (decide_eq_true z)
      rw [List.length_map, lenJ] at ngt
      have p0 : psj = [] := List.eq_nil_of_length_eq_zero (by omega)
      subst p0
      have d0 : dsj = [] := List.eq_nil_of_length_eq_zero hledj.len.symm
      subst d0
      obtain ⟨_, rfl⟩ := hledj.det (.nil : Led first [] first [])
      refine ⟨_, rfl, d, l, rj, rj, [], rfl, Gj, fun Ha ka => ⟨true, rfl, iteF ?_⟩⟩
      have Ga := Gj.kt ka (by simp) (by simp)
      have kja := kj.trans ka.of
      refine ⟨_, rfl, _, rfl, fun y dy ny ndy hne' => make_good ny ndy hne' (kja.tb hT1) (hprs _ kja) (by omega) okf fun ly Hb _ _ kb GY => ⟨rfl, eq_deskN (r := true) D (Ga.kt kb (by simp) (by simp)) GY (.inl ⟨rfl, rfl, rfl⟩) fun Hc kc => ⟨_, rfl, iteF ?_⟩⟩⟩
      have Gc := (Ga.kt kb (by simp) (by simp)).kt kc (by simp) (by simp)
      obtain ⟨dxc, prc, pbc, pdc, ppsc, c1, c2, c3, c4, c5, c6⟩ := id Gc.at_
      refine ⟨_, rfl, d, C, dxc, _, _, rfl, c1, D.cl, D.nD, lkD, (by show 0 ≤ sizeLine; omega), fun tf ntf => ?_⟩
      have kd : Kt T [] Hc (upd Hc tf (.tup [])) := Kt.new ntf
      have gd' : upd Hc tf (.tup []) tf = some (.tup []) := upd_same
      generalize upd Hc tf (.tup []) = Hd at kd gd' ⊢
      have kall : Kt T [ls, d, l, a] H1 Hd := ((kja.trans kb.of).trans kc.of).trans kd.of
      refine ⟨.tuple (([] : List Dd).map dD), .tuple [], dp_deeds (c4.kp kd.kp), .tup (SqT.of gd') .nil, by decide +kernel, by decide +kernel, _, rfl, iteF ?_⟩
      refine ⟨_, _, _, _, _, o6, o7, o8, k6, rfl, (ki.trans kt1).trans (((kall.dropF frls).drop nd0).dropF frl), ?_, by omega⟩
      exact (((dj.kp ka.kp (by simp)).kp kb.kp (by simp)).kp kc.kp (by simp)).kp kd.kp (by simp)
  obtain ⟨o1, o2, o3, o4, o5, o6, o7, o8, k', rfl, ki, di, hk'⟩ := h
  have hTi : Tabs T Hi := ki.tb hT
  clear di hd0 hT

  refine ⟨(by show 2 ≤ sizeLine; decide), fun t1 nt1 => ?_⟩
  have kb1 : Kt T [] Hi (upd Hi t1 (.tup [.non, .non])) := Kt.new nt1
  have hb1 : upd Hi t1 (.tup [.non, .non]) t1 = some (.tup [.non, .non]) := upd_same
  generalize upd Hi t1 (.tup [.non, .non]) = B1 at kb1 hb1 ⊢
  refine ⟨(by show 1 ≤ sizeLine; decide), fun lA nlA => ?_⟩
  have kb2 : Kt T [] B1 (upd B1 lA (.lst [.str "point a"])) := Kt.new nlA
  have hb2 : upd B1 lA (.lst [.str "point a"]) lA = some (.lst [.str "point a"]) := upd_same
  generalize upd B1 lA (.lst [.str "point a"]) = B2 at kb2 hb2 ⊢
  refine ⟨(by show 2 ≤ sizeLine; decide), fun t2 nt2 => ?_⟩
  have kb3 : Kt T [] B2 (upd B2 t2 (.tup [.ref lA, .non])) := Kt.new nt2
  have hb3 : upd B2 t2 (.tup [.ref lA, .non]) t2 = some (.tup [.ref lA, .non]) := upd_same
  generalize upd B2 t2 (.tup [.ref lA, .non]) = B3 at kb3 hb3 ⊢
  refine ⟨(by show 2 ≤ sizeLine; decide), fun t3 nt3 => ?_⟩
  have kb4 : Kt T [] B3 (upd B3 t3 (.tup [.str "point a", .non])) := Kt.new nt3
  have hb4 : upd B3 t3 (.tup [.str "point a", .non]) t3 = some (.tup [.str "point a", .non]) := upd_same
  generalize upd B3 t3 (.tup [.str "point a", .non]) = B4 at kb4 hb4 ⊢
  refine ⟨(by show 1 ≤ sizeLine; decide), fun tx ntx => ?_⟩
  have kb5 : Kt T [] B4 (upd B4 tx (.tup [.str "x"])) := Kt.new ntx
  have hb5 : upd B4 tx (.tup [.str "x"]) tx = some (.tup [.str "x"]) := upd_same
  generalize upd B4 tx (.tup [.str "x"]) = B5 at kb5 hb5 ⊢
  refine ⟨tx, 21, [.str "x"], rfl, rfl, SqT.of hb5, (by simp), by decide, by decide, (by show 1 ≤ 1000; decide), fun ty nty => ?_⟩
  have kb6 : Kt T [] B5 (upd B5 ty (.tup (List.replicate (21 : Int).toNat [V.str "x"]).flatten)) := Kt.new nty
  have hb6 : upd B5 ty (.tup (List.replicate (21 : Int).toNat [V.str "x"]).flatten) ty = some (.tup (List.replicate (21 : Int).toNat [V.str "x"]).flatten) := upd_same
  generalize upd B5 ty (.tup (List.replicate (21 : Int).toNat [V.str "x"]).flatten) = B6 at kb6 hb6 ⊢
  refine ⟨(by show 2 ≤ sizeLine; decide), fun t4 nt4 => ?_⟩
  have kb7 : Kt T [] B6 (upd B6 t4 (.tup [.ref ty, .non])) := Kt.new nt4
  have hb7 : upd B6 t4 (.tup [.ref ty, .non]) t4 = some (.tup [.ref ty, .non]) := upd_same
  generalize upd B6 t4 (.tup [.ref ty, .non]) = B7 at kb7 hb7 ⊢
  refine ⟨("a" : Str), 201, rfl, rfl, by decide, by decide, by decide +kernel, by decide +kernel, (by show 1 ≤ sizeLine; decide), fun tz ntz => ?_⟩
  have kb8 : Kt T [] B7 (upd B7 tz (.tup [.str (mulS "a" (201 : Int).toNat)])) := Kt.new ntz
  have hb8 : upd B7 tz (.tup [.str (mulS "a" (201 : Int).toNat)]) tz = some (.tup [.str (mulS "a" (201 : Int).toNat)]) := upd_same
  generalize upd B7 tz (.tup [.str (mulS "a" (201 : Int).toNat)]) = B8 at kb8 hb8 ⊢
  refine ⟨(by show 2 ≤ sizeLine; decide), fun t5 nt5 => ?_⟩
  have kb9 : Kt T [] B8 (upd B8 t5 (.tup [.ref tz, .int 0])) := Kt.new nt5
  have hb9 : upd B8 t5 (.tup [.ref tz, .int 0]) t5 = some (.tup [.ref tz, .int 0]) := upd_same
  generalize upd B8 t5 (.tup [.ref tz, .int 0]) = B9 at kb9 hb9 ⊢
  refine ⟨(by show 5 ≤ sizeLine; decide), fun b1 nb1 => ?_⟩
  have kb10 : Kt T [] B9 (upd B9 b1 (.lst [.ref t1, .ref t2, .ref t3, .ref t4, .ref t5])) := Kt.new nb1
  have hb10 : upd B9 b1 (.lst [.ref t1, .ref t2, .ref t3, .ref t4, .ref t5]) b1 = some (.lst [.ref t1, .ref t2, .ref t3, .ref t4, .ref t5]) := upd_same
  generalize upd B9 b1 (.lst [.ref t1, .ref t2, .ref t3, .ref t4, .ref t5]) = B10 at kb10 hb10 ⊢
  refine ⟨_, rfl, ?_⟩
  refine ⟨(by show 2 ≤ sizeLine; decide), fun u6 nu6 => ?_⟩
  have kb11 : Kt T [] B10 (upd B10 u6 (.tup [.str "", .str "a\n"])) := Kt.new nu6
  have hb11 : upd B10 u6 (.tup [.str "", .str "a\n"]) u6 = some (.tup [.str "", .str "a\n"]) := upd_same
  generalize upd B10 u6 (.tup [.str "", .str "a\n"]) = B11 at kb11 hb11 ⊢
  refine ⟨(by show 2 ≤ sizeLine; decide), fun t6 nt6 => ?_⟩
  have kb12 : Kt T [] B11 (upd B11 t6 (.tup [.ref u6, .int 1])) := Kt.new nt6
  have hb12 : upd B11 t6 (.tup [.ref u6, .int 1]) t6 = some (.tup [.ref u6, .int 1]) := upd_same
  generalize upd B11 t6 (.tup [.ref u6, .int 1]) = B12 at kb12 hb12 ⊢
  refine ⟨(by show 2 ≤ sizeLine; decide), fun u7 nu7 => ?_⟩
  have kb13 : Kt T [] B12 (upd B12 u7 (.tup [.str "", .int 5])) := Kt.new nu7
  have hb13 : upd B12 u7 (.tup [.str "", .int 5]) u7 = some (.tup [.str "", .int 5]) := upd_same
  generalize upd B12 u7 (.tup [.str "", .int 5]) = B13 at kb13 hb13 ⊢
  refine ⟨(by show 2 ≤ sizeLine; decide), fun t7 nt7 => ?_⟩
  have kb14 : Kt T [] B13 (upd B13 t7 (.tup [.ref u7, .int 1])) := Kt.new nt7
  have hb14 : upd B13 t7 (.tup [.ref u7, .int 1]) t7 = some (.tup [.ref u7, .int 1]) := upd_same
  generalize upd B13 t7 (.tup [.ref u7, .int 1]) = B14 at kb14 hb14 ⊢
  refine ⟨(by show 1 ≤ sizeLine; decide), fun u8 nu8 => ?_⟩
  have kb15 : Kt T [] B14 (upd B14 u8 (.tup [.non])) := Kt.new nu8
  have hb15 : upd B14 u8 (.tup [.non]) u8 = some (.tup [.non]) := upd_same
  generalize upd B14 u8 (.tup [.non]) = B15 at kb15 hb15 ⊢
  refine ⟨(by show 2 ≤ sizeLine; decide), fun t8 nt8 => ?_⟩
  have kb16 : Kt T [] B15 (upd B15 t8 (.tup [.ref u8, .int 0])) := Kt.new nt8
  have hb16 : upd B15 t8 (.tup [.ref u8, .int 0]) t8 = some (.tup [.ref u8, .int 0]) := upd_same
  generalize upd B15 t8 (.tup [.ref u8, .int 0]) = B16 at kb16 hb16 ⊢
  refine ⟨(by show 3 ≤ sizeLine; decide), fun b2 nb2 => ?_⟩
  have kb17 : Kt T [] B16 (upd B16 b2 (.lst [.ref t6, .ref t7, .ref t8])) := Kt.new nb2
  have hb17 : upd B16 b2 (.lst [.ref t6, .ref t7, .ref t8]) b2 = some (.lst [.ref t6, .ref t7, .ref t8]) := upd_same
  generalize upd B16 b2 (.lst [.ref t6, .ref t7, .ref t8]) = B17 at kb17 hb17 ⊢
  refine ⟨b1, b2, _, _, rfl, rfl, (((((((kb11.trans kb12).trans kb13).trans kb14).trans kb15).trans kb16).trans kb17)).kp.lst hb10 (by simp), hb17, (by show 5 + 3 ≤ sizeLine; decide), fun b3 nb3 => ?_⟩
  have kb18 : Kt T [] B17 (upd B17 b3 (.lst ([.ref t1, .ref t2, .ref t3, .ref t4, .ref t5] ++ [.ref t6, .ref t7, .ref t8]))) := Kt.new nb3
  have hb18 : upd B17 b3 (.lst ([.ref t1, .ref t2, .ref t3, .ref t4, .ref t5] ++ [.ref t6, .ref t7, .ref t8])) b3 = some (.lst ([.ref t1, .ref t2, .ref t3, .ref t4, .ref t5] ++ [.ref t6, .ref t7, .ref t8])) := upd_same
  generalize upd B17 b3 (.lst ([.ref t1, .ref t2, .ref t3, .ref t4, .ref t5] ++ [.ref t6, .ref t7, .ref t8])) = B18 at kb18 hb18 ⊢
  have kz1 : Kt T [] B1 B18 := ((((((((((((((((kb2.trans kb3).trans kb4).trans kb5).trans kb6).trans kb7).trans kb8).trans kb9).trans kb10).trans kb11).trans kb12).trans kb13).trans kb14).trans kb15).trans kb16).trans kb17).trans kb18)
  have kz2 : Kt T [] B2 B18 := (((((((((((((((kb3.trans kb4).trans kb5).trans kb6).trans kb7).trans kb8).trans kb9).trans kb10).trans kb11).trans kb12).trans kb13).trans kb14).trans kb15).trans kb16).trans kb17).trans kb18)
  have kz3 : Kt T [] B3 B18 := ((((((((((((((kb4.trans kb5).trans kb6).trans kb7).trans kb8).trans kb9).trans kb10).trans kb11).trans kb12).trans kb13).trans kb14).trans kb15).trans kb16).trans kb17).trans kb18)
  have kz4 : Kt T [] B4 B18 := (((((((((((((kb5.trans kb6).trans kb7).trans kb8).trans kb9).trans kb10).trans kb11).trans kb12).trans kb13).trans kb14).trans kb15).trans kb16).trans kb17).trans kb18)
  have kz6 : Kt T [] B6 B18 := (((((((((((kb7.trans kb8).trans kb9).trans kb10).trans kb11).trans kb12).trans kb13).trans kb14).trans kb15).trans kb16).trans kb17).trans kb18)
  have kz7 : Kt T [] B7 B18 := ((((((((((kb8.trans kb9).trans kb10).trans kb11).trans kb12).trans kb13).trans kb14).trans kb15).trans kb16).trans kb17).trans kb18)
  have kz8 : Kt T [] B8 B18 := (((((((((kb9.trans kb10).trans kb11).trans kb12).trans kb13).trans kb14).trans kb15).trans kb16).trans kb17).trans kb18)
  have kz9 : Kt T [] B9 B18 := ((((((((kb10.trans kb11).trans kb12).trans kb13).trans kb14).trans kb15).trans kb16).trans kb17).trans kb18)
  have kz11 : Kt T [] B11 B18 := ((((((kb12.trans kb13).trans kb14).trans kb15).trans kb16).trans kb17).trans kb18)
  have kz12 : Kt T [] B12 B18 := (((((kb13.trans kb14).trans kb15).trans kb16).trans kb17).trans kb18)
  have kz13 : Kt T [] B13 B18 := ((((kb14.trans kb15).trans kb16).trans kb17).trans kb18)
  have kz14 : Kt T [] B14 B18 := (((kb15.trans kb16).trans kb17).trans kb18)
  have kz15 : Kt T [] B15 B18 := ((kb16.trans kb17).trans kb18)
  have kz16 : Kt T [] B16 B18 := (kb17.trans kb18)
  have kz0 : Kt T [] Hi B18 := (kb1.trans kz1)
  have els2 : ∀ x y : V, ∀ c d : Bool, El x c → El y d → Els [x, y] [c, d] := fun x y c d h1 h2 => ⟨rfl, fun i z b hz hb => by
    match i, hz, hb with
    | 0, hz, hb => cases hz; cases hb; exact h1
    | 1, hz, hb => cases hz; cases hb; exact h2
    | n + 2, hz, hb => simp at hz⟩
  have els1 : ∀ (x : V) (c : Bool), El x c → Els [x] [c] := fun x c h1 => ⟨rfl, fun i z b hz hb => by
    match i, hz, hb with
    | 0, hz, hb => cases hz; cases hb; exact h1
    | n + 1, hz, hb => simp at hz⟩
  have elS : ∀ (r : Str) (c : Bool), r.length ≤ 100000 → c = okR r → El (.str r) c := fun r c h e => .inl ⟨r, rfl, h, e⟩
  have bent : ∀ x ∈ [V.ref t1, .ref t2, .ref t3, .ref t4, .ref t5] ++ [.ref t6, .ref t7, .ref t8], Bent B18 x := fun x m => by
    simp only [List.mem_append, List.mem_cons, List.not_mem_nil, or_false] at m
    rcases m with (rfl | rfl | rfl | rfl | rfl) | (rfl | rfl | rfl)
    · exact ⟨t1, _, _, rfl, kz1.kp.tup hb1, .non, rfl⟩
    · exact ⟨t2, _, _, rfl, kz3.kp.tup hb3, .lst (kz2.kp.lst hb2 (by simp)), rfl⟩
    · exact ⟨t3, _, _, rfl, kz4.kp.tup hb4, .str _, rfl⟩
    · exact ⟨t4, _, _, rfl, kz7.kp.tup hb7, .many (kz6.kp.tup hb6) (by decide), rfl⟩
    · exact ⟨t5, _, _, rfl, kz9.kp.tup hb9, .bad (bs := [false]) (kz8.kp.tup hb8) (by show 1 ≤ 20; decide) (els1 _ _ (elS _ _ (by decide +kernel) (by decide +kernel))) (by intro z; cases z), rfl⟩
    · exact ⟨t6, _, _, rfl, kz12.kp.tup hb12, .bad (bs := [true, false]) (kz11.kp.tup hb11) (by show 2 ≤ 20; decide) (els2 _ _ _ _ (elS _ _ (by decide +kernel) (by decide +kernel)) (elS _ _ (by decide +kernel) (by decide +kernel))) (by intro z; cases z), rfl⟩
    · exact ⟨t7, _, _, rfl, kz14.kp.tup hb14, .bad (bs := [true, false]) (kz13.kp.tup hb13) (by show 2 ≤ 20; decide) (els2 _ _ _ _ (elS _ _ (by decide +kernel) (by decide +kernel)) (.inr ⟨.inr ⟨_, rfl⟩, rfl⟩)) (by intro z; cases z), rfl⟩
    · exact ⟨t8, _, _, rfl, kz16.kp.tup hb16, .bad (bs := [false]) (kz15.kp.tup hb15) (by show 1 ≤ 20; decide) (els1 _ _ (.inr ⟨.inl rfl, rfl⟩)) (by intro z; cases z), rfl⟩
  have hTb : Tabs T B18 := kz0.tb hTi
  refine ⟨_, rfl, b3, rfl, ⟨_, SqL.of hb18⟩, fun Dd nDd => ?_⟩
  refine lc_list (xs := [V.ref t1, .ref t2, .ref t3, .ref t4, .ref t5] ++ [.ref t6, .ref t7, .ref t8]) (fun i Hb => Hb Dd = some (.lst []) ∧ Kt T [] B18 Hb) ⟨upd_same, Kt.new nDd⟩ (fun i Hb _ h => SqL.of (h.2.kp.lst hb18 (by simp))) (fun i x Hb hx h => ?_) fun Hb h => ?_
  · obtain ⟨tp, od, idx, rfl, htp, hrow, hsc⟩ := (bent x (List.mem_of_getElem? hx)).kt h.2
    refine ⟨tp, _, rfl, SqT.of htp, rfl, _, _, rfl, _, _, rfl, rfl, rfl, _, rfl, _, rfl, od, idx, rfl, h.2.tb hTb, hrow, hsc, fun Hc kc => ⟨true, rfl, iteF ⟨kc.kp.lst h.1 (by simp), h.2.trans kc⟩⟩⟩
  refine ⟨(by show 0 ≤ sizeLine; omega), fun e ne => ?_⟩
  have kx : Kt T [] Hb (upd Hb e (.lst [])) := Kt.new ne
  refine ⟨.list [], .list [], .lst (SqL.of (kx.kp.lst h.1 (by simp))) .nil, .lst (SqL.of upd_same) .nil, by decide +kernel, by decide +kernel, hQ _ (ki.trans (((kz0.trans h.2).trans kx).of))⟩
end
end K11
set_option maxHeartbeats 4000000
/-! M24: the law's def; its end, with the tables of code objects. -/
namespace K11
open PySem PySem.Spec L2 DL LamX
open PySem.W (Frag keepIn findIn typeIn subIn mroIn specialIn takesIn kitOne kitAny excIn notFirst)
open PyProof.Rows hiding St wpAt wpAt_bind wpAt_stack wpAt_mono
theorem sqL_kt {K : Frag} {T : List (Addr × Str)} {D : List Addr} {H H' : Hp} {a : Addr} {xs : List V} (h : SqL K H a xs) (k : Kt T D H H') (n : a ∉ D) : SqL K H' a xs := by
  rcases h with (h | ⟨o, h⟩) | h
  · exact .inl (.inl (k.kp.lst h n))
  · exact .inl (.inr ⟨o, k.kp.at_ h rfl fun ps z => by cases z⟩)
  · exact .inr h
section
variable {w : World} {K : Frag} {mg : Str → Option Value} {base : Heap} {f : Addr} {fd : FuncData} {T : List (Addr × Str)}
theorem ok_law (F : L2.Fun K "law" "law" sLaw f fd) (N : Nms mg) (cP : Clb prg w K mg base 1 "_law_purse" (spPurse K) []) (cR : Clb prg w K mg base 9 "_law_right" (spRight T) []) : FnG prg w K mg base 10 f fd ["cells"] (spLaw K T) := by
  have S := fsLaw
  refine fnG_mk F S (fun vs H Q E h => by obtain ⟨a, ns, rfl, _⟩ := h; rfl) fun cdv A outer s H vs Q E hr gd hsp => ?_
  obtain ⟨a, ns, rfl, hL, hl, hT, hq⟩ := hsp
  refine ⟨_, (pss_one (ps_ret (pe_callB (cr_all rfl) (by rfl) N.n_all (by decide +kernel) (pa_cons (pe_lc (own := [("at", 1)]) (g := gName 1) (tt := tYes) (by rfl) S.nd (pi_range1 rfl N.n_range (pa_cons (pe_callB (call_max2 rfl) (by rfl) N.n_max (by decide +kernel) (pa_cons pe_int (pa_cons (pe_callB (call_min2 rfl) (by rfl) N.n_min (by decide +kernel) (pa_cons (pe_callB call_len_seq (by rfl) N.n_len (by decide +kernel) (pa_cons (pv 0) pa_nil)) (pa_cons pe_int pa_nil))) pa_nil))) pa_nil)) (blkOk_by (own := [("at", 1)]) (N := nLaw) (sc := defScope sLaw) (by decide +kernel)) (fun _ _ _ _ _ => (pg_name (i := 1) S.nd rfl (Or.inl rfl))) (fun _ _ _ _ _ => pts_nil) (fun _ _ _ _ _ => (pe_clb cR hr (by decide) gd rfl (pa_cons (pe_clb cP hr (by decide) gd rfl (pa_cons (pv 0) (pa_cons (pv 1) pa_nil))) pa_nil)))) pa_nil)))), ?_⟩
  refine ⟨_, rfl, _, _, rfl, .inl hL, ?_⟩
  have low : ∀ m : Int, 0 ≤ m → m ≤ 3 → ∃ j : Int, (if m > 2 then m else 2) = j ∧ 0 ≤ j ∧ j ≤ 3 := fun m h0 h3 => by
    by_cases h : m > 2
    · exact ⟨m, if_pos h, h0, h3⟩
    · exact ⟨2, if_neg h, by omega, by omega⟩
  have mn : ∃ m : Int, (if (3 : Int) < ((ns.map V.int).length : Nat) then (3 : Int) else ((ns.map V.int).length : Nat)) = m ∧ 0 ≤ m ∧ m ≤ 3 := by
    by_cases h : (3 : Int) < ((ns.map V.int).length : Nat)
    · exact ⟨3, if_pos h, by omega, by omega⟩
    · exact ⟨_, if_neg h, by omega, by omega⟩
  obtain ⟨m, em, m0, m3⟩ := mn
  obtain ⟨j, ej, j0, j3⟩ := low m m0 m3
  refine ⟨_, _, rfl, _, _, rfl, j, ?_, by omega, by omega, fun D hD => ?_⟩
  · show [V.int (if (if (3 : Int) < ((ns.map V.int).length : Nat) then (3 : Int) else ((ns.map V.int).length : Nat)) > 2 then (if (3 : Int) < ((ns.map V.int).length : Nat) then (3 : Int) else ((ns.map V.int).length : Nat)) else 2)] = [V.int j]
    rw [em, ej]
  have naD : ∀ Hx, Kt T [D] H Hx → SqL K Hx a (ns.map V.int) := fun Hx k => by
    have e : ∀ {o}, H a = some o → a ∉ [D] := fun {o} e => by simpa using ne_of_none e hD
    rcases hL with (h | ⟨o, h⟩) | h
    · exact .inl (.inl (k.kp.lst h (e h)))
    · exact .inl (.inr ⟨o, k.kp.at_ h rfl fun ps z => by cases z⟩)
    · exact .inr h
  refine lc_range (lo := 0) (n := j.toNat) (fun k Hb => Kt T [D] H Hb ∧ Hb D = some (.lst ((List.replicate k true).map V.bl))) ⟨Kt.new hD, upd_same⟩ (fun k Hb hk h => ?_) fun Hb h => ?_
  · have nd : ∀ Hx p, Hb p = none → Kt T [] Hb Hx → D ≠ p := fun Hx p n _ => ne_of_none h.2 n
    refine ⟨rfl, _, rfl, _, rfl, a, ns, k, (by show [V.ref a, V.int (0 + (k : Int))] = _; rw [Int.zero_add]), naD _ h.1, hl, by omega, fun H' p s1 n1 dr => ⟨p, rfl, (Kt.same (D := []) s1).tb (h.1.tb hT), dr, fun H'' kp => ⟨_, kp.kp.lst (s1 _ _ h.2) (by simpa using ne_of_none h.2 n1), ?_, ?_, ?_⟩⟩⟩
    · rw [List.length_map, List.length_replicate]
      have : k < 3 := by omega
      exact Nat.lt_trans this (by decide)
    · have k2 : Kt T [p] Hb H'' := (Kt.same s1).trans kp
      exact (h.1.trans ((k2.drop n1).of)).trans (Kt.put (kp.kp.lst (s1 _ _ h.2) (by simpa using ne_of_none h.2 n1)) rfl (by simp))
    · rw [upd_same, List.replicate_succ', List.map_append]
      rfl
  · refine ⟨D, _, rfl, SqL.of h.2, ?_⟩
    have e : (List.replicate j.toNat true).all id = true := by simp
    rw [e]
    exact hq Hb
end
/-! ### the law's end, with tables -/
/-- a table's object as the top left it -/
abbrev tabO : Obj := { cls := .none, data := .fields #[] }
/-- what is tracked at the law's call: the script (if the written part does not hold it) and the tables -/
def Hini (K : Frag) (Ps : List Addr) (a : Addr) (lo : Obj) (xs : List V) : Hp := fun b => if b ∈ Ps then some (.tbl #[]) else if b = a ∧ K.lookup a = none then some (.frz lo (.lst xs)) else none
section
variable {K : Frag} {Ps : List Addr} {a b : Addr} {lo : Obj} {xs : List V} {u : HO}
theorem hini_tab (h : b ∈ Ps) : Hini K Ps a lo xs b = some (.tbl #[]) := if_pos h
theorem hini_cases (h : Hini K Ps a lo xs b = some u) : (b ∈ Ps ∧ u = .tbl #[]) ∨ (b ∉ Ps ∧ b = a ∧ K.lookup a = none ∧ u = .frz lo (.lst xs)) := by
  unfold Hini at h
  by_cases h1 : b ∈ Ps
  · rw [if_pos h1] at h
    cases h
    exact .inl ⟨h1, rfl⟩
  · rw [if_neg h1] at h
    by_cases h2 : b = a ∧ K.lookup a = none
    · rw [if_pos h2] at h
      cases h
      exact .inr ⟨h1, h2.1, h2.2, rfl⟩
    · rw [if_neg h2] at h
      cases h
end
theorem law_GT {P : Program} {w : World} {K : Frag} {mg mb : Str → Option Value} {k : Nat} {fa a : Addr} {cs : List (Addr × Addr)} {fd : FuncData} {x : Str} {sp : Sp} {s₁ : Shared} {vs : List Value} {ns : List Int}
    (KX : K.In s₁.heap) (hns : s₁.heap.Ns mainGlobals mg) (hbl : s₁.heap.Ns builtinsNs mb) (hbb : ∀ x : Str, x ≠ "__name__" → mb x = bootBuiltins x) (lim : s₁.heap.NoLimit) (noGen : s₁.gens = #[])
    (tabs : ∀ p ∈ cs, s₁.heap.get? p.2 = some tabO) (notK : ∀ p ∈ cs, K.lookup p.2 = none) (heads : ∀ p ∈ cs, PySem.W.CodeHd s₁.heap p.1 p.2)
    (main : ∃ (bm : Addr) (ob : Obj), mg "__builtins__" = some (.ref bm) ∧ bm ≠ builtinsNs ∧ s₁.heap.get? bm = some ob ∧ ob.cls = .type "module" ∧ ob.dict = some builtinsNs ∧ ob.data = .plain)
    (script : s₁.heap.get? a = some { cls := .type "list", data := .seq vs.toArray }) (nums : IntsAre vs ns) (short : ns.length ≤ sizeLine) (room : Room k callerA)
    (F : ∀ base : Heap, K.In base → base.Ns mainGlobals mg → (∀ p ∈ cs, TabB base mg p.1 p.2) → FnG P w K mg base k fa fd [x] sp) (bnd : ∀ (s : Shared) (u : Value), BindsTo s fd ⟨[u], []⟩ [(x, u)])
    (told : ∀ H : Hp, (∀ p ∈ cs, H p.2 = some (.tbl #[])) → SqL K H a (ns.map V.int) → sp [.ref a] H (fun v _ => v = .bl true) fun _ _ _ => False) :
    codeAny (model P w) callerA (.call (.ref fa) ⟨[.ref a], []⟩) (fun r s' => r = .ok (.ret (.bool true)) ∧ OldK s₁.heap s'.heap ∧ s'.os = s₁.os ∧ AllBare s'.gens) s₁ := by
  have vals := vals_ints nums
  have tabAt : ∀ {b}, b ∈ cs.map (·.2) → s₁.heap.get? b = some tabO := fun {b} m => by
    obtain ⟨p, mp, rfl⟩ := List.mem_map.mp m
    exact tabs p mp
  have tabK : ∀ {b}, b ∈ cs.map (·.2) → K.lookup b = none := fun {b} m => by
    obtain ⟨p, mp, rfl⟩ := List.mem_map.mp m
    exact notK p mp
  have aNot : a ∉ cs.map (·.2) := fun m => by
    have z := tabAt m
    rw [script] at z
    have z' : Data.seq vs.toArray _ = Data.fields #[] := congrArg Obj.data (Option.some.inj z)
    cases z'
  -- what is tracked
  have H0 : ∃ H, H = Hini K (cs.map (·.2)) a { cls := .type "list", data := .seq vs.toArray } (ns.map V.int) := ⟨_, rfl⟩
  obtain ⟨H, eH⟩ := H0
  have tb : ∀ p ∈ cs, H p.2 = some (.tbl #[]) := fun p mp => by
    rw [eH]
    exact hini_tab (List.mem_map.mpr ⟨p, mp, rfl⟩)
  have okH : HOk P w H s₁.heap := fun b u e => by
    rw [eH] at e
    rcases hini_cases e with ⟨m, rfl⟩ | ⟨_, rfl, _, rfl⟩
    · exact tabAt m
    · exact ⟨script, by rw [List.length_map]; exact short, vs, _, vals, script⟩
  have sq : SqL K H a (ns.map V.int) := by
    cases q : K.lookup a with
    | none =>
      refine .inl (.inr ⟨{ cls := .type "list", data := .seq vs.toArray }, ?_⟩)
      rw [eH]
      unfold Hini
      rw [if_neg aNot, if_pos ⟨rfl, q⟩]
    | some o =>
      have e := KX a o q
      rw [script] at e
      cases e
      exact .inr ⟨_, vs.toArray, _, q, rfl, rfl, rfl, by rw [List.size_toArray, nums.length]; exact short, by simpa using vals⟩
  -- the ground: all that is not tracked
  have shape : ∀ {b : Addr} {o : Obj} {u : HO}, s₁.heap.get? b = some o → H b = some u → (∃ us n, o.data = .seq us n) ∨ o.data = .fields #[] := fun {b o u} e z => by
    rw [eH] at z
    rcases hini_cases z with ⟨m, _⟩ | ⟨_, rfl, _, _⟩
    · rw [tabAt m] at e
      cases e
      exact .inr rfl
    · rw [script] at e
      cases e
      exact .inl ⟨_, _, rfl⟩
  have bare : ∀ {b : Addr} {o : Obj}, s₁.heap.get? b = some o → (∀ us n, o.data ≠ .seq us n) → o.data ≠ .fields #[] → H b = none := fun {b o} e h1 h2 => by
    cases z : H b with
    | none => rfl
    | some u =>
      rcases shape e z with ⟨us, n, q⟩ | q
      · exact absurd q (h1 us n)
      · exact absurd q h2
  have ground : ∀ {b : Addr} {o : Obj}, s₁.heap.get? b = some o → (∀ us n, o.data ≠ .seq us n) → o.data ≠ .fields #[] → (hidT s₁.heap H).get? b = some o := fun e h1 h2 => hidT_get e (bare e h1 h2)
  have dicts : ∀ {b : Addr} {m : Str → Option Value}, s₁.heap.Ns b m → (hidT s₁.heap H).Ns b m := fun {b m} ⟨o, es, ep, e, dd, r⟩ => ⟨o, es, ep, ground e (fun us n z => by rw [dd] at z; cases z) (fun z => by rw [dd] at z; cases z), dd, r⟩
  have inB : K.In (hidT s₁.heap H) := fun b o e => by
    refine hidT_get (KX b o e) ?_
    cases z : H b with
    | none => rfl
    | some u =>
      rw [eH] at z
      rcases hini_cases z with ⟨m, _⟩ | ⟨_, rfl, q, _⟩
      · rw [tabK m] at e
        cases e
      · rw [q] at e
        cases e
  have modB : L2.Mod K mg (hidT s₁.heap H) := ⟨inB, dicts hns, ⟨mb, dicts hbl, hbb⟩, let ⟨mc, c1, c2⟩ := lim; ⟨mc, dicts c1, c2⟩⟩
  have tabB : ∀ p ∈ cs, TabB (hidT s₁.heap H) mg p.1 p.2 := fun p mp => by
    have tp := tabs p mp
    refine ⟨?_, ?_, fun z => ?_⟩
    · obtain ⟨o, us, file, tf, flags, tg, inF, text, tt, e1, c1, c2, c3, c4, c5, c6, c7, c8, c9⟩ := heads p mp
      refine ⟨o, us, file, tf, flags, tg, inF, text, tt, ground e1 (fun us n z => ?_) (fun z => ?_), c1, c2, c3, c4, c5, c6, c7, c8, c9⟩
      · rw [c2] at z
        cases z
      · rw [c2] at z
        cases z
        simp at c3
    · obtain ⟨bm, ob, m1, m2, m3, m4, m5, m6⟩ := main
      refine ⟨bm, ob, m1, m2, fun q => ?_, fun q => ?_, ground m3 (fun us n z => by rw [m6] at z; cases z) (fun z => by rw [m6] at z; cases z), m4, m5, m6⟩
      · obtain ⟨o, es, ep, e, dd, _⟩ := hns
        rw [q, e] at m3
        cases m3
        rw [dd] at m6
        cases m6
      · rw [q, tp] at m3
        cases m3
        cases m6
    · obtain ⟨o, es, ep, e, dd, _⟩ := hns
      rw [z, tp] at e
      cases e
      cases dd
  have env : Env0 P w K mg (hidT s₁.heap H) callerA [] s₁ H := {
    frames := rfl
    mod := modB
    bs := fun b o e => of_hidT e
    bsz := Nat.le_of_eq (hidT_size _ _)
    funs := trivial
    frf := fun b z => absurd (show b ∈ ([] : List Addr) from z) (by simp)
    hok := okH
    bare := .of_eq noGen }
  refine codeAny_mono ((F _ inB (dicts hns) tabB).goes callerA [] s₁ H ⟨[.ref a], []⟩ [.ref a] [.ref a] _ _ room rfl env (bnd s₁ (.ref a)) (.cons rfl .nil) (told H tb sq)) fun r s' q => ?_
  match r, q with
  | .error e, q => exact q.elim
  | .ok (.ret u), ⟨v, H', os, gens, un, okH', rv, qv⟩ =>
    obtain rfl : v = .bl true := qv
    obtain rfl : u = Value.bool true := rv
    have grown : ∀ {b}, b ∈ cs.map (·.2) → ∃ more : Array Value, s'.heap.get? b = some { cls := .none, data := .fields more } := fun {b} m => by
      obtain ⟨more, z⟩ := un.tbls b #[] (by rw [eH]; exact hini_tab m)
      exact ⟨_, okH' b _ z⟩
    have kept : ∀ b o, b ∉ cs.map (·.2) → s₁.heap.get? b = some o → s'.heap.get? b = some o := fun b o nm e => by
      cases z : H b with
      | none => exact un.keep b o e z (fun y => nomatch (show b ∈ ([] : List Addr) from y)) (fun y => nomatch y)
      | some u =>
        have z0 := z
        rw [eH] at z
        rcases hini_cases z with ⟨m, _⟩ | ⟨_, rfl, _, rfl⟩
        · exact absurd m nm
        · obtain ⟨e2, _⟩ := okH' b _ (un.frzs b _ _ z0)
          rw [script] at e
          cases e
          exact e2
    refine ⟨rfl, ⟨fun b o e => ?_, fun b o e => ?_⟩, os, gens⟩
    · by_cases m : b ∈ cs.map (·.2)
      · obtain ⟨p, mp, ep⟩ := List.mem_map.mp m
        obtain ⟨more, hm⟩ := grown m
        rw [tabAt m] at e
        cases e
        have hd := (heads p mp).tab (tabs p mp)
        have ep' : p.2 = b := ep
        rw [ep'] at hd
        exact .inr (.inl ⟨hd.isCodeTable, rfl, #[], more, rfl, by rw [Array.empty_append]; exact hm⟩)
      · exact .inl (kept b o m e)
    · by_cases m : b ∈ cs.map (·.2)
      · obtain ⟨more, hm⟩ := grown m
        exact ⟨_, hm⟩
      · exact ⟨o, kept b o m e⟩
end K11
set_option maxHeartbeats 4000000
/-! M25: the errors' classes, by checks of the written part. -/
namespace K11
open PySem PySem.Spec PySem.Calls L2 DL
open PySem.W (Frag keepIn findIn typeIn subIn mroIn nsIn clsIn hasDictIn specialIn takesIn kitOne kitAny excIn excInitIn codeIn ks_superIn fnX ksEnv exmOne notFirst)
open PyProof.Rows hiding St wpAt wpAt_bind wpAt_stack wpAt_mono
abbrev veB : List Value := [.type "ValueError", .type "Exception", .type "BaseException", .type "object"]
/-- what the text of an __init__ of one parameter must be -/
structure St1 (n : Str) (st : Stmt) : Prop where
  ex : ∃ p0 p1 p2 p3 p4 q0 q1 q2 q3 q4 : Pos, defBody st = [.Expr (.Call (.Attribute (.Call (.Name "super" p0) [] [] p1) "__init__" p2) [.Name n q0] [] p3) p4, .Assign [.Attribute (.Name "self" q1) n q2] (.Name n q3) q4] ∧
    (∃ pl : Str → Addr → Addr → Value → Addr → Sem Bool, ∀ q L f cda cc, eval (.Call (.Attribute (.Call (.Name "super" p0) [] [] p1) "__init__" p2) [.Name n q0] [] p3) (ksEnv q (defScope st) L f cda cc) = (do
      let ov ← attributeBase (.Call (.Name "super" p0) [] [] p1) "__init__" (ksEnv q (defScope st) L f cda cc) (eval (.Call (.Name "super" p0) [] [] p1) (ksEnv q (defScope st) L f cda cc))
      standAt p2.atName
      let (f', first) ← holding [ov] (getMethod ov "__init__" (pl q L f cda cc))
      callWith p3 f' first (backTo p3 (starEach [.Name n q0] (ksEnv q (defScope st) L f cda cc))) [])) ∧
    (∀ q L f cda cc, swapsWith (.Name n q3) (some (.Attribute (.Name "self" q1) n q2)) q4.line (ksEnv q (defScope st) L f cda cc) = pure false)
  kind : (defScope st).kind = .function
  ls : (defScope st).names.lookup ("super" : Str) = some .globalImplicit
  lc : (defScope st).names.lookup ("__class__" : Str) = some .free
  lse : (defScope st).names.lookup ("self" : Str) = some .local
  ln : (defScope st).names.lookup n = some .local
  nc : ∀ y ∈ (defScope st).names, y.2 ≠ .cell
  co : (defScope st).isCoroutine = false
  ge : (defScope st).isGenerator = false
  ar : ∃ ar : Arg, ((defArgs st).posonlyargs ++ (defArgs st).args).head? = some ar ∧ ar.arg = "self"
  n0 : (n == ("__debug__" : Str)) = false
  ns : (n == ("self" : Str)) = false
  it : ∀ q L f cda cc, interactive (ksEnv q (defScope st) L f cda cc) = false
  b1 : ∀ (s : Shared) (x v : Value) (qual : Str) (kV doc pm : Value) (an : Option Addr) (cdv ct : Value) (cc : Addr), BindsTo s (fnX "__init__" qual (defArgs st) (defBody st) (defScope st) [("__class__", cc)] .none kV doc pm an cdv ct) ⟨[x, v], []⟩ [("self", x), (n, v)]
  b2 : ∀ (s : Shared) (x v : Value) (qual : Str) (kV doc pm : Value) (an : Option Addr) (cdv ct : Value) (cc : Addr), BindsTo s (fnX "__init__" qual (defArgs st) (defBody st) (defScope st) [("__class__", cc)] .none kV doc pm an cdv ct) ⟨[x], [(n, v)]⟩ [("self", x), (n, v)]
theorem mk1_of {w : World} {K : Frag} {mg : Str → Option Value} {C fI : Addr} {n : Str} {st : Stmt} (T : SuC K prg C fI [n] st) (Z : St1 n st) (no : mg "super" = none) : (∀ u, MkC prg w K mg C [u] [] (mA1 n u)) ∧ ∀ u, MkC prg w K mg C [] [(n, u)] (mA1 n u) := by
  obtain ⟨p0, p1, p2, p3, p4, q0, q1, q2, q3, q4, hb, ⟨pl, hev⟩, hsw⟩ := Z.ex
  obtain ⟨ar, ha, har⟩ := Z.ar
  exact ⟨fun u => mkC_of T (by show 1 ≤ sizeLine; decide) fun A s x t0 R X Md hx hxC hnx hroom hq => su_init1 (pars := defArgs st) T X Md hx hxC hnx hroom hb Z.kind Z.ls Z.lc Z.lse Z.ln Z.nc Z.co Z.ge ha har Z.n0 Z.ns (Z.b1 s (.ref x) u) Z.it pl hev hsw hq,
    fun u => mkC_of T (by show 0 ≤ sizeLine; omega) fun A s x t0 R X Md hx hxC hnx hroom hq => su_init1 (pars := defArgs st) T X Md hx hxC hnx hroom hb Z.kind Z.ls Z.lc Z.lse Z.ln Z.nc Z.co Z.ge ha har Z.n0 Z.ns (Z.b2 s (.ref x) u) Z.it pl hev hsw hq⟩
abbrev sRowsErr : Stmt := inClass (topS 4) 0
abbrev sBarErr : Stmt := inClass (topS 6) 0
theorem stR : St1 "index" sRowsErr := ⟨⟨_, _, _, _, _, _, _, _, _, _, rfl, ⟨_, fun _ _ _ _ _ => rfl⟩, fun _ _ _ _ _ => rfl⟩, rfl, rfl, rfl, rfl, rfl, by decide +kernel, rfl, rfl, ⟨_, rfl, rfl⟩, by decide, by decide, fun _ _ _ _ _ => rfl, fun _ _ _ _ _ _ _ _ _ _ _ => .of_eq rfl, fun _ _ _ _ _ _ _ _ _ _ _ => .of_eq rfl⟩
theorem stB : St1 "reason" sBarErr := ⟨⟨_, _, _, _, _, _, _, _, _, _, rfl, ⟨_, fun _ _ _ _ _ => rfl⟩, fun _ _ _ _ _ => rfl⟩, rfl, rfl, rfl, rfl, rfl, by decide +kernel, rfl, rfl, ⟨_, rfl, rfl⟩, by decide, by decide, fun _ _ _ _ _ => rfl, fun _ _ _ _ _ _ _ _ _ _ _ => .of_eq rfl, fun _ _ _ _ _ _ _ _ _ _ _ => .of_eq rfl⟩
def eiB (K : Frag) (C : Addr) : Bool := decide (findIn K (.ref C) "__getattribute__" = some (some (.builtin "BaseException.__getattribute__"))) && (decide (findIn K (.ref C) "__getattr__" = some none) && (decide (subIn K (.ref C) (.type "BaseException") = some true) && (hasDictIn K C &&
  (decide (findIn K (.ref C) "__class__" = some (some (.builtin "object.__class__"))) && (decide (specialIn K (.builtin "object.__class__") "__get__" = some (some (.builtin "getset_descriptor.__get__"))) && (decide (takesIn K (.builtin "object.__class__") = some true) && (decide (mroIn K C (.type "object") = some true) && decide (typeIn K (.ref C) = some (.type "type")))))))))
theorem ei_of {K : Frag} {C : Addr} (h : eiB K C = true) : EiC K C := by
  obtain ⟨h1, h⟩ := Bool.and_eq_true_iff.mp h
  obtain ⟨h2, h⟩ := Bool.and_eq_true_iff.mp h
  obtain ⟨h3, h⟩ := Bool.and_eq_true_iff.mp h
  obtain ⟨h4, h⟩ := Bool.and_eq_true_iff.mp h
  obtain ⟨h5, h⟩ := Bool.and_eq_true_iff.mp h
  obtain ⟨h6, h⟩ := Bool.and_eq_true_iff.mp h
  obtain ⟨h7, h⟩ := Bool.and_eq_true_iff.mp h
  obtain ⟨h8, h9⟩ := Bool.and_eq_true_iff.mp h
  exact ⟨of_decide_eq_true h1, of_decide_eq_true h2, of_decide_eq_true h3, h4, of_decide_eq_true h5, of_decide_eq_true h6, of_decide_eq_true h7, of_decide_eq_true h8, of_decide_eq_true h9⟩
def clsB (K : Frag) (C : Addr) : Bool := match K.lookup C with
  | some ⟨.type "type", _, .cls cd, sl⟩ => (match cd.mro, sl.toList with
    | .ref C' :: bm, [_, _, _, _, some (.builtin n), _] => C' == C && n == "ValueError.__new__" && !cd.hasDel && cd.hasDict && HandSPX.refsVE bm
    | _, _ => false)
  | _ => false
theorem cls_of {K : Frag} {C : Addr} (q : clsB K C = true) : ∃ nm q N bs bm sn sub ab col dd k0 k1 k2 k3 k5, K.lookup C = some (excClassObj nm q C N bs bm true sn sub ab col dd k0 k1 k2 k3 k5 "ValueError.__new__") ∧ HandSPX.refsVE bm = true := by
  unfold clsB at q
  split at q
  · rename_i dd cd sl ho
    split at q
    · rename_i C' bm k0 k1 k2 k3 n k5 hm hs
      simp only [Bool.and_eq_true, beq_iff_eq, Bool.not_eq_true'] at q
      obtain ⟨⟨⟨⟨rfl, rfl⟩, hdel⟩, hdct⟩, ht⟩ := q
      obtain ⟨nm, bs, mro, ns, qn, hd, sn, sub, ab, col, del⟩ := cd
      dsimp only at hm hdel hdct
      subst hm hdel hdct
      have hsl : sl = #[k0, k1, k2, k3, some (.builtin "ValueError.__new__"), k5] := by
        obtain ⟨l⟩ := sl
        simp only at hs
        rw [hs]
      subst hsl
      exact ⟨_, _, _, _, _, _, _, _, _, _, _, _, _, _, _, ho, ht⟩
    · cases q
  · cases q
def suB (K : Frag) (C fI : Addr) (ps : List Str) : Bool := clsB K C && (excInitIn K C veB "ValueError.__new__" && (decide (findIn K (.ref C) "__setattr__" = some (some (.builtin "object.__setattr__"))) && (ps.all (fun n => decide (findIn K (.ref C) n = some none)) && (decide (findIn K (.ref C) "__init__" = some (some (.ref fI))) &&
  (decide (typeIn K (.ref fI) = some (.type "function")) && (decide (ks_superIn K C C "__init__" = some (some (.builtin "ValueError.__init__"))) && (decide (subIn K (.ref C) (.type "ValueError") = some true) && (decide (mroIn K C (.ref C) = some true) && decide (nsIn K cStatics "thirdparty.any" = some none)))))))))
def inB (K : Frag) (qual : Str) (cda cc C : Addr) : Bool := codeIn K (.ref cda) qual && ((match K.lookup cda with
  | some ⟨_, _, .fields vs, _⟩ => (match (vs : Array Value)[2]? with
    | some (Value.str f _) => (prg.main.file : Str) == f
    | _ => false)
  | _ => false) && (match K.lookup cc with
  | some ⟨_, _, .cell (some (.ref D)), _⟩ => D == C
  | _ => false))
theorem su_of {K : Frag} {C fI : Addr} {ps : List Str} {st : Stmt} {qual : Str} {oc : Value} {od : Option Addr} {kV doc pm : Value} {an : Option Addr} {cda : Addr} {ct : Value} {osl : Array (Option Value)} {cc : Addr} (h : suB K C fI ps = true) (hi : inB K qual cda cc C = true)
    (l : K.lookup fI = some ⟨oc, od, .func (fnX "__init__" qual (defArgs st) (defBody st) (defScope st) [("__class__", cc)] .none kV doc pm an (.ref cda) ct), osl⟩) : SuC K prg C fI ps st := by
  obtain ⟨h1, h⟩ := Bool.and_eq_true_iff.mp h
  obtain ⟨h2, h⟩ := Bool.and_eq_true_iff.mp h
  obtain ⟨h3, h⟩ := Bool.and_eq_true_iff.mp h
  obtain ⟨h4, h⟩ := Bool.and_eq_true_iff.mp h
  obtain ⟨h5, h⟩ := Bool.and_eq_true_iff.mp h
  obtain ⟨h6, h⟩ := Bool.and_eq_true_iff.mp h
  obtain ⟨h7, h⟩ := Bool.and_eq_true_iff.mp h
  obtain ⟨h8, h⟩ := Bool.and_eq_true_iff.mp h
  obtain ⟨h9, h10⟩ := Bool.and_eq_true_iff.mp h
  obtain ⟨c1, hi⟩ := Bool.and_eq_true_iff.mp hi
  obtain ⟨c2, c3⟩ := Bool.and_eq_true_iff.mp hi
  refine ⟨cls_of h1, h2, of_decide_eq_true h3, fun n hn => of_decide_eq_true (List.all_eq_true.mp h4 n hn), of_decide_eq_true h5, of_decide_eq_true h6, of_decide_eq_true h7, of_decide_eq_true h8, of_decide_eq_true h9, of_decide_eq_true h10, ?_, by decide +kernel⟩
  split at c2
  · rename_i a1 a2 vs a3 e1
    split at c2
    · rename_i fl tf e2
      split at c3
      · rename_i b1 b2 D b3 e3
        obtain rfl : D = C := beq_iff_eq.mp c3
        exact ⟨_, _, _, _, _, _, _, _, _, _, _, _, _, _, _, _, _, _, _, _, l, c1, e1, e2, c2, e3⟩
      · cases c3
    · cases c2
  · cases c2

/-- one attribute's class, from the checks -/
theorem ex1_of {w : World} {K : Frag} {mg : Str → Option Value} {C fI : Addr} {x n : Str} {st : Stmt} {oc : Value} {od : Option Addr} {kV doc pm : Value} {an : Option Addr} {cda : Addr} {ct : Value} {osl : Array (Option Value)} {cc : Addr} {qual : Str} (Z : St1 n st) (h : suB K C fI [n] = true) (hi : inB K qual cda cc C = true)
    (l : K.lookup fI = some ⟨oc, od, .func (fnX "__init__" qual (defArgs st) (defBody st) (defScope st) [("__class__", cc)] .none kV doc pm an (.ref cda) ct), osl⟩) (e : eiB K C = true) (k : keepIn K (.ref C) = true) (g : mg x = some (.ref C)) (no : mg "super" = none) (na : findIn K (.ref C) n = some none) (ex : exmOne K (.ref C) (.ref C) = some true) : Ex1 w K mg x n C :=
  ⟨suK1 k no (mk1_of (su_of h hi l) Z no).1, ei_of e, g, na, ex⟩
end K11
set_option maxHeartbeats 4000000
/-! HS0: the states of the top, printed by gen/states.lean. -/
namespace K11H
open PySem PySem.W PySem.Calls PyProof.Rows L2
abbrev prg : Program := PySem.Challenge.pw_frametongue_k11_desks_undone_and_equal
abbrev topS (j : Nat) : Stmt := prg.main.body.getD j (.Pass ⟨0, 0, 0, 0⟩)
/-- a function's record, by its statement -/
abbrev fQ (s : Stmt) (name qual : Str) (g : Addr) (cl : List (Str × Addr)) (dv kw doc pm : Value) (an : Option Addr) (cd ct : Value) (bl : Addr) : FuncData :=
  { name, qualname := qual, params := defArgs s, body := .stmts (defBody s), scope := defScope s, globals := g, closure := cl, defaults := dv, kwdefaults := kw, doc, pyModule := pm, annotations := an, code := cd, closureTuple := ct, builtins := bl }
noncomputable def o0_0 (P : Params) : Obj := ⟨.type "dict", none, (.dict ⟨[⟨PyData.keyHash P "__name__", .str "__name__" 1, .str "builtins" 160⟩, ⟨PyData.keyHash P "__doc__", .str "__doc__" 2, .builtin "builtins.__doc__:str#opaque"⟩, ⟨PyData.keyHash P "__package__", .str "__package__" 3, .builtin "builtins.__package__:str#opaque"⟩, ⟨PyData.keyHash P "__loader__", .str "__loader__" 4, .builtin "builtins.__loader__:shared#opaque"⟩, ⟨PyData.keyHash P "__spec__", .str "__spec__" 5, .builtin "builtins.__spec__#opaque"⟩, ⟨PyData.keyHash P "__build_class__", .str "__build_class__" 6, .builtin "__build_class__"⟩, ⟨PyData.keyHash P "__import__", .str "__import__" 7, .builtin "__import__"⟩, ⟨PyData.keyHash P "abs", .str "abs" 8, .builtin "abs"⟩, ⟨PyData.keyHash P "all", .str "all" 9, .builtin "all"⟩, ⟨PyData.keyHash P "any", .str "any" 10, .builtin "any"⟩, ⟨PyData.keyHash P "ascii", .str "ascii" 11, .builtin "ascii"⟩, ⟨PyData.keyHash P "bin", .str "bin" 12, .builtin "bin"⟩, ⟨PyData.keyHash P "breakpoint", .str "breakpoint" 13, .builtin "breakpoint"⟩, ⟨PyData.keyHash P "callable", .str "callable" 14, .builtin "callable"⟩, ⟨PyData.keyHash P "chr", .str "chr" 15, .builtin "chr"⟩, ⟨PyData.keyHash P "compile", .str "compile" 16, .builtin "compile"⟩, ⟨PyData.keyHash P "delattr", .str "delattr" 17, .builtin "delattr"⟩, ⟨PyData.keyHash P "dir", .str "dir" 18, .builtin "dir"⟩, ⟨PyData.keyHash P "divmod", .str "divmod" 19, .builtin "divmod"⟩, ⟨PyData.keyHash P "eval", .str "eval" 20, .builtin "eval"⟩, ⟨PyData.keyHash P "exec", .str "exec" 21, .builtin "exec"⟩, ⟨PyData.keyHash P "format", .str "format" 22, .builtin "format"⟩, ⟨PyData.keyHash P "getattr", .str "getattr" 23, .builtin "getattr"⟩, ⟨PyData.keyHash P "globals", .str "globals" 24, .builtin "globals"⟩, ⟨PyData.keyHash P "hasattr", .str "hasattr" 25, .builtin "hasattr"⟩, ⟨PyData.keyHash P "hash", .str "hash" 26, .builtin "hash"⟩, ⟨PyData.keyHash P "hex", .str "hex" 27, .builtin "hex"⟩, ⟨PyData.keyHash P "id", .str "id" 28, .builtin "id"⟩, ⟨PyData.keyHash P "input", .str "input" 29, .builtin "input"⟩, ⟨PyData.keyHash P "isinstance", .str "isinstance" 30, .builtin "isinstance"⟩, ⟨PyData.keyHash P "issubclass", .str "issubclass" 31, .builtin "issubclass"⟩, ⟨PyData.keyHash P "iter", .str "iter" 32, .builtin "iter"⟩, ⟨PyData.keyHash P "aiter", .str "aiter" 33, .builtin "aiter"⟩, ⟨PyData.keyHash P "len", .str "len" 34, .builtin "len"⟩, ⟨PyData.keyHash P "locals", .str "locals" 35, .builtin "locals"⟩, ⟨PyData.keyHash P "max", .str "max" 36, .builtin "max"⟩, ⟨PyData.keyHash P "min", .str "min" 37, .builtin "min"⟩, ⟨PyData.keyHash P "next", .str "next" 38, .builtin "next"⟩, ⟨PyData.keyHash P "anext", .str "anext" 39, .builtin "anext"⟩, ⟨PyData.keyHash P "oct", .str "oct" 40, .builtin "oct"⟩, ⟨PyData.keyHash P "ord", .str "ord" 41, .builtin "ord"⟩, ⟨PyData.keyHash P "pow", .str "pow" 42, .builtin "pow"⟩, ⟨PyData.keyHash P "print", .str "print" 43, .builtin "print"⟩, ⟨PyData.keyHash P "repr", .str "repr" 44, .builtin "repr"⟩, ⟨PyData.keyHash P "round", .str "round" 45, .builtin "round"⟩, ⟨PyData.keyHash P "setattr", .str "setattr" 46, .builtin "setattr"⟩, ⟨PyData.keyHash P "sorted", .str "sorted" 47, .builtin "sorted"⟩, ⟨PyData.keyHash P "sum", .str "sum" 48, .builtin "sum"⟩, ⟨PyData.keyHash P "vars", .str "vars" 49, .builtin "vars"⟩, ⟨PyData.keyHash P "None", .str "None" 50, .none⟩, ⟨PyData.keyHash P "Ellipsis", .str "Ellipsis" 51, .ellipsis⟩, ⟨PyData.keyHash P "NotImplemented", .str "NotImplemented" 52, .notImplemented⟩, ⟨PyData.keyHash P "False", .str "False" 53, .bool false⟩, ⟨PyData.keyHash P "True", .str "True" 54, .bool true⟩, ⟨PyData.keyHash P "bool", .str "bool" 55, .type "bool"⟩, ⟨PyData.keyHash P "memoryview", .str "memoryview" 56, .type "memoryview"⟩, ⟨PyData.keyHash P "bytearray", .str "bytearray" 57, .type "bytearray"⟩, ⟨PyData.keyHash P "bytes", .str "bytes" 58, .type "bytes"⟩, ⟨PyData.keyHash P "classmethod", .str "classmethod" 59, .type "classmethod"⟩, ⟨PyData.keyHash P "complex", .str "complex" 60, .type "complex"⟩, ⟨PyData.keyHash P "dict", .str "dict" 61, .type "dict"⟩, ⟨PyData.keyHash P "enumerate", .str "enumerate" 62, .type "enumerate"⟩, ⟨PyData.keyHash P "filter", .str "filter" 63, .type "filter"⟩, ⟨PyData.keyHash P "float", .str "float" 64, .type "float"⟩, ⟨PyData.keyHash P "frozenset", .str "frozenset" 65, .type "frozenset"⟩, ⟨PyData.keyHash P "property", .str "property" 66, .type "property"⟩, ⟨PyData.keyHash P "int", .str "int" 67, .type "int"⟩, ⟨PyData.keyHash P "list", .str "list" 68, .type "list"⟩, ⟨PyData.keyHash P "map", .str "map" 69, .type "map"⟩, ⟨PyData.keyHash P "object", .str "object" 70, .type "object"⟩, ⟨PyData.keyHash P "range", .str "range" 71, .type "range"⟩, ⟨PyData.keyHash P "reversed", .str "reversed" 72, .type "reversed"⟩, ⟨PyData.keyHash P "set", .str "set" 73, .type "set"⟩, ⟨PyData.keyHash P "slice", .str "slice" 74, .type "slice"⟩, ⟨PyData.keyHash P "staticmethod", .str "staticmethod" 75, .type "staticmethod"⟩, ⟨PyData.keyHash P "str", .str "str" 76, .type "str"⟩, ⟨PyData.keyHash P "super", .str "super" 77, .type "super"⟩, ⟨PyData.keyHash P "tuple", .str "tuple" 78, .type "tuple"⟩, ⟨PyData.keyHash P "type", .str "type" 79, .type "type"⟩, ⟨PyData.keyHash P "zip", .str "zip" 80, .type "zip"⟩, ⟨PyData.keyHash P "__debug__", .str "__debug__" 81, .bool true⟩, ⟨PyData.keyHash P "BaseException", .str "BaseException" 82, .type "BaseException"⟩, ⟨PyData.keyHash P "BaseExceptionGroup", .str "BaseExceptionGroup" 83, .type "BaseExceptionGroup"⟩, ⟨PyData.keyHash P "Exception", .str "Exception" 84, .type "Exception"⟩, ⟨PyData.keyHash P "GeneratorExit", .str "GeneratorExit" 85, .type "GeneratorExit"⟩, ⟨PyData.keyHash P "KeyboardInterrupt", .str "KeyboardInterrupt" 86, .type "KeyboardInterrupt"⟩, ⟨PyData.keyHash P "SystemExit", .str "SystemExit" 87, .type "SystemExit"⟩, ⟨PyData.keyHash P "ArithmeticError", .str "ArithmeticError" 88, .type "ArithmeticError"⟩, ⟨PyData.keyHash P "AssertionError", .str "AssertionError" 89, .type "AssertionError"⟩, ⟨PyData.keyHash P "AttributeError", .str "AttributeError" 90, .type "AttributeError"⟩, ⟨PyData.keyHash P "BufferError", .str "BufferError" 91, .type "BufferError"⟩, ⟨PyData.keyHash P "EOFError", .str "EOFError" 92, .type "EOFError"⟩, ⟨PyData.keyHash P "ImportError", .str "ImportError" 93, .type "ImportError"⟩, ⟨PyData.keyHash P "LookupError", .str "LookupError" 94, .type "LookupError"⟩, ⟨PyData.keyHash P "MemoryError", .str "MemoryError" 95, .type "MemoryError"⟩, ⟨PyData.keyHash P "NameError", .str "NameError" 96, .type "NameError"⟩, ⟨PyData.keyHash P "OSError", .str "OSError" 97, .type "OSError"⟩, ⟨PyData.keyHash P "ReferenceError", .str "ReferenceError" 98, .type "ReferenceError"⟩, ⟨PyData.keyHash P "RuntimeError", .str "RuntimeError" 99, .type "RuntimeError"⟩, ⟨PyData.keyHash P "StopAsyncIteration", .str "StopAsyncIteration" 100, .type "StopAsyncIteration"⟩, ⟨PyData.keyHash P "StopIteration", .str "StopIteration" 101, .type "StopIteration"⟩, ⟨PyData.keyHash P "SyntaxError", .str "SyntaxError" 102, .type "SyntaxError"⟩, ⟨PyData.keyHash P "SystemError", .str "SystemError" 103, .type "SystemError"⟩, ⟨PyData.keyHash P "TypeError", .str "TypeError" 104, .type "TypeError"⟩, ⟨PyData.keyHash P "ValueError", .str "ValueError" 105, .type "ValueError"⟩, ⟨PyData.keyHash P "Warning", .str "Warning" 106, .type "Warning"⟩, ⟨PyData.keyHash P "FloatingPointError", .str "FloatingPointError" 107, .type "FloatingPointError"⟩, ⟨PyData.keyHash P "OverflowError", .str "OverflowError" 108, .type "OverflowError"⟩, ⟨PyData.keyHash P "ZeroDivisionError", .str "ZeroDivisionError" 109, .type "ZeroDivisionError"⟩, ⟨PyData.keyHash P "BytesWarning", .str "BytesWarning" 110, .type "BytesWarning"⟩, ⟨PyData.keyHash P "DeprecationWarning", .str "DeprecationWarning" 111, .type "DeprecationWarning"⟩, ⟨PyData.keyHash P "EncodingWarning", .str "EncodingWarning" 112, .type "EncodingWarning"⟩, ⟨PyData.keyHash P "FutureWarning", .str "FutureWarning" 113, .type "FutureWarning"⟩, ⟨PyData.keyHash P "ImportWarning", .str "ImportWarning" 114, .type "ImportWarning"⟩, ⟨PyData.keyHash P "PendingDeprecationWarning", .str "PendingDeprecationWarning" 115, .type "PendingDeprecationWarning"⟩, ⟨PyData.keyHash P "ResourceWarning", .str "ResourceWarning" 116, .type "ResourceWarning"⟩, ⟨PyData.keyHash P "RuntimeWarning", .str "RuntimeWarning" 117, .type "RuntimeWarning"⟩, ⟨PyData.keyHash P "SyntaxWarning", .str "SyntaxWarning" 118, .type "SyntaxWarning"⟩, ⟨PyData.keyHash P "UnicodeWarning", .str "UnicodeWarning" 119, .type "UnicodeWarning"⟩, ⟨PyData.keyHash P "UserWarning", .str "UserWarning" 120, .type "UserWarning"⟩, ⟨PyData.keyHash P "BlockingIOError", .str "BlockingIOError" 121, .type "BlockingIOError"⟩, ⟨PyData.keyHash P "ChildProcessError", .str "ChildProcessError" 122, .type "ChildProcessError"⟩, ⟨PyData.keyHash P "ConnectionError", .str "ConnectionError" 123, .type "ConnectionError"⟩, ⟨PyData.keyHash P "FileExistsError", .str "FileExistsError" 124, .type "FileExistsError"⟩, ⟨PyData.keyHash P "FileNotFoundError", .str "FileNotFoundError" 125, .type "FileNotFoundError"⟩, ⟨PyData.keyHash P "InterruptedError", .str "InterruptedError" 126, .type "InterruptedError"⟩, ⟨PyData.keyHash P "IsADirectoryError", .str "IsADirectoryError" 127, .type "IsADirectoryError"⟩, ⟨PyData.keyHash P "NotADirectoryError", .str "NotADirectoryError" 128, .type "NotADirectoryError"⟩, ⟨PyData.keyHash P "PermissionError", .str "PermissionError" 129, .type "PermissionError"⟩, ⟨PyData.keyHash P "ProcessLookupError", .str "ProcessLookupError" 130, .type "ProcessLookupError"⟩, ⟨PyData.keyHash P "TimeoutError", .str "TimeoutError" 131, .type "TimeoutError"⟩, ⟨PyData.keyHash P "IndentationError", .str "IndentationError" 132, .type "IndentationError"⟩, ⟨PyData.keyHash P "_IncompleteInputError", .str "_IncompleteInputError" 133, .type "_IncompleteInputError"⟩, ⟨PyData.keyHash P "IndexError", .str "IndexError" 134, .type "IndexError"⟩, ⟨PyData.keyHash P "KeyError", .str "KeyError" 135, .type "KeyError"⟩, ⟨PyData.keyHash P "ModuleNotFoundError", .str "ModuleNotFoundError" 136, .type "ModuleNotFoundError"⟩, ⟨PyData.keyHash P "NotImplementedError", .str "NotImplementedError" 137, .type "NotImplementedError"⟩, ⟨PyData.keyHash P "PythonFinalizationError", .str "PythonFinalizationError" 138, .type "PythonFinalizationError"⟩, ⟨PyData.keyHash P "RecursionError", .str "RecursionError" 139, .type "RecursionError"⟩, ⟨PyData.keyHash P "UnboundLocalError", .str "UnboundLocalError" 140, .type "UnboundLocalError"⟩, ⟨PyData.keyHash P "UnicodeError", .str "UnicodeError" 141, .type "UnicodeError"⟩, ⟨PyData.keyHash P "BrokenPipeError", .str "BrokenPipeError" 142, .type "BrokenPipeError"⟩, ⟨PyData.keyHash P "ConnectionAbortedError", .str "ConnectionAbortedError" 143, .type "ConnectionAbortedError"⟩, ⟨PyData.keyHash P "ConnectionRefusedError", .str "ConnectionRefusedError" 144, .type "ConnectionRefusedError"⟩, ⟨PyData.keyHash P "ConnectionResetError", .str "ConnectionResetError" 145, .type "ConnectionResetError"⟩, ⟨PyData.keyHash P "TabError", .str "TabError" 146, .type "TabError"⟩, ⟨PyData.keyHash P "UnicodeDecodeError", .str "UnicodeDecodeError" 147, .type "UnicodeDecodeError"⟩, ⟨PyData.keyHash P "UnicodeEncodeError", .str "UnicodeEncodeError" 148, .type "UnicodeEncodeError"⟩, ⟨PyData.keyHash P "UnicodeTranslateError", .str "UnicodeTranslateError" 149, .type "UnicodeTranslateError"⟩, ⟨PyData.keyHash P "ExceptionGroup", .str "ExceptionGroup" 150, .type "ExceptionGroup"⟩, ⟨PyData.keyHash P "EnvironmentError", .str "EnvironmentError" 151, .type "OSError"⟩, ⟨PyData.keyHash P "IOError", .str "IOError" 152, .type "OSError"⟩, ⟨PyData.keyHash P "open", .str "open" 153, .builtin "open"⟩, ⟨PyData.keyHash P "quit", .str "quit" 154, .builtin "builtins.quit#opaque"⟩, ⟨PyData.keyHash P "exit", .str "exit" 155, .builtin "builtins.exit#opaque"⟩, ⟨PyData.keyHash P "copyright", .str "copyright" 156, .builtin "builtins.copyright#opaque"⟩, ⟨PyData.keyHash P "credits", .str "credits" 157, .builtin "builtins.credits#opaque"⟩, ⟨PyData.keyHash P "license", .str "license" 158, .builtin "builtins.license#opaque"⟩, ⟨PyData.keyHash P "help", .str "help" 159, .builtin "builtins.help#opaque"⟩]⟩ 159), ⟨[]⟩⟩
noncomputable def o1_0 (P : Params) : Obj := ⟨.type "dict", none, (.dict ⟨[⟨PyData.keyHash P "builtins", .str "builtins" 162, .ref 4⟩, ⟨PyData.keyHash P "__main__", .str "__main__" 163, .ref 5⟩, ⟨PyData.keyHash P "math", .str "math" 285, .ref 13⟩]⟩ 3), ⟨[]⟩⟩
noncomputable def o2_0 (P : Params) : Obj := ⟨.none, none, (.dict ⟨[⟨PyData.keyHash P "import.loaded.math", .str "import.loaded.math" 186, .bool true⟩, ⟨PyData.keyHash P "class._frozen_importlib_external._LoaderBasics", .str "class._frozen_importlib_external._LoaderBasics" 191, .ref 16⟩, ⟨PyData.keyHash P "watched.import", .str "watched.import" 207, .ref 20⟩, ⟨PyData.keyHash P "class._frozen_importlib_external.FileLoader", .str "class._frozen_importlib_external.FileLoader" 208, .ref 22⟩, ⟨PyData.keyHash P "class._frozen_importlib_external.ExtensionFileLoader", .str "class._frozen_importlib_external.ExtensionFileLoader" 229, .ref 27⟩, ⟨PyData.keyHash P "class._frozen_importlib.ModuleSpec", .str "class._frozen_importlib.ModuleSpec" 257, .ref 33⟩, ⟨PyData.keyHash P "sys.modules.booked-epoch", .str "sys.modules.booked-epoch" 286, .int 3 0⟩, ⟨PyData.keyHash P "import.later-laid.math", .str "import.later-laid.math" 362, .bool true⟩, ⟨PyData.keyHash P "watched.library", .str "watched.library" 364, .ref 38⟩, ⟨PyData.keyHash P "watched.library-objects", .str "watched.library-objects" 0, .str ⟨⟨[13]⟩⟩ 0⟩]⟩ 10), ⟨[]⟩⟩
noncomputable def o3_0 (P : Params) : Obj := ⟨.type "dict", none, (.dict ⟨[⟨PyData.keyHash P "__name__", .str "__name__" 165, .str "__main__" 164⟩, ⟨PyData.keyHash P "__doc__", .str "__doc__" 166, .none⟩, ⟨PyData.keyHash P "__package__", .str "__package__" 167, .none⟩, ⟨PyData.keyHash P "__loader__", .str "__loader__" 168, .builtin "__main__.__loader__#opaque"⟩, ⟨PyData.keyHash P "__spec__", .str "__spec__" 169, .none⟩, ⟨PyData.keyHash P "__annotations__", .str "__annotations__" 170, .ref 6⟩, ⟨PyData.keyHash P "__builtins__", .str "__builtins__" 171, .ref 4⟩, ⟨PyData.keyHash P "__file__", .str "__file__" 173, .str "/claim/cut.py" 172⟩, ⟨PyData.keyHash P "__cached__", .str "__cached__" 174, .none⟩, ⟨PyData.keyHash P "comb", .str "comb" 370, .builtin "math.comb"⟩, ⟨PyData.keyHash P "gcd", .str "gcd" 373, .builtin "math.gcd"⟩]⟩ 11), ⟨[]⟩⟩
noncomputable def o4_0 : Obj := ⟨.type "module", (some 0), .plain, ⟨[]⟩⟩
noncomputable def o5_0 : Obj := ⟨.type "module", (some 3), .plain, ⟨[]⟩⟩
noncomputable def o6_0 : Obj := ⟨.type "dict", none, (.dict ⟨[]⟩ 0), ⟨[]⟩⟩
noncomputable def o7_0 : Obj := ⟨.type "tuple", none, (.seq ⟨[]⟩ 0), ⟨[]⟩⟩
noncomputable def o8_0 : Obj := ⟨.none, none, (.fields ⟨[]⟩), ⟨[]⟩⟩
noncomputable def o9_0 : Obj := ⟨.type "code", none, (.fields ⟨[.str "<module>" 176, .str "<module>" 177, .str "/claim/cut.py" 178, .int 1 0, .int 0 0, .int 0 0, .int 0 0, .int 0 0, .ref 7, .bool false, .int 175 0, .ref 8, .none, .none, .none, .none, .int 179 0, .int 1 0, .str "/claim/cut.py" 180]⟩), ⟨[]⟩⟩
noncomputable def o10_0 : Obj := ⟨.type "frame", none, .plain, ⟨[(some (.ref 9)), (some (.ref 3)), (some (.ref 3)), none, (some (.str "__main__" 164)), none, (some (.ref 0))]⟩⟩
noncomputable def o11_0 : Obj := ⟨.type "tuple", none, (.seq ⟨[.str "comb" 182, .str "gcd" 183]⟩ 0), ⟨[]⟩⟩
noncomputable def o12_0 (P : Params) : Obj := ⟨.type "dict", none, (.dict ⟨[⟨PyData.keyHash P "__name__", .str "__name__" 288, .str "math" 287⟩, ⟨PyData.keyHash P "__doc__", .str "__doc__" 289, .builtin "off-the-table:math.__doc__:shared#opaque"⟩, ⟨PyData.keyHash P "__package__", .str "__package__" 291, .str "" 290⟩, ⟨PyData.keyHash P "__loader__", .str "__loader__" 292, .builtin "off-the-table:math.__loader__:shared#opaque"⟩, ⟨PyData.keyHash P "__spec__", .str "__spec__" 293, .builtin "off-the-table:math.__spec__:shared#opaque"⟩, ⟨PyData.keyHash P "acos", .str "acos" 294, .builtin "off-the-table:math.acos:shared#opaque"⟩, ⟨PyData.keyHash P "acosh", .str "acosh" 295, .builtin "off-the-table:math.acosh:shared#opaque"⟩, ⟨PyData.keyHash P "asin", .str "asin" 296, .builtin "off-the-table:math.asin:shared#opaque"⟩, ⟨PyData.keyHash P "asinh", .str "asinh" 297, .builtin "off-the-table:math.asinh:shared#opaque"⟩, ⟨PyData.keyHash P "atan", .str "atan" 298, .builtin "off-the-table:math.atan:shared#opaque"⟩, ⟨PyData.keyHash P "atan2", .str "atan2" 299, .builtin "off-the-table:math.atan2:shared#opaque"⟩, ⟨PyData.keyHash P "atanh", .str "atanh" 300, .builtin "off-the-table:math.atanh:shared#opaque"⟩, ⟨PyData.keyHash P "cbrt", .str "cbrt" 301, .builtin "off-the-table:math.cbrt:shared#opaque"⟩, ⟨PyData.keyHash P "ceil", .str "ceil" 302, .builtin "math.ceil"⟩, ⟨PyData.keyHash P "copysign", .str "copysign" 303, .builtin "math.copysign"⟩, ⟨PyData.keyHash P "cos", .str "cos" 304, .builtin "off-the-table:math.cos:shared#opaque"⟩, ⟨PyData.keyHash P "cosh", .str "cosh" 305, .builtin "off-the-table:math.cosh:shared#opaque"⟩, ⟨PyData.keyHash P "degrees", .str "degrees" 306, .builtin "math.degrees"⟩, ⟨PyData.keyHash P "dist", .str "dist" 307, .builtin "math.dist"⟩, ⟨PyData.keyHash P "erf", .str "erf" 308, .builtin "off-the-table:math.erf:shared#opaque"⟩, ⟨PyData.keyHash P "erfc", .str "erfc" 309, .builtin "off-the-table:math.erfc:shared#opaque"⟩, ⟨PyData.keyHash P "exp", .str "exp" 310, .builtin "off-the-table:math.exp:shared#opaque"⟩, ⟨PyData.keyHash P "exp2", .str "exp2" 311, .builtin "off-the-table:math.exp2:shared#opaque"⟩, ⟨PyData.keyHash P "expm1", .str "expm1" 312, .builtin "off-the-table:math.expm1:shared#opaque"⟩, ⟨PyData.keyHash P "fabs", .str "fabs" 313, .builtin "math.fabs"⟩, ⟨PyData.keyHash P "factorial", .str "factorial" 314, .builtin "math.factorial"⟩, ⟨PyData.keyHash P "floor", .str "floor" 315, .builtin "math.floor"⟩, ⟨PyData.keyHash P "fma", .str "fma" 316, .builtin "math.fma"⟩, ⟨PyData.keyHash P "fmod", .str "fmod" 317, .builtin "math.fmod"⟩, ⟨PyData.keyHash P "frexp", .str "frexp" 318, .builtin "math.frexp"⟩, ⟨PyData.keyHash P "fsum", .str "fsum" 319, .builtin "math.fsum"⟩, ⟨PyData.keyHash P "gamma", .str "gamma" 320, .builtin "off-the-table:math.gamma:shared#opaque"⟩, ⟨PyData.keyHash P "gcd", .str "gcd" 321, .builtin "math.gcd"⟩, ⟨PyData.keyHash P "hypot", .str "hypot" 322, .builtin "math.hypot"⟩, ⟨PyData.keyHash P "isclose", .str "isclose" 323, .builtin "math.isclose"⟩, ⟨PyData.keyHash P "isfinite", .str "isfinite" 324, .builtin "math.isfinite"⟩, ⟨PyData.keyHash P "isinf", .str "isinf" 325, .builtin "math.isinf"⟩, ⟨PyData.keyHash P "isnan", .str "isnan" 326, .builtin "math.isnan"⟩, ⟨PyData.keyHash P "isqrt", .str "isqrt" 327, .builtin "math.isqrt"⟩, ⟨PyData.keyHash P "lcm", .str "lcm" 328, .builtin "math.lcm"⟩, ⟨PyData.keyHash P "ldexp", .str "ldexp" 329, .builtin "math.ldexp"⟩, ⟨PyData.keyHash P "lgamma", .str "lgamma" 330, .builtin "off-the-table:math.lgamma:shared#opaque"⟩, ⟨PyData.keyHash P "log", .str "log" 331, .builtin "off-the-table:math.log:shared#opaque"⟩, ⟨PyData.keyHash P "log1p", .str "log1p" 332, .builtin "off-the-table:math.log1p:shared#opaque"⟩, ⟨PyData.keyHash P "log10", .str "log10" 333, .builtin "off-the-table:math.log10:shared#opaque"⟩, ⟨PyData.keyHash P "log2", .str "log2" 334, .builtin "off-the-table:math.log2:shared#opaque"⟩, ⟨PyData.keyHash P "modf", .str "modf" 335, .builtin "math.modf"⟩, ⟨PyData.keyHash P "pow", .str "pow" 336, .builtin "off-the-table:math.pow:shared#opaque"⟩, ⟨PyData.keyHash P "radians", .str "radians" 337, .builtin "math.radians"⟩, ⟨PyData.keyHash P "remainder", .str "remainder" 338, .builtin "math.remainder"⟩, ⟨PyData.keyHash P "sin", .str "sin" 339, .builtin "off-the-table:math.sin:shared#opaque"⟩, ⟨PyData.keyHash P "sinh", .str "sinh" 340, .builtin "off-the-table:math.sinh:shared#opaque"⟩, ⟨PyData.keyHash P "sqrt", .str "sqrt" 341, .builtin "math.sqrt"⟩, ⟨PyData.keyHash P "tan", .str "tan" 342, .builtin "off-the-table:math.tan:shared#opaque"⟩, ⟨PyData.keyHash P "tanh", .str "tanh" 343, .builtin "off-the-table:math.tanh:shared#opaque"⟩, ⟨PyData.keyHash P "sumprod", .str "sumprod" 344, .builtin "math.sumprod"⟩, ⟨PyData.keyHash P "trunc", .str "trunc" 345, .builtin "math.trunc"⟩, ⟨PyData.keyHash P "prod", .str "prod" 346, .builtin "math.prod"⟩, ⟨PyData.keyHash P "perm", .str "perm" 347, .builtin "math.perm"⟩, ⟨PyData.keyHash P "comb", .str "comb" 348, .builtin "math.comb"⟩, ⟨PyData.keyHash P "nextafter", .str "nextafter" 349, .builtin "math.nextafter"⟩, ⟨PyData.keyHash P "ulp", .str "ulp" 350, .builtin "math.ulp"⟩, ⟨PyData.keyHash P "__file__", .str "__file__" 351, .str "/nix/store/wj1f56qky4pmjc7l0r6b6l7whnnw7hp6-python3-3.13.15/lib/python3.13/lib-dynload/math.cpython-313-x86_64-linux-gnu.so" 187⟩, ⟨PyData.keyHash P "pi", .str "pi" 353, .float 4614256656552045848 352⟩, ⟨PyData.keyHash P "e", .str "e" 355, .float 4613303445314885481 354⟩, ⟨PyData.keyHash P "tau", .str "tau" 357, .float 4618760256179416344 356⟩, ⟨PyData.keyHash P "inf", .str "inf" 359, .float 9218868437227405312 358⟩, ⟨PyData.keyHash P "nan", .str "nan" 361, .float 9221120237041090560 360⟩]⟩ 68), ⟨[]⟩⟩
noncomputable def o13_0 : Obj := ⟨.type "module", (some 12), .plain, ⟨[]⟩⟩
noncomputable def o14_0 (P : Params) : Obj := ⟨.type "dict", none, (.dict ⟨[⟨PyData.keyHash P "name", .str "name" 189, .str "math" 188⟩, ⟨PyData.keyHash P "path", .str "path" 190, .str "/nix/store/wj1f56qky4pmjc7l0r6b6l7whnnw7hp6-python3-3.13.15/lib/python3.13/lib-dynload/math.cpython-313-x86_64-linux-gnu.so" 187⟩]⟩ 2), ⟨[]⟩⟩
noncomputable def o15_0 (P : Params) : Obj := ⟨.type "dict", none, (.dict ⟨[⟨PyData.keyHash P "__module__", .str "__module__" 194, .str "_frozen_importlib_external" 192⟩, ⟨PyData.keyHash P "__firstlineno__", .str "__firstlineno__" 195, .int 1001 193⟩, ⟨PyData.keyHash P "__doc__", .str "__doc__" 196, .builtin "_frozen_importlib_external._LoaderBasics.__doc__:str#opaque"⟩, ⟨PyData.keyHash P "is_package", .str "is_package" 197, .builtin "_frozen_importlib_external._LoaderBasics.is_package#opaque"⟩, ⟨PyData.keyHash P "create_module", .str "create_module" 198, .builtin "_frozen_importlib_external._LoaderBasics.create_module#opaque"⟩, ⟨PyData.keyHash P "exec_module", .str "exec_module" 199, .builtin "_frozen_importlib_external._LoaderBasics.exec_module#opaque"⟩, ⟨PyData.keyHash P "load_module", .str "load_module" 200, .builtin "_frozen_importlib_external._LoaderBasics.load_module#opaque"⟩, ⟨PyData.keyHash P "__static_attributes__", .str "__static_attributes__" 201, .ref 17⟩, ⟨PyData.keyHash P "__dict__", .str "__dict__" 203, .ref 18⟩, ⟨PyData.keyHash P "__weakref__", .str "__weakref__" 205, .ref 19⟩]⟩ 10), ⟨[]⟩⟩
noncomputable def o16_0 : Obj := ⟨.type "type", none, (.cls ⟨"_LoaderBasics", [.type "object"], [.ref 16, .type "object"], 15, "_LoaderBasics", true, [], [.ref 27], false, none, false⟩), ⟨[]⟩⟩
noncomputable def o17_0 : Obj := ⟨.type "tuple", none, (.seq ⟨[]⟩ 0), ⟨[]⟩⟩
noncomputable def o18_0 : Obj := ⟨.type "getset_descriptor", none, (.fields ⟨[.str "__dict__" 202, .ref 16, .builtin "function.__dict__", .builtin "function.__dict__#set"]⟩), ⟨[]⟩⟩
noncomputable def o19_0 : Obj := ⟨.type "getset_descriptor", none, (.fields ⟨[.str "__weakref__" 204, .ref 16, .builtin "ExceptionGroup.__weakref__", .none]⟩), ⟨[]⟩⟩
noncomputable def o20_0 : Obj := ⟨.none, none, (.seq ⟨[.int 15 0, .str ⟨⟨[6, 194, 10, 95, 95, 109, 111, 100, 117, 108, 101, 95, 95, 6, 192, 26, 95, 102, 114, 111, 122, 101, 110, 95, 105, 109, 112, 111, 114, 116, 108, 105, 98, 95, 101, 120, 116, 101, 114, 110, 97, 108, 6, 195, 15, 95, 95, 102, 105, 114, 115, 116, 108, 105, 110, 101, 110, 111, 95, 95, 4, 193, 0, 1001, 6, 196, 7, 95, 95, 100, 111, 99, 95, 95, 9, 59, 95, 102, 114, 111, 122, 101, 110, 95, 105, 109, 112, 111, 114, 116, 108, 105, 98, 95, 101, 120, 116, 101, 114, 110, 97, 108, 46, 95, 76, 111, 97, 100, 101, 114, 66, 97, 115, 105, 99, 115, 46, 95, 95, 100, 111, 99, 95, 95, 58, 115, 116, 114, 35, 111, 112, 97, 113, 117, 101, 6, 197, 10, 105, 115, 95, 112, 97, 99, 107, 97, 103, 101, 9, 58, 95, 102, 114, 111, 122, 101, 110, 95, 105, 109, 112, 111, 114, 116, 108, 105, 98, 95, 101, 120, 116, 101, 114, 110, 97, 108, 46, 95, 76, 111, 97, 100, 101, 114, 66, 97, 115, 105, 99, 115, 46, 105, 115, 95, 112, 97, 99, 107, 97, 103, 101, 35, 111, 112, 97, 113, 117, 101, 6, 198, 13, 99, 114, 101, 97, 116, 101, 95, 109, 111, 100, 117, 108, 101, 9, 61, 95, 102, 114, 111, 122, 101, 110, 95, 105, 109, 112, 111, 114, 116, 108, 105, 98, 95, 101, 120, 116, 101, 114, 110, 97, 108, 46, 95, 76, 111, 97, 100, 101, 114, 66, 97, 115, 105, 99, 115, 46, 99, 114, 101, 97, 116, 101, 95, 109, 111, 100, 117, 108, 101, 35, 111, 112, 97, 113, 117, 101, 6, 199, 11, 101, 120, 101, 99, 95, 109, 111, 100, 117, 108, 101, 9, 59, 95, 102, 114, 111, 122, 101, 110, 95, 105, 109, 112, 111, 114, 116, 108, 105, 98, 95, 101, 120, 116, 101, 114, 110, 97, 108, 46, 95, 76, 111, 97, 100, 101, 114, 66, 97, 115, 105, 99, 115, 46, 101, 120, 101, 99, 95, 109, 111, 100, 117, 108, 101, 35, 111, 112, 97, 113, 117, 101, 6, 200, 11, 108, 111, 97, 100, 95, 109, 111, 100, 117, 108, 101, 9, 59, 95, 102, 114, 111, 122, 101, 110, 95, 105, 109, 112, 111, 114, 116, 108, 105, 98, 95, 101, 120, 116, 101, 114, 110, 97, 108, 46, 95, 76, 111, 97, 100, 101, 114, 66, 97, 115, 105, 99, 115, 46, 108, 111, 97, 100, 95, 109, 111, 100, 117, 108, 101, 35, 111, 112, 97, 113, 117, 101, 6, 201, 21, 95, 95, 115, 116, 97, 116, 105, 99, 95, 97, 116, 116, 114, 105, 98, 117, 116, 101, 115, 95, 95, 4, 0, 0, 17, 6, 203, 8, 95, 95, 100, 105, 99, 116, 95, 95, 4, 0, 0, 18, 6, 205, 11, 95, 95, 119, 101, 97, 107, 114, 101, 102, 95, 95, 4, 0, 0, 19]⟩⟩ 0, .bool true, .bool true, .str "" 206, .int 21 0, .str ⟨⟨[6, 213, 10, 95, 95, 109, 111, 100, 117, 108, 101, 95, 95, 6, 209, 26, 95, 102, 114, 111, 122, 101, 110, 95, 105, 109, 112, 111, 114, 116, 108, 105, 98, 95, 101, 120, 116, 101, 114, 110, 97, 108, 6, 214, 15, 95, 95, 102, 105, 114, 115, 116, 108, 105, 110, 101, 110, 111, 95, 95, 4, 210, 0, 1176, 6, 215, 7, 95, 95, 100, 111, 99, 95, 95, 9, 56, 95, 102, 114, 111, 122, 101, 110, 95, 105, 109, 112, 111, 114, 116, 108, 105, 98, 95, 101, 120, 116, 101, 114, 110, 97, 108, 46, 70, 105, 108, 101, 76, 111, 97, 100, 101, 114, 46, 95, 95, 100, 111, 99, 95, 95, 58, 115, 116, 114, 35, 111, 112, 97, 113, 117, 101, 6, 216, 8, 95, 95, 105, 110, 105, 116, 95, 95, 9, 53, 95, 102, 114, 111, 122, 101, 110, 95, 105, 109, 112, 111, 114, 116, 108, 105, 98, 95, 101, 120, 116, 101, 114, 110, 97, 108, 46, 70, 105, 108, 101, 76, 111, 97, 100, 101, 114, 46, 95, 95, 105, 110, 105, 116, 95, 95, 35, 111, 112, 97, 113, 117, 101, 6, 217, 6, 95, 95, 101, 113, 95, 95, 9, 51, 95, 102, 114, 111, 122, 101, 110, 95, 105, 109, 112, 111, 114, 116, 108, 105, 98, 95, 101, 120, 116, 101, 114, 110, 97, 108, 46, 70, 105, 108, 101, 76, 111, 97, 100, 101, 114, 46, 95, 95, 101, 113, 95, 95, 35, 111, 112, 97, 113, 117, 101, 6, 218, 8, 95, 95, 104, 97, 115, 104, 95, 95, 9, 53, 95, 102, 114, 111, 122, 101, 110, 95, 105, 109, 112, 111, 114, 116, 108, 105, 98, 95, 101, 120, 116, 101, 114, 110, 97, 108, 46, 70, 105, 108, 101, 76, 111, 97, 100, 101, 114, 46, 95, 95, 104, 97, 115, 104, 95, 95, 35, 111, 112, 97, 113, 117, 101, 6, 219, 11, 108, 111, 97, 100, 95, 109, 111, 100, 117, 108, 101, 9, 56, 95, 102, 114, 111, 122, 101, 110, 95, 105, 109, 112, 111, 114, 116, 108, 105, 98, 95, 101, 120, 116, 101, 114, 110, 97, 108, 46, 70, 105, 108, 101, 76, 111, 97, 100, 101, 114, 46, 108, 111, 97, 100, 95, 109, 111, 100, 117, 108, 101, 35, 111, 112, 97, 113, 117, 101, 6, 220, 12, 103, 101, 116, 95, 102, 105, 108, 101, 110, 97, 109, 101, 9, 57, 95, 102, 114, 111, 122, 101, 110, 95, 105, 109, 112, 111, 114, 116, 108, 105, 98, 95, 101, 120, 116, 101, 114, 110, 97, 108, 46, 70, 105, 108, 101, 76, 111, 97, 100, 101, 114, 46, 103, 101, 116, 95, 102, 105, 108, 101, 110, 97, 109, 101, 35, 111, 112, 97, 113, 117, 101, 6, 221, 8, 103, 101, 116, 95, 100, 97, 116, 97, 9, 53, 95, 102, 114, 111, 122, 101, 110, 95, 105, 109, 112, 111, 114, 116, 108, 105, 98, 95, 101, 120, 116, 101, 114, 110, 97, 108, 46, 70, 105, 108, 101, 76, 111, 97, 100, 101, 114, 46, 103, 101, 116, 95, 100, 97, 116, 97, 35, 111, 112, 97, 113, 117, 101, 6, 222, 19, 103, 101, 116, 95, 114, 101, 115, 111, 117, 114, 99, 101, 95, 114, 101, 97, 100, 101, 114, 9, 64, 95, 102, 114, 111, 122, 101, 110, 95, 105, 109, 112, 111, 114, 116, 108, 105, 98, 95, 101, 120, 116, 101, 114, 110, 97, 108, 46, 70, 105, 108, 101, 76, 111, 97, 100, 101, 114, 46, 103, 101, 116, 95, 114, 101, 115, 111, 117, 114, 99, 101, 95, 114, 101, 97, 100, 101, 114, 35, 111, 112, 97, 113, 117, 101, 6, 223, 21, 95, 95, 115, 116, 97, 116, 105, 99, 95, 97, 116, 116, 114, 105, 98, 117, 116, 101, 115, 95, 95, 4, 0, 0, 23, 6, 225, 8, 95, 95, 100, 105, 99, 116, 95, 95, 4, 0, 0, 24, 6, 227, 11, 95, 95, 119, 101, 97, 107, 114, 101, 102, 95, 95, 4, 0, 0, 25]⟩⟩ 0, .bool true, .bool true, .str "" 228, .int 26 0, .str ⟨⟨[6, 234, 10, 95, 95, 109, 111, 100, 117, 108, 101, 95, 95, 6, 230, 26, 95, 102, 114, 111, 122, 101, 110, 95, 105, 109, 112, 111, 114, 116, 108, 105, 98, 95, 101, 120, 116, 101, 114, 110, 97, 108, 6, 235, 15, 95, 95, 102, 105, 114, 115, 116, 108, 105, 110, 101, 110, 111, 95, 95, 4, 231, 0, 1296, 6, 236, 7, 95, 95, 100, 111, 99, 95, 95, 9, 65, 95, 102, 114, 111, 122, 101, 110, 95, 105, 109, 112, 111, 114, 116, 108, 105, 98, 95, 101, 120, 116, 101, 114, 110, 97, 108, 46, 69, 120, 116, 101, 110, 115, 105, 111, 110, 70, 105, 108, 101, 76, 111, 97, 100, 101, 114, 46, 95, 95, 100, 111, 99, 95, 95, 58, 115, 116, 114, 35, 111, 112, 97, 113, 117, 101, 6, 237, 8, 95, 95, 105, 110, 105, 116, 95, 95, 9, 62, 95, 102, 114, 111, 122, 101, 110, 95, 105, 109, 112, 111, 114, 116, 108, 105, 98, 95, 101, 120, 116, 101, 114, 110, 97, 108, 46, 69, 120, 116, 101, 110, 115, 105, 111, 110, 70, 105, 108, 101, 76, 111, 97, 100, 101, 114, 46, 95, 95, 105, 110, 105, 116, 95, 95, 35, 111, 112, 97, 113, 117, 101, 6, 238, 6, 95, 95, 101, 113, 95, 95, 9, 60, 95, 102, 114, 111, 122, 101, 110, 95, 105, 109, 112, 111, 114, 116, 108, 105, 98, 95, 101, 120, 116, 101, 114, 110, 97, 108, 46, 69, 120, 116, 101, 110, 115, 105, 111, 110, 70, 105, 108, 101, 76, 111, 97, 100, 101, 114, 46, 95, 95, 101, 113, 95, 95, 35, 111, 112, 97, 113, 117, 101, 6, 239, 8, 95, 95, 104, 97, 115, 104, 95, 95, 9, 62, 95, 102, 114, 111, 122, 101, 110, 95, 105, 109, 112, 111, 114, 116, 108, 105, 98, 95, 101, 120, 116, 101, 114, 110, 97, 108, 46, 69, 120, 116, 101, 110, 115, 105, 111, 110, 70, 105, 108, 101, 76, 111, 97, 100, 101, 114, 46, 95, 95, 104, 97, 115, 104, 95, 95, 35, 111, 112, 97, 113, 117, 101, 6, 240, 13, 99, 114, 101, 97, 116, 101, 95, 109, 111, 100, 117, 108, 101, 9, 67, 95, 102, 114, 111, 122, 101, 110, 95, 105, 109, 112, 111, 114, 116, 108, 105, 98, 95, 101, 120, 116, 101, 114, 110, 97, 108, 46, 69, 120, 116, 101, 110, 115, 105, 111, 110, 70, 105, 108, 101, 76, 111, 97, 100, 101, 114, 46, 99, 114, 101, 97, 116, 101, 95, 109, 111, 100, 117, 108, 101, 35, 111, 112, 97, 113, 117, 101, 6, 241, 11, 101, 120, 101, 99, 95, 109, 111, 100, 117, 108, 101, 9, 65, 95, 102, 114, 111, 122, 101, 110, 95, 105, 109, 112, 111, 114, 116, 108, 105, 98, 95, 101, 120, 116, 101, 114, 110, 97, 108, 46, 69, 120, 116, 101, 110, 115, 105, 111, 110, 70, 105, 108, 101, 76, 111, 97, 100, 101, 114, 46, 101, 120, 101, 99, 95, 109, 111, 100, 117, 108, 101, 35, 111, 112, 97, 113, 117, 101, 6, 242, 10, 105, 115, 95, 112, 97, 99, 107, 97, 103, 101, 9, 64, 95, 102, 114, 111, 122, 101, 110, 95, 105, 109, 112, 111, 114, 116, 108, 105, 98, 95, 101, 120, 116, 101, 114, 110, 97, 108, 46, 69, 120, 116, 101, 110, 115, 105, 111, 110, 70, 105, 108, 101, 76, 111, 97, 100, 101, 114, 46, 105, 115, 95, 112, 97, 99, 107, 97, 103, 101, 35, 111, 112, 97, 113, 117, 101, 6, 243, 8, 103, 101, 116, 95, 99, 111, 100, 101, 9, 62, 95, 102, 114, 111, 122, 101, 110, 95, 105, 109, 112, 111, 114, 116, 108, 105, 98, 95, 101, 120, 116, 101, 114, 110, 97, 108, 46, 69, 120, 116, 101, 110, 115, 105, 111, 110, 70, 105, 108, 101, 76, 111, 97, 100, 101, 114, 46, 103, 101, 116, 95, 99, 111, 100, 101, 35, 111, 112, 97, 113, 117, 101, 6, 244, 10, 103, 101, 116, 95, 115, 111, 117, 114, 99, 101, 9, 64, 95, 102, 114, 111, 122, 101, 110, 95, 105, 109, 112, 111, 114, 116, 108, 105, 98, 95, 101, 120, 116, 101, 114, 110, 97, 108, 46, 69, 120, 116, 101, 110, 115, 105, 111, 110, 70, 105, 108, 101, 76, 111, 97, 100, 101, 114, 46, 103, 101, 116, 95, 115, 111, 117, 114, 99, 101, 35, 111, 112, 97, 113, 117, 101, 6, 245, 12, 103, 101, 116, 95, 102, 105, 108, 101, 110, 97, 109, 101, 9, 66, 95, 102, 114, 111, 122, 101, 110, 95, 105, 109, 112, 111, 114, 116, 108, 105, 98, 95, 101, 120, 116, 101, 114, 110, 97, 108, 46, 69, 120, 116, 101, 110, 115, 105, 111, 110, 70, 105, 108, 101, 76, 111, 97, 100, 101, 114, 46, 103, 101, 116, 95, 102, 105, 108, 101, 110, 97, 109, 101, 35, 111, 112, 97, 113, 117, 101, 6, 246, 21, 95, 95, 115, 116, 97, 116, 105, 99, 95, 97, 116, 116, 114, 105, 98, 117, 116, 101, 115, 95, 95, 4, 0, 0, 28]⟩⟩ 0, .bool true, .bool true, .str "" 247, .int 32 0, .str ⟨⟨[6, 268, 10, 95, 95, 109, 111, 100, 117, 108, 101, 95, 95, 6, 258, 17, 95, 102, 114, 111, 122, 101, 110, 95, 105, 109, 112, 111, 114, 116, 108, 105, 98, 6, 269, 15, 95, 95, 102, 105, 114, 115, 116, 108, 105, 110, 101, 110, 111, 95, 95, 4, 259, 0, 562, 6, 270, 7, 95, 95, 100, 111, 99, 95, 95, 9, 47, 95, 102, 114, 111, 122, 101, 110, 95, 105, 109, 112, 111, 114, 116, 108, 105, 98, 46, 77, 111, 100, 117, 108, 101, 83, 112, 101, 99, 46, 95, 95, 100, 111, 99, 95, 95, 58, 115, 116, 114, 35, 111, 112, 97, 113, 117, 101, 6, 271, 8, 95, 95, 105, 110, 105, 116, 95, 95, 9, 44, 95, 102, 114, 111, 122, 101, 110, 95, 105, 109, 112, 111, 114, 116, 108, 105, 98, 46, 77, 111, 100, 117, 108, 101, 83, 112, 101, 99, 46, 95, 95, 105, 110, 105, 116, 95, 95, 35, 111, 112, 97, 113, 117, 101, 6, 272, 8, 95, 95, 114, 101, 112, 114, 95, 95, 9, 44, 95, 102, 114, 111, 122, 101, 110, 95, 105, 109, 112, 111, 114, 116, 108, 105, 98, 46, 77, 111, 100, 117, 108, 101, 83, 112, 101, 99, 46, 95, 95, 114, 101, 112, 114, 95, 95, 35, 111, 112, 97, 113, 117, 101, 6, 273, 6, 95, 95, 101, 113, 95, 95, 9, 42, 95, 102, 114, 111, 122, 101, 110, 95, 105, 109, 112, 111, 114, 116, 108, 105, 98, 46, 77, 111, 100, 117, 108, 101, 83, 112, 101, 99, 46, 95, 95, 101, 113, 95, 95, 35, 111, 112, 97, 113, 117, 101, 6, 274, 6, 99, 97, 99, 104, 101, 100, 9, 42, 95, 102, 114, 111, 122, 101, 110, 95, 105, 109, 112, 111, 114, 116, 108, 105, 98, 46, 77, 111, 100, 117, 108, 101, 83, 112, 101, 99, 46, 99, 97, 99, 104, 101, 100, 35, 111, 112, 97, 113, 117, 101, 6, 275, 6, 112, 97, 114, 101, 110, 116, 9, 42, 95, 102, 114, 111, 122, 101, 110, 95, 105, 109, 112, 111, 114, 116, 108, 105, 98, 46, 77, 111, 100, 117, 108, 101, 83, 112, 101, 99, 46, 112, 97, 114, 101, 110, 116, 35, 111, 112, 97, 113, 117, 101, 6, 276, 12, 104, 97, 115, 95, 108, 111, 99, 97, 116, 105, 111, 110, 9, 48, 95, 102, 114, 111, 122, 101, 110, 95, 105, 109, 112, 111, 114, 116, 108, 105, 98, 46, 77, 111, 100, 117, 108, 101, 83, 112, 101, 99, 46, 104, 97, 115, 95, 108, 111, 99, 97, 116, 105, 111, 110, 35, 111, 112, 97, 113, 117, 101, 6, 277, 21, 95, 95, 115, 116, 97, 116, 105, 99, 95, 97, 116, 116, 114, 105, 98, 117, 116, 101, 115, 95, 95, 4, 0, 0, 34, 6, 279, 8, 95, 95, 100, 105, 99, 116, 95, 95, 4, 0, 0, 35, 6, 281, 11, 95, 95, 119, 101, 97, 107, 114, 101, 102, 95, 95, 4, 0, 0, 36, 6, 282, 8, 95, 95, 104, 97, 115, 104, 95, 95, 0]⟩⟩ 0, .bool true, .bool true, .str "" 283]⟩ 3), ⟨[]⟩⟩
noncomputable def o21_0 (P : Params) : Obj := ⟨.type "dict", none, (.dict ⟨[⟨PyData.keyHash P "__module__", .str "__module__" 213, .str "_frozen_importlib_external" 209⟩, ⟨PyData.keyHash P "__firstlineno__", .str "__firstlineno__" 214, .int 1176 210⟩, ⟨PyData.keyHash P "__doc__", .str "__doc__" 215, .builtin "_frozen_importlib_external.FileLoader.__doc__:str#opaque"⟩, ⟨PyData.keyHash P "__init__", .str "__init__" 216, .builtin "_frozen_importlib_external.FileLoader.__init__#opaque"⟩, ⟨PyData.keyHash P "__eq__", .str "__eq__" 217, .builtin "_frozen_importlib_external.FileLoader.__eq__#opaque"⟩, ⟨PyData.keyHash P "__hash__", .str "__hash__" 218, .builtin "_frozen_importlib_external.FileLoader.__hash__#opaque"⟩, ⟨PyData.keyHash P "load_module", .str "load_module" 219, .builtin "_frozen_importlib_external.FileLoader.load_module#opaque"⟩, ⟨PyData.keyHash P "get_filename", .str "get_filename" 220, .builtin "_frozen_importlib_external.FileLoader.get_filename#opaque"⟩, ⟨PyData.keyHash P "get_data", .str "get_data" 221, .builtin "_frozen_importlib_external.FileLoader.get_data#opaque"⟩, ⟨PyData.keyHash P "get_resource_reader", .str "get_resource_reader" 222, .builtin "_frozen_importlib_external.FileLoader.get_resource_reader#opaque"⟩, ⟨PyData.keyHash P "__static_attributes__", .str "__static_attributes__" 223, .ref 23⟩, ⟨PyData.keyHash P "__dict__", .str "__dict__" 225, .ref 24⟩, ⟨PyData.keyHash P "__weakref__", .str "__weakref__" 227, .ref 25⟩]⟩ 13), ⟨[]⟩⟩
noncomputable def o22_0 : Obj := ⟨.type "type", none, (.cls ⟨"FileLoader", [.type "object"], [.ref 22, .type "object"], 21, "FileLoader", true, [], [.ref 27], false, none, false⟩), ⟨[]⟩⟩
noncomputable def o23_0 : Obj := ⟨.type "tuple", none, (.seq ⟨[.str "name" 211, .str "path" 212]⟩ 0), ⟨[]⟩⟩
noncomputable def o24_0 : Obj := ⟨.type "getset_descriptor", none, (.fields ⟨[.str "__dict__" 224, .ref 22, .builtin "function.__dict__", .builtin "function.__dict__#set"]⟩), ⟨[]⟩⟩
noncomputable def o25_0 : Obj := ⟨.type "getset_descriptor", none, (.fields ⟨[.str "__weakref__" 226, .ref 22, .builtin "ExceptionGroup.__weakref__", .none]⟩), ⟨[]⟩⟩
noncomputable def o26_0 (P : Params) : Obj := ⟨.type "dict", none, (.dict ⟨[⟨PyData.keyHash P "__module__", .str "__module__" 234, .str "_frozen_importlib_external" 230⟩, ⟨PyData.keyHash P "__firstlineno__", .str "__firstlineno__" 235, .int 1296 231⟩, ⟨PyData.keyHash P "__doc__", .str "__doc__" 236, .builtin "_frozen_importlib_external.ExtensionFileLoader.__doc__:str#opaque"⟩, ⟨PyData.keyHash P "__init__", .str "__init__" 237, .builtin "_frozen_importlib_external.ExtensionFileLoader.__init__#opaque"⟩, ⟨PyData.keyHash P "__eq__", .str "__eq__" 238, .builtin "_frozen_importlib_external.ExtensionFileLoader.__eq__#opaque"⟩, ⟨PyData.keyHash P "__hash__", .str "__hash__" 239, .builtin "_frozen_importlib_external.ExtensionFileLoader.__hash__#opaque"⟩, ⟨PyData.keyHash P "create_module", .str "create_module" 240, .builtin "_frozen_importlib_external.ExtensionFileLoader.create_module#opaque"⟩, ⟨PyData.keyHash P "exec_module", .str "exec_module" 241, .builtin "_frozen_importlib_external.ExtensionFileLoader.exec_module#opaque"⟩, ⟨PyData.keyHash P "is_package", .str "is_package" 242, .builtin "_frozen_importlib_external.ExtensionFileLoader.is_package#opaque"⟩, ⟨PyData.keyHash P "get_code", .str "get_code" 243, .builtin "_frozen_importlib_external.ExtensionFileLoader.get_code#opaque"⟩, ⟨PyData.keyHash P "get_source", .str "get_source" 244, .builtin "_frozen_importlib_external.ExtensionFileLoader.get_source#opaque"⟩, ⟨PyData.keyHash P "get_filename", .str "get_filename" 245, .builtin "_frozen_importlib_external.ExtensionFileLoader.get_filename#opaque"⟩, ⟨PyData.keyHash P "__static_attributes__", .str "__static_attributes__" 246, .ref 28⟩]⟩ 13), ⟨[]⟩⟩
noncomputable def o27_0 : Obj := ⟨.type "type", none, (.cls ⟨"ExtensionFileLoader", [.ref 22, .ref 16], [.ref 27, .ref 22, .ref 16, .type "object"], 26, "ExtensionFileLoader", true, [], [], false, none, false⟩), ⟨[]⟩⟩
noncomputable def o28_0 : Obj := ⟨.type "tuple", none, (.seq ⟨[.str "name" 232, .str "path" 233]⟩ 0), ⟨[]⟩⟩
noncomputable def o29_0 : Obj := ⟨.ref 27, (some 14), .plain, ⟨[]⟩⟩
noncomputable def o30_0 : Obj := ⟨.type "list", none, (.seq ⟨[]⟩ 0), ⟨[]⟩⟩
noncomputable def o31_0 (P : Params) : Obj := ⟨.type "dict", none, (.dict ⟨[⟨PyData.keyHash P "name", .str "name" 249, .str "math" 248⟩, ⟨PyData.keyHash P "loader", .str "loader" 250, .ref 29⟩, ⟨PyData.keyHash P "origin", .str "origin" 251, .str "/nix/store/wj1f56qky4pmjc7l0r6b6l7whnnw7hp6-python3-3.13.15/lib/python3.13/lib-dynload/math.cpython-313-x86_64-linux-gnu.so" 187⟩, ⟨PyData.keyHash P "loader_state", .str "loader_state" 252, .none⟩, ⟨PyData.keyHash P "submodule_search_locations", .str "submodule_search_locations" 253, .none⟩, ⟨PyData.keyHash P "_uninitialized_submodules", .str "_uninitialized_submodules" 254, .ref 30⟩, ⟨PyData.keyHash P "_set_fileattr", .str "_set_fileattr" 255, .bool true⟩, ⟨PyData.keyHash P "_cached", .str "_cached" 256, .none⟩, ⟨PyData.keyHash P "_initializing", .str "_initializing" 284, .bool false⟩]⟩ 9), ⟨[]⟩⟩
noncomputable def o32_0 (P : Params) : Obj := ⟨.type "dict", none, (.dict ⟨[⟨PyData.keyHash P "__module__", .str "__module__" 268, .str "_frozen_importlib" 258⟩, ⟨PyData.keyHash P "__firstlineno__", .str "__firstlineno__" 269, .int 562 259⟩, ⟨PyData.keyHash P "__doc__", .str "__doc__" 270, .builtin "_frozen_importlib.ModuleSpec.__doc__:str#opaque"⟩, ⟨PyData.keyHash P "__init__", .str "__init__" 271, .builtin "_frozen_importlib.ModuleSpec.__init__#opaque"⟩, ⟨PyData.keyHash P "__repr__", .str "__repr__" 272, .builtin "_frozen_importlib.ModuleSpec.__repr__#opaque"⟩, ⟨PyData.keyHash P "__eq__", .str "__eq__" 273, .builtin "_frozen_importlib.ModuleSpec.__eq__#opaque"⟩, ⟨PyData.keyHash P "cached", .str "cached" 274, .builtin "_frozen_importlib.ModuleSpec.cached#opaque"⟩, ⟨PyData.keyHash P "parent", .str "parent" 275, .builtin "_frozen_importlib.ModuleSpec.parent#opaque"⟩, ⟨PyData.keyHash P "has_location", .str "has_location" 276, .builtin "_frozen_importlib.ModuleSpec.has_location#opaque"⟩, ⟨PyData.keyHash P "__static_attributes__", .str "__static_attributes__" 277, .ref 34⟩, ⟨PyData.keyHash P "__dict__", .str "__dict__" 279, .ref 35⟩, ⟨PyData.keyHash P "__weakref__", .str "__weakref__" 281, .ref 36⟩, ⟨PyData.keyHash P "__hash__", .str "__hash__" 282, .none⟩]⟩ 13), ⟨[]⟩⟩
noncomputable def o33_0 : Obj := ⟨.type "type", none, (.cls ⟨"ModuleSpec", [.type "object"], [.ref 33, .type "object"], 32, "ModuleSpec", true, [], [], false, none, false⟩), ⟨[]⟩⟩
noncomputable def o34_0 : Obj := ⟨.type "tuple", none, (.seq ⟨[.str "_cached" 260, .str "_set_fileattr" 261, .str "_uninitialized_submodules" 262, .str "loader" 263, .str "loader_state" 264, .str "name" 265, .str "origin" 266, .str "submodule_search_locations" 267]⟩ 0), ⟨[]⟩⟩
noncomputable def o35_0 : Obj := ⟨.type "getset_descriptor", none, (.fields ⟨[.str "__dict__" 278, .ref 33, .builtin "function.__dict__", .builtin "function.__dict__#set"]⟩), ⟨[]⟩⟩
noncomputable def o36_0 : Obj := ⟨.type "getset_descriptor", none, (.fields ⟨[.str "__weakref__" 280, .ref 33, .builtin "ExceptionGroup.__weakref__", .none]⟩), ⟨[]⟩⟩
noncomputable def o37_0 : Obj := ⟨.ref 33, (some 31), .plain, ⟨[]⟩⟩
noncomputable def o38_0 : Obj := ⟨.none, none, (.seq ⟨[.int 12 0, .str ⟨⟨[6, 288, 8, 95, 95, 110, 97, 109, 101, 95, 95, 6, 287, 4, 109, 97, 116, 104, 6, 289, 7, 95, 95, 100, 111, 99, 95, 95, 9, 23, 109, 97, 116, 104, 46, 95, 95, 100, 111, 99, 95, 95, 58, 115, 116, 114, 35, 111, 112, 97, 113, 117, 101, 6, 291, 11, 95, 95, 112, 97, 99, 107, 97, 103, 101, 95, 95, 6, 290, 0, 6, 292, 10, 95, 95, 108, 111, 97, 100, 101, 114, 95, 95, 4, 0, 0, 29, 6, 293, 8, 95, 95, 115, 112, 101, 99, 95, 95, 4, 0, 0, 37, 6, 294, 4, 97, 99, 111, 115, 9, 9, 109, 97, 116, 104, 46, 97, 99, 111, 115, 6, 295, 5, 97, 99, 111, 115, 104, 9, 10, 109, 97, 116, 104, 46, 97, 99, 111, 115, 104, 6, 296, 4, 97, 115, 105, 110, 9, 9, 109, 97, 116, 104, 46, 97, 115, 105, 110, 6, 297, 5, 97, 115, 105, 110, 104, 9, 10, 109, 97, 116, 104, 46, 97, 115, 105, 110, 104, 6, 298, 4, 97, 116, 97, 110, 9, 9, 109, 97, 116, 104, 46, 97, 116, 97, 110, 6, 299, 5, 97, 116, 97, 110, 50, 9, 10, 109, 97, 116, 104, 46, 97, 116, 97, 110, 50, 6, 300, 5, 97, 116, 97, 110, 104, 9, 10, 109, 97, 116, 104, 46, 97, 116, 97, 110, 104, 6, 301, 4, 99, 98, 114, 116, 9, 9, 109, 97, 116, 104, 46, 99, 98, 114, 116, 6, 302, 4, 99, 101, 105, 108, 9, 9, 109, 97, 116, 104, 46, 99, 101, 105, 108, 6, 303, 8, 99, 111, 112, 121, 115, 105, 103, 110, 9, 13, 109, 97, 116, 104, 46, 99, 111, 112, 121, 115, 105, 103, 110, 6, 304, 3, 99, 111, 115, 9, 8, 109, 97, 116, 104, 46, 99, 111, 115, 6, 305, 4, 99, 111, 115, 104, 9, 9, 109, 97, 116, 104, 46, 99, 111, 115, 104, 6, 306, 7, 100, 101, 103, 114, 101, 101, 115, 9, 12, 109, 97, 116, 104, 46, 100, 101, 103, 114, 101, 101, 115, 6, 307, 4, 100, 105, 115, 116, 9, 9, 109, 97, 116, 104, 46, 100, 105, 115, 116, 6, 308, 3, 101, 114, 102, 9, 8, 109, 97, 116, 104, 46, 101, 114, 102, 6, 309, 4, 101, 114, 102, 99, 9, 9, 109, 97, 116, 104, 46, 101, 114, 102, 99, 6, 310, 3, 101, 120, 112, 9, 8, 109, 97, 116, 104, 46, 101, 120, 112, 6, 311, 4, 101, 120, 112, 50, 9, 9, 109, 97, 116, 104, 46, 101, 120, 112, 50, 6, 312, 5, 101, 120, 112, 109, 49, 9, 10, 109, 97, 116, 104, 46, 101, 120, 112, 109, 49, 6, 313, 4, 102, 97, 98, 115, 9, 9, 109, 97, 116, 104, 46, 102, 97, 98, 115, 6, 314, 9, 102, 97, 99, 116, 111, 114, 105, 97, 108, 9, 14, 109, 97, 116, 104, 46, 102, 97, 99, 116, 111, 114, 105, 97, 108, 6, 315, 5, 102, 108, 111, 111, 114, 9, 10, 109, 97, 116, 104, 46, 102, 108, 111, 111, 114, 6, 316, 3, 102, 109, 97, 9, 8, 109, 97, 116, 104, 46, 102, 109, 97, 6, 317, 4, 102, 109, 111, 100, 9, 9, 109, 97, 116, 104, 46, 102, 109, 111, 100, 6, 318, 5, 102, 114, 101, 120, 112, 9, 10, 109, 97, 116, 104, 46, 102, 114, 101, 120, 112, 6, 319, 4, 102, 115, 117, 109, 9, 9, 109, 97, 116, 104, 46, 102, 115, 117, 109, 6, 320, 5, 103, 97, 109, 109, 97, 9, 10, 109, 97, 116, 104, 46, 103, 97, 109, 109, 97, 6, 321, 3, 103, 99, 100, 9, 8, 109, 97, 116, 104, 46, 103, 99, 100, 6, 322, 5, 104, 121, 112, 111, 116, 9, 10, 109, 97, 116, 104, 46, 104, 121, 112, 111, 116, 6, 323, 7, 105, 115, 99, 108, 111, 115, 101, 9, 12, 109, 97, 116, 104, 46, 105, 115, 99, 108, 111, 115, 101, 6, 324, 8, 105, 115, 102, 105, 110, 105, 116, 101, 9, 13, 109, 97, 116, 104, 46, 105, 115, 102, 105, 110, 105, 116, 101, 6, 325, 5, 105, 115, 105, 110, 102, 9, 10, 109, 97, 116, 104, 46, 105, 115, 105, 110, 102, 6, 326, 5, 105, 115, 110, 97, 110, 9, 10, 109, 97, 116, 104, 46, 105, 115, 110, 97, 110, 6, 327, 5, 105, 115, 113, 114, 116, 9, 10, 109, 97, 116, 104, 46, 105, 115, 113, 114, 116, 6, 328, 3, 108, 99, 109, 9, 8, 109, 97, 116, 104, 46, 108, 99, 109, 6, 329, 5, 108, 100, 101, 120, 112, 9, 10, 109, 97, 116, 104, 46, 108, 100, 101, 120, 112, 6, 330, 6, 108, 103, 97, 109, 109, 97, 9, 11, 109, 97, 116, 104, 46, 108, 103, 97, 109, 109, 97, 6, 331, 3, 108, 111, 103, 9, 8, 109, 97, 116, 104, 46, 108, 111, 103, 6, 332, 5, 108, 111, 103, 49, 112, 9, 10, 109, 97, 116, 104, 46, 108, 111, 103, 49, 112, 6, 333, 5, 108, 111, 103, 49, 48, 9, 10, 109, 97, 116, 104, 46, 108, 111, 103, 49, 48, 6, 334, 4, 108, 111, 103, 50, 9, 9, 109, 97, 116, 104, 46, 108, 111, 103, 50, 6, 335, 4, 109, 111, 100, 102, 9, 9, 109, 97, 116, 104, 46, 109, 111, 100, 102, 6, 336, 3, 112, 111, 119, 9, 8, 109, 97, 116, 104, 46, 112, 111, 119, 6, 337, 7, 114, 97, 100, 105, 97, 110, 115, 9, 12, 109, 97, 116, 104, 46, 114, 97, 100, 105, 97, 110, 115, 6, 338, 9, 114, 101, 109, 97, 105, 110, 100, 101, 114, 9, 14, 109, 97, 116, 104, 46, 114, 101, 109, 97, 105, 110, 100, 101, 114, 6, 339, 3, 115, 105, 110, 9, 8, 109, 97, 116, 104, 46, 115, 105, 110, 6, 340, 4, 115, 105, 110, 104, 9, 9, 109, 97, 116, 104, 46, 115, 105, 110, 104, 6, 341, 4, 115, 113, 114, 116, 9, 9, 109, 97, 116, 104, 46, 115, 113, 114, 116, 6, 342, 3, 116, 97, 110, 9, 8, 109, 97, 116, 104, 46, 116, 97, 110, 6, 343, 4, 116, 97, 110, 104, 9, 9, 109, 97, 116, 104, 46, 116, 97, 110, 104, 6, 344, 7, 115, 117, 109, 112, 114, 111, 100, 9, 12, 109, 97, 116, 104, 46, 115, 117, 109, 112, 114, 111, 100, 6, 345, 5, 116, 114, 117, 110, 99, 9, 10, 109, 97, 116, 104, 46, 116, 114, 117, 110, 99, 6, 346, 4, 112, 114, 111, 100, 9, 9, 109, 97, 116, 104, 46, 112, 114, 111, 100, 6, 347, 4, 112, 101, 114, 109, 9, 9, 109, 97, 116, 104, 46, 112, 101, 114, 109, 6, 348, 4, 99, 111, 109, 98, 9, 9, 109, 97, 116, 104, 46, 99, 111, 109, 98, 6, 349, 9, 110, 101, 120, 116, 97, 102, 116, 101, 114, 9, 14, 109, 97, 116, 104, 46, 110, 101, 120, 116, 97, 102, 116, 101, 114, 6, 350, 3, 117, 108, 112, 9, 8, 109, 97, 116, 104, 46, 117, 108, 112, 6, 351, 8, 95, 95, 102, 105, 108, 101, 95, 95, 6, 187, 123, 47, 110, 105, 120, 47, 115, 116, 111, 114, 101, 47, 119, 106, 49, 102, 53, 54, 113, 107, 121, 52, 112, 109, 106, 99, 55, 108, 48, 114, 54, 98, 54, 108, 55, 119, 104, 110, 110, 119, 55, 104, 112, 54, 45, 112, 121, 116, 104, 111, 110, 51, 45, 51, 46, 49, 51, 46, 49, 53, 47, 108, 105, 98, 47, 112, 121, 116, 104, 111, 110, 51, 46, 49, 51, 47, 108, 105, 98, 45, 100, 121, 110, 108, 111, 97, 100, 47, 109, 97, 116, 104, 46, 99, 112, 121, 116, 104, 111, 110, 45, 51, 49, 51, 45, 120, 56, 54, 95, 54, 52, 45, 108, 105, 110, 117, 120, 45, 103, 110, 117, 46, 115, 111, 6, 353, 2, 112, 105, 5, 352, 4614256656552045848, 6, 355, 1, 101, 5, 354, 4613303445314885481, 6, 357, 3, 116, 97, 117, 5, 356, 4618760256179416344, 6, 359, 3, 105, 110, 102, 5, 358, 9218868437227405312, 6, 361, 3, 110, 97, 110, 5, 360, 9221120237041090560]⟩⟩ 0, .bool true, .bool false, .str "math" 363]⟩ 0), ⟨[]⟩⟩
noncomputable def t0 (P : Params) : BT := (.node (o0_0 P) (.node (o1_0 P) (.node (o3_0 P) (.node o7_0 (.node (o15_0 P) (.node (o31_0 P) .nil .nil) .nil) (.node o23_0 .nil .nil)) (.node o11_0 (.node o19_0 (.node o35_0 .nil .nil) .nil) (.node o27_0 .nil .nil))) (.node o5_0 (.node o9_0 (.node o17_0 (.node o33_0 .nil .nil) .nil) (.node o25_0 .nil .nil)) (.node o13_0 (.node (o21_0 P) (.node o37_0 .nil .nil) .nil) (.node o29_0 .nil .nil)))) (.node (o2_0 P) (.node o4_0 (.node o8_0 (.node o16_0 (.node (o32_0 P) .nil .nil) .nil) (.node o24_0 .nil .nil)) (.node (o12_0 P) (.node o20_0 (.node o36_0 .nil .nil) .nil) (.node o28_0 .nil .nil))) (.node o6_0 (.node o10_0 (.node o18_0 (.node o34_0 .nil .nil) .nil) (.node (o26_0 P) .nil .nil)) (.node (o14_0 P) (.node o22_0 (.node o38_0 .nil .nil) .nil) (.node o30_0 .nil .nil)))))
noncomputable def o39_1 : Obj := ⟨.type "tuple", none, (.seq ⟨[]⟩ 0), ⟨[]⟩⟩
noncomputable def o40_1 : Obj := ⟨.none, none, (.fields ⟨[]⟩), ⟨[]⟩⟩
noncomputable def o41_1 : Obj := ⟨.type "code", none, (.fields ⟨[.str "<module>" 375, .str "<module>" 376, .str "/claim/cut.py" 377, .int 1 0, .int 0 0, .int 0 0, .int 0 0, .int 0 0, .ref 39, .bool false, .int 374 0, .ref 40, .none, .none, .none, .none, .int 378 0, .int 1 0, .str "/claim/cut.py" 379]⟩), ⟨[]⟩⟩
noncomputable def o42_1 : Obj := ⟨.type "frame", none, .plain, ⟨[(some (.ref 41)), (some (.ref 3)), (some (.ref 3)), none, (some (.str "__main__" 164)), none, (some (.ref 0))]⟩⟩
noncomputable def t1 (P : Params) : BT := (.node (o0_0 P) (.node (o1_0 P) (.node (o3_0 P) (.node o7_0 (.node (o15_0 P) (.node (o31_0 P) .nil .nil) .nil) (.node o23_0 (.node o39_1 .nil .nil) .nil)) (.node o11_0 (.node o19_0 (.node o35_0 .nil .nil) .nil) (.node o27_0 .nil .nil))) (.node o5_0 (.node o9_0 (.node o17_0 (.node o33_0 .nil .nil) .nil) (.node o25_0 (.node o41_1 .nil .nil) .nil)) (.node o13_0 (.node (o21_0 P) (.node o37_0 .nil .nil) .nil) (.node o29_0 .nil .nil)))) (.node (o2_0 P) (.node o4_0 (.node o8_0 (.node o16_0 (.node (o32_0 P) .nil .nil) .nil) (.node o24_0 (.node o40_1 .nil .nil) .nil)) (.node (o12_0 P) (.node o20_0 (.node o36_0 .nil .nil) .nil) (.node o28_0 .nil .nil))) (.node o6_0 (.node o10_0 (.node o18_0 (.node o34_0 .nil .nil) .nil) (.node (o26_0 P) (.node o42_1 .nil .nil) .nil)) (.node (o14_0 P) (.node o22_0 (.node o38_0 .nil .nil) .nil) (.node o30_0 .nil .nil)))))
noncomputable def o3_2 (P : Params) : Obj := ⟨.type "dict", none, (.dict ⟨[⟨PyData.keyHash P "__name__", .str "__name__" 165, .str "frametongue.commonwork" 701⟩, ⟨PyData.keyHash P "__doc__", .str "__doc__" 166, .none⟩, ⟨PyData.keyHash P "__package__", .str "__package__" 167, .none⟩, ⟨PyData.keyHash P "__loader__", .str "__loader__" 168, .builtin "__main__.__loader__#opaque"⟩, ⟨PyData.keyHash P "__spec__", .str "__spec__" 169, .none⟩, ⟨PyData.keyHash P "__annotations__", .str "__annotations__" 170, .ref 6⟩, ⟨PyData.keyHash P "__builtins__", .str "__builtins__" 171, .ref 4⟩, ⟨PyData.keyHash P "__file__", .str "__file__" 173, .str "/claim/cut.py" 172⟩, ⟨PyData.keyHash P "__cached__", .str "__cached__" 174, .none⟩, ⟨PyData.keyHash P "comb", .str "comb" 370, .builtin "math.comb"⟩, ⟨PyData.keyHash P "gcd", .str "gcd" 373, .builtin "math.gcd"⟩, ⟨PyData.keyHash P "_wall", .str "_wall" 386, .ref 49⟩, ⟨PyData.keyHash P "FrameError", .str "FrameError" 406, .ref 59⟩, ⟨PyData.keyHash P "InvalidRows", .str "InvalidRows" 433, .ref 81⟩, ⟨PyData.keyHash P "InvalidDeed", .str "InvalidDeed" 460, .ref 102⟩, ⟨PyData.keyHash P "Barred", .str "Barred" 487, .ref 123⟩, ⟨PyData.keyHash P "NothingToUndo", .str "NothingToUndo" 503, .ref 135⟩, ⟨PyData.keyHash P "number_sum", .str "number_sum" 513, .ref 144⟩, ⟨PyData.keyHash P "unknown_sum", .str "unknown_sum" 519, .ref 149⟩, ⟨PyData.keyHash P "terms_of", .str "terms_of" 526, .ref 156⟩, ⟨PyData.keyHash P "sum_by", .str "sum_by" 532, .ref 161⟩, ⟨PyData.keyHash P "without_noughts", .str "without_noughts" 538, .ref 166⟩, ⟨PyData.keyHash P "plus_sums", .str "plus_sums" 549, .ref 173⟩, ⟨PyData.keyHash P "times_number", .str "times_number" 555, .ref 178⟩, ⟨PyData.keyHash P "less_sums", .str "less_sums" 563, .ref 185⟩, ⟨PyData.keyHash P "times_sums", .str "times_sums" 569, .ref 190⟩, ⟨PyData.keyHash P "power_sum", .str "power_sum" 580, .ref 197⟩, ⟨PyData.keyHash P "degree_in", .str "degree_in" 586, .ref 202⟩, ⟨PyData.keyHash P "degree_of", .str "degree_of" 592, .ref 207⟩, ⟨PyData.keyHash P "first_number", .str "first_number" 599, .ref 214⟩, ⟨PyData.keyHash P "share_of_numbers", .str "share_of_numbers" 608, .ref 221⟩, ⟨PyData.keyHash P "with_first_above", .str "with_first_above" 615, .ref 228⟩, ⟨PyData.keyHash P "is_term_part", .str "is_term_part" 621, .ref 233⟩, ⟨PyData.keyHash P "divided_by", .str "divided_by" 627, .ref 238⟩, ⟨PyData.keyHash P "least_powers", .str "least_powers" 633, .ref 243⟩, ⟨PyData.keyHash P "lowered", .str "lowered" 639, .ref 248⟩, ⟨PyData.keyHash P "put_in", .str "put_in" 655, .ref 255⟩, ⟨PyData.keyHash P "left_of", .str "left_of" 661, .ref 260⟩, ⟨PyData.keyHash P "have_common_part", .str "have_common_part" 671, .ref 267⟩, ⟨PyData.keyHash P "does_show", .str "does_show" 683, .ref 274⟩, ⟨PyData.keyHash P "quick_points", .str "quick_points" 689, .ref 279⟩, ⟨PyData.keyHash P "quick_point", .str "quick_point" 700, .ref 286⟩, ⟨PyData.keyHash P "FEW_TRIES", .str "FEW_TRIES" 704, .int 6 703⟩, ⟨PyData.keyHash P "shares_in", .str "shares_in" 716, .ref 293⟩]⟩ 44), ⟨[]⟩⟩
noncomputable def o40_2 : Obj := ⟨.none, none, (.fields ⟨[.int 2 0, .int 0 0, .ref 48, .int 6 0, .int 0 0, .ref 55, .int 8 0, .int 0 0, .ref 69, .int 13 0, .int 0 0, .ref 90, .int 18 0, .int 0 0, .ref 111, .int 23 0, .int 0 0, .ref 131, .int 26 0, .int 0 0, .ref 143, .int 28 0, .int 0 0, .ref 148, .int 30 0, .int 0 0, .ref 155, .int 32 0, .int 0 0, .ref 160, .int 34 0, .int 0 0, .ref 165, .int 36 0, .int 0 0, .ref 172, .int 41 0, .int 0 0, .ref 177, .int 43 0, .int 0 0, .ref 184, .int 45 0, .int 0 0, .ref 189, .int 52 0, .int 0 0, .ref 196, .int 57 0, .int 0 0, .ref 201, .int 59 0, .int 0 0, .ref 206, .int 61 0, .int 0 0, .ref 213, .int 63 0, .int 0 0, .ref 220, .int 68 0, .int 0 0, .ref 227, .int 70 0, .int 0 0, .ref 232, .int 72 0, .int 0 0, .ref 237, .int 82 0, .int 0 0, .ref 242, .int 84 0, .int 0 0, .ref 247, .int 86 0, .int 0 0, .ref 254, .int 97 0, .int 0 0, .ref 259, .int 110 0, .int 0 0, .ref 266, .int 115 0, .int 0 0, .ref 273, .int 120 0, .int 0 0, .ref 278, .int 126 0, .int 0 0, .ref 285, .int 133 0, .int 0 0, .ref 292]⟩), ⟨[]⟩⟩
noncomputable def o43_2 : Obj := ⟨.type "tuple", none, (.seq ⟨[]⟩ 0), ⟨[]⟩⟩
noncomputable def o44_2 : Obj := ⟨.none, none, (.fields ⟨[]⟩), ⟨[]⟩⟩
noncomputable def o45_2 : Obj := ⟨.type "tuple", none, (.seq ⟨[.str "k" 383]⟩ 0), ⟨[]⟩⟩
noncomputable def o46_2 : Obj := ⟨.type "tuple", none, (.seq ⟨[]⟩ 0), ⟨[]⟩⟩
noncomputable def o47_2 : Obj := ⟨.none, none, (.func (fQ (topS 1) "_wall" "_wall" 0 [] (.none) (.none) (.none) (.none) none (.none) (.none) 0)), ⟨[]⟩⟩
noncomputable def o48_2 : Obj := ⟨.type "code", none, (.fields ⟨[.str "_wall" 380, .str "_wall" 381, .str "/claim/cut.py" 382, .int 2 0, .int 1 0, .int 0 0, .int 0 0, .int 3 0, .ref 43, .bool true, .int 374 0, .ref 44, .none, .ref 45, .ref 46, .ref 47, .int 384 0, .int 2 0, .str "/claim/cut.py" 385]⟩), ⟨[]⟩⟩
noncomputable def o49_2 : Obj := ⟨.type "function", none, (.func (fQ (topS 1) "_wall" "_wall" 3 [] (.none) (.none) (.none) (.str "__main__" 164) none (.ref 48) (.none) 0)), ⟨[]⟩⟩
noncomputable def o50_2 : Obj := ⟨.type "tuple", none, (.seq ⟨[.type "ValueError"]⟩ 0), ⟨[]⟩⟩
noncomputable def o51_2 : Obj := ⟨.type "builtin_function_or_method", none, (.fields ⟨[.builtin "type.__prepare__", .type "type"]⟩), ⟨[]⟩⟩
noncomputable def o52_2 (P : Params) : Obj := ⟨.type "dict", none, (.dict ⟨[⟨PyData.keyHash P "__module__", .str "__module__" 396, .str "frametongue.errors" 387⟩, ⟨PyData.keyHash P "__qualname__", .str "__qualname__" 398, .str "FrameError" 397⟩, ⟨PyData.keyHash P "__firstlineno__", .str "__firstlineno__" 400, .int 6 399⟩, ⟨PyData.keyHash P "__static_attributes__", .str "__static_attributes__" 401, .ref 57⟩]⟩ 4), ⟨[]⟩⟩
noncomputable def o53_2 : Obj := ⟨.type "tuple", none, (.seq ⟨[]⟩ 0), ⟨[]⟩⟩
noncomputable def o54_2 : Obj := ⟨.none, none, (.fields ⟨[]⟩), ⟨[]⟩⟩
noncomputable def o55_2 : Obj := ⟨.type "code", none, (.fields ⟨[.str "FrameError" 391, .str "FrameError" 392, .str "/claim/cut.py" 393, .int 6 0, .int 0 0, .int 0 0, .int 0 0, .int 0 0, .ref 53, .bool false, .int 374 0, .ref 54, .none, .none, .none, .none, .int 394 0, .int 6 0, .str "/claim/cut.py" 395]⟩), ⟨[]⟩⟩
noncomputable def o56_2 : Obj := ⟨.type "frame", none, .plain, ⟨[(some (.ref 55)), (some (.ref 3)), (some (.ref 52)), none, (some (.str "frametongue.errors" 387)), none, (some (.ref 0))]⟩⟩
noncomputable def o57_2 : Obj := ⟨.type "tuple", none, (.seq ⟨[]⟩ 0), ⟨[]⟩⟩
noncomputable def o58_2 (P : Params) : Obj := ⟨.type "dict", none, (.dict ⟨[⟨PyData.keyHash P "__module__", .str "__module__" 396, .str "frametongue.errors" 387⟩, ⟨PyData.keyHash P "__firstlineno__", .str "__firstlineno__" 400, .int 6 399⟩, ⟨PyData.keyHash P "__static_attributes__", .str "__static_attributes__" 401, .ref 57⟩, ⟨PyData.keyHash P "__weakref__", .str "__weakref__" 403, .ref 60⟩, ⟨PyData.keyHash P "__doc__", .str "__doc__" 404, .none⟩]⟩ 3), ⟨[]⟩⟩
noncomputable def o59_2 : Obj := ⟨.type "type", none, (.cls ⟨"FrameError", [.type "ValueError"], [.ref 59, .type "ValueError", .type "Exception", .type "BaseException", .type "object"], 58, "FrameError", true, [], [.ref 81, .ref 102, .ref 123, .ref 135], false, none, false⟩), ⟨[(some (.ref 50)), none, (some (.str "FrameError" 389)), (some (.str "FrameError" 397)), (some (.builtin "ValueError.__new__")), (some (.bool true))]⟩⟩
noncomputable def o60_2 : Obj := ⟨.type "getset_descriptor", none, (.fields ⟨[.str "__weakref__" 402, .ref 59, .builtin "ExceptionGroup.__weakref__", .none]⟩), ⟨[]⟩⟩
noncomputable def o61_2 : Obj := ⟨.type "super", none, (.fields ⟨[.ref 59, .ref 59, .ref 59]⟩), ⟨[]⟩⟩
noncomputable def o62_2 : Obj := ⟨.type "builtin_function_or_method", none, (.fields ⟨[.builtin "object.__init_subclass__", .ref 59]⟩), ⟨[]⟩⟩
noncomputable def o63_2 : Obj := ⟨.type "tuple", none, (.seq ⟨[.ref 59]⟩ 0), ⟨[]⟩⟩
noncomputable def o64_2 : Obj := ⟨.type "builtin_function_or_method", none, (.fields ⟨[.builtin "type.__prepare__", .type "type"]⟩), ⟨[]⟩⟩
noncomputable def o65_2 (P : Params) : Obj := ⟨.type "dict", none, (.dict ⟨[⟨PyData.keyHash P "__module__", .str "__module__" 414, .str "frametongue.errors" 387⟩, ⟨PyData.keyHash P "__qualname__", .str "__qualname__" 416, .str "InvalidRows" 415⟩, ⟨PyData.keyHash P "__firstlineno__", .str "__firstlineno__" 418, .int 8 417⟩, ⟨PyData.keyHash P "__init__", .str "__init__" 427, .ref 78⟩, ⟨PyData.keyHash P "__static_attributes__", .str "__static_attributes__" 429, .ref 79⟩, ⟨PyData.keyHash P "__classcell__", .str "__classcell__" 430, .ref 66⟩]⟩ 6), ⟨[]⟩⟩
noncomputable def o66_2 : Obj := ⟨.type "cell", none, (.cell (some (.ref 81))), ⟨[]⟩⟩
noncomputable def o67_2 : Obj := ⟨.type "tuple", none, (.seq ⟨[]⟩ 0), ⟨[]⟩⟩
noncomputable def o68_2 : Obj := ⟨.none, none, (.fields ⟨[.int 10 0, .int 4 0, .ref 77]⟩), ⟨[]⟩⟩
noncomputable def o69_2 : Obj := ⟨.type "code", none, (.fields ⟨[.str "InvalidRows" 409, .str "InvalidRows" 410, .str "/claim/cut.py" 411, .int 8 0, .int 0 0, .int 0 0, .int 0 0, .int 0 0, .ref 67, .bool false, .int 374 0, .ref 68, .none, .none, .none, .none, .int 412 0, .int 8 0, .str "/claim/cut.py" 413]⟩), ⟨[]⟩⟩
noncomputable def o70_2 : Obj := ⟨.type "frame", none, .plain, ⟨[(some (.ref 69)), (some (.ref 3)), (some (.ref 65)), none, (some (.str "frametongue.errors" 387)), none, (some (.ref 0))]⟩⟩
noncomputable def o71_2 : Obj := ⟨.type "tuple", none, (.seq ⟨[.ref 66]⟩ 0), ⟨[]⟩⟩
noncomputable def o72_2 : Obj := ⟨.type "tuple", none, (.seq ⟨[.str "__class__" 422]⟩ 0), ⟨[]⟩⟩
noncomputable def o73_2 : Obj := ⟨.none, none, (.fields ⟨[]⟩), ⟨[]⟩⟩
noncomputable def o74_2 : Obj := ⟨.type "tuple", none, (.seq ⟨[.str "self" 423, .str "index" 424]⟩ 0), ⟨[]⟩⟩
noncomputable def o75_2 : Obj := ⟨.type "tuple", none, (.seq ⟨[]⟩ 0), ⟨[]⟩⟩
noncomputable def o76_2 : Obj := ⟨.none, none, (.func (fQ (inClass (topS 4) 0) "__init__" "InvalidRows.__init__" 0 [] (.none) (.none) (.none) (.none) none (.none) (.none) 0)), ⟨[]⟩⟩
noncomputable def o77_2 : Obj := ⟨.type "code", none, (.fields ⟨[.str "__init__" 419, .str "InvalidRows.__init__" 420, .str "/claim/cut.py" 421, .int 10 0, .int 2 0, .int 0 0, .int 0 0, .int 3 0, .ref 72, .bool true, .int 374 0, .ref 73, .none, .ref 74, .ref 75, .ref 76, .int 425 0, .int 10 0, .str "/claim/cut.py" 426]⟩), ⟨[]⟩⟩
noncomputable def o78_2 : Obj := ⟨.type "function", none, (.func (fQ (inClass (topS 4) 0) "__init__" "InvalidRows.__init__" 3 [("__class__", 66)] (.none) (.none) (.none) (.str "frametongue.errors" 387) none (.ref 77) (.ref 71) 0)), ⟨[]⟩⟩
noncomputable def o79_2 : Obj := ⟨.type "tuple", none, (.seq ⟨[.str "index" 428]⟩ 0), ⟨[]⟩⟩
noncomputable def o80_2 (P : Params) : Obj := ⟨.type "dict", none, (.dict ⟨[⟨PyData.keyHash P "__module__", .str "__module__" 414, .str "frametongue.errors" 387⟩, ⟨PyData.keyHash P "__firstlineno__", .str "__firstlineno__" 418, .int 8 417⟩, ⟨PyData.keyHash P "__init__", .str "__init__" 427, .ref 78⟩, ⟨PyData.keyHash P "__static_attributes__", .str "__static_attributes__" 429, .ref 79⟩, ⟨PyData.keyHash P "__doc__", .str "__doc__" 431, .none⟩]⟩ 3), ⟨[]⟩⟩
noncomputable def o81_2 : Obj := ⟨.type "type", none, (.cls ⟨"InvalidRows", [.ref 59], [.ref 81, .ref 59, .type "ValueError", .type "Exception", .type "BaseException", .type "object"], 80, "InvalidRows", true, [], [], false, none, false⟩), ⟨[(some (.ref 63)), none, (some (.str "InvalidRows" 407)), (some (.str "InvalidRows" 415)), (some (.builtin "ValueError.__new__")), (some (.bool true))]⟩⟩
noncomputable def o82_2 : Obj := ⟨.type "super", none, (.fields ⟨[.ref 81, .ref 81, .ref 81]⟩), ⟨[]⟩⟩
noncomputable def o83_2 : Obj := ⟨.type "builtin_function_or_method", none, (.fields ⟨[.builtin "object.__init_subclass__", .ref 81]⟩), ⟨[]⟩⟩
noncomputable def o84_2 : Obj := ⟨.type "tuple", none, (.seq ⟨[.ref 59]⟩ 0), ⟨[]⟩⟩
noncomputable def o85_2 : Obj := ⟨.type "builtin_function_or_method", none, (.fields ⟨[.builtin "type.__prepare__", .type "type"]⟩), ⟨[]⟩⟩
noncomputable def o86_2 (P : Params) : Obj := ⟨.type "dict", none, (.dict ⟨[⟨PyData.keyHash P "__module__", .str "__module__" 441, .str "frametongue.errors" 387⟩, ⟨PyData.keyHash P "__qualname__", .str "__qualname__" 443, .str "InvalidDeed" 442⟩, ⟨PyData.keyHash P "__firstlineno__", .str "__firstlineno__" 445, .int 13 444⟩, ⟨PyData.keyHash P "__init__", .str "__init__" 454, .ref 99⟩, ⟨PyData.keyHash P "__static_attributes__", .str "__static_attributes__" 456, .ref 100⟩, ⟨PyData.keyHash P "__classcell__", .str "__classcell__" 457, .ref 87⟩]⟩ 6), ⟨[]⟩⟩
noncomputable def o87_2 : Obj := ⟨.type "cell", none, (.cell (some (.ref 102))), ⟨[]⟩⟩
noncomputable def o88_2 : Obj := ⟨.type "tuple", none, (.seq ⟨[]⟩ 0), ⟨[]⟩⟩
noncomputable def o89_2 : Obj := ⟨.none, none, (.fields ⟨[.int 15 0, .int 4 0, .ref 98]⟩), ⟨[]⟩⟩
noncomputable def o90_2 : Obj := ⟨.type "code", none, (.fields ⟨[.str "InvalidDeed" 436, .str "InvalidDeed" 437, .str "/claim/cut.py" 438, .int 13 0, .int 0 0, .int 0 0, .int 0 0, .int 0 0, .ref 88, .bool false, .int 374 0, .ref 89, .none, .none, .none, .none, .int 439 0, .int 13 0, .str "/claim/cut.py" 440]⟩), ⟨[]⟩⟩
noncomputable def o91_2 : Obj := ⟨.type "frame", none, .plain, ⟨[(some (.ref 90)), (some (.ref 3)), (some (.ref 86)), none, (some (.str "frametongue.errors" 387)), none, (some (.ref 0))]⟩⟩
noncomputable def o92_2 : Obj := ⟨.type "tuple", none, (.seq ⟨[.ref 87]⟩ 0), ⟨[]⟩⟩
noncomputable def o93_2 : Obj := ⟨.type "tuple", none, (.seq ⟨[.str "__class__" 449]⟩ 0), ⟨[]⟩⟩
noncomputable def o94_2 : Obj := ⟨.none, none, (.fields ⟨[]⟩), ⟨[]⟩⟩
noncomputable def o95_2 : Obj := ⟨.type "tuple", none, (.seq ⟨[.str "self" 450, .str "index" 451]⟩ 0), ⟨[]⟩⟩
noncomputable def o96_2 : Obj := ⟨.type "tuple", none, (.seq ⟨[]⟩ 0), ⟨[]⟩⟩
noncomputable def o97_2 : Obj := ⟨.none, none, (.func (fQ (inClass (topS 5) 0) "__init__" "InvalidDeed.__init__" 0 [] (.none) (.none) (.none) (.none) none (.none) (.none) 0)), ⟨[]⟩⟩
noncomputable def o98_2 : Obj := ⟨.type "code", none, (.fields ⟨[.str "__init__" 446, .str "InvalidDeed.__init__" 447, .str "/claim/cut.py" 448, .int 15 0, .int 2 0, .int 0 0, .int 0 0, .int 3 0, .ref 93, .bool true, .int 374 0, .ref 94, .none, .ref 95, .ref 96, .ref 97, .int 452 0, .int 15 0, .str "/claim/cut.py" 453]⟩), ⟨[]⟩⟩
noncomputable def o99_2 : Obj := ⟨.type "function", none, (.func (fQ (inClass (topS 5) 0) "__init__" "InvalidDeed.__init__" 3 [("__class__", 87)] (.none) (.none) (.none) (.str "frametongue.errors" 387) none (.ref 98) (.ref 92) 0)), ⟨[]⟩⟩
noncomputable def o100_2 : Obj := ⟨.type "tuple", none, (.seq ⟨[.str "index" 455]⟩ 0), ⟨[]⟩⟩
noncomputable def o101_2 (P : Params) : Obj := ⟨.type "dict", none, (.dict ⟨[⟨PyData.keyHash P "__module__", .str "__module__" 441, .str "frametongue.errors" 387⟩, ⟨PyData.keyHash P "__firstlineno__", .str "__firstlineno__" 445, .int 13 444⟩, ⟨PyData.keyHash P "__init__", .str "__init__" 454, .ref 99⟩, ⟨PyData.keyHash P "__static_attributes__", .str "__static_attributes__" 456, .ref 100⟩, ⟨PyData.keyHash P "__doc__", .str "__doc__" 458, .none⟩]⟩ 3), ⟨[]⟩⟩
noncomputable def o102_2 : Obj := ⟨.type "type", none, (.cls ⟨"InvalidDeed", [.ref 59], [.ref 102, .ref 59, .type "ValueError", .type "Exception", .type "BaseException", .type "object"], 101, "InvalidDeed", true, [], [], false, none, false⟩), ⟨[(some (.ref 84)), none, (some (.str "InvalidDeed" 434)), (some (.str "InvalidDeed" 442)), (some (.builtin "ValueError.__new__")), (some (.bool true))]⟩⟩
noncomputable def o103_2 : Obj := ⟨.type "super", none, (.fields ⟨[.ref 102, .ref 102, .ref 102]⟩), ⟨[]⟩⟩
noncomputable def o104_2 : Obj := ⟨.type "builtin_function_or_method", none, (.fields ⟨[.builtin "object.__init_subclass__", .ref 102]⟩), ⟨[]⟩⟩
noncomputable def o105_2 : Obj := ⟨.type "tuple", none, (.seq ⟨[.ref 59]⟩ 0), ⟨[]⟩⟩
noncomputable def o106_2 : Obj := ⟨.type "builtin_function_or_method", none, (.fields ⟨[.builtin "type.__prepare__", .type "type"]⟩), ⟨[]⟩⟩
noncomputable def o107_2 (P : Params) : Obj := ⟨.type "dict", none, (.dict ⟨[⟨PyData.keyHash P "__module__", .str "__module__" 468, .str "frametongue.errors" 387⟩, ⟨PyData.keyHash P "__qualname__", .str "__qualname__" 470, .str "Barred" 469⟩, ⟨PyData.keyHash P "__firstlineno__", .str "__firstlineno__" 472, .int 18 471⟩, ⟨PyData.keyHash P "__init__", .str "__init__" 481, .ref 120⟩, ⟨PyData.keyHash P "__static_attributes__", .str "__static_attributes__" 483, .ref 121⟩, ⟨PyData.keyHash P "__classcell__", .str "__classcell__" 484, .ref 108⟩]⟩ 6), ⟨[]⟩⟩
noncomputable def o108_2 : Obj := ⟨.type "cell", none, (.cell (some (.ref 123))), ⟨[]⟩⟩
noncomputable def o109_2 : Obj := ⟨.type "tuple", none, (.seq ⟨[]⟩ 0), ⟨[]⟩⟩
noncomputable def o110_2 : Obj := ⟨.none, none, (.fields ⟨[.int 20 0, .int 4 0, .ref 119]⟩), ⟨[]⟩⟩
noncomputable def o111_2 : Obj := ⟨.type "code", none, (.fields ⟨[.str "Barred" 463, .str "Barred" 464, .str "/claim/cut.py" 465, .int 18 0, .int 0 0, .int 0 0, .int 0 0, .int 0 0, .ref 109, .bool false, .int 374 0, .ref 110, .none, .none, .none, .none, .int 466 0, .int 18 0, .str "/claim/cut.py" 467]⟩), ⟨[]⟩⟩
noncomputable def o112_2 : Obj := ⟨.type "frame", none, .plain, ⟨[(some (.ref 111)), (some (.ref 3)), (some (.ref 107)), none, (some (.str "frametongue.errors" 387)), none, (some (.ref 0))]⟩⟩
noncomputable def o113_2 : Obj := ⟨.type "tuple", none, (.seq ⟨[.ref 108]⟩ 0), ⟨[]⟩⟩
noncomputable def o114_2 : Obj := ⟨.type "tuple", none, (.seq ⟨[.str "__class__" 476]⟩ 0), ⟨[]⟩⟩
noncomputable def o115_2 : Obj := ⟨.none, none, (.fields ⟨[]⟩), ⟨[]⟩⟩
noncomputable def o116_2 : Obj := ⟨.type "tuple", none, (.seq ⟨[.str "self" 477, .str "reason" 478]⟩ 0), ⟨[]⟩⟩
noncomputable def o117_2 : Obj := ⟨.type "tuple", none, (.seq ⟨[]⟩ 0), ⟨[]⟩⟩
noncomputable def o118_2 : Obj := ⟨.none, none, (.func (fQ (inClass (topS 6) 0) "__init__" "Barred.__init__" 0 [] (.none) (.none) (.none) (.none) none (.none) (.none) 0)), ⟨[]⟩⟩
noncomputable def o119_2 : Obj := ⟨.type "code", none, (.fields ⟨[.str "__init__" 473, .str "Barred.__init__" 474, .str "/claim/cut.py" 475, .int 20 0, .int 2 0, .int 0 0, .int 0 0, .int 3 0, .ref 114, .bool true, .int 374 0, .ref 115, .none, .ref 116, .ref 117, .ref 118, .int 479 0, .int 20 0, .str "/claim/cut.py" 480]⟩), ⟨[]⟩⟩
noncomputable def o120_2 : Obj := ⟨.type "function", none, (.func (fQ (inClass (topS 6) 0) "__init__" "Barred.__init__" 3 [("__class__", 108)] (.none) (.none) (.none) (.str "frametongue.errors" 387) none (.ref 119) (.ref 113) 0)), ⟨[]⟩⟩
noncomputable def o121_2 : Obj := ⟨.type "tuple", none, (.seq ⟨[.str "reason" 482]⟩ 0), ⟨[]⟩⟩
noncomputable def o122_2 (P : Params) : Obj := ⟨.type "dict", none, (.dict ⟨[⟨PyData.keyHash P "__module__", .str "__module__" 468, .str "frametongue.errors" 387⟩, ⟨PyData.keyHash P "__firstlineno__", .str "__firstlineno__" 472, .int 18 471⟩, ⟨PyData.keyHash P "__init__", .str "__init__" 481, .ref 120⟩, ⟨PyData.keyHash P "__static_attributes__", .str "__static_attributes__" 483, .ref 121⟩, ⟨PyData.keyHash P "__doc__", .str "__doc__" 485, .none⟩]⟩ 3), ⟨[]⟩⟩
noncomputable def o123_2 : Obj := ⟨.type "type", none, (.cls ⟨"Barred", [.ref 59], [.ref 123, .ref 59, .type "ValueError", .type "Exception", .type "BaseException", .type "object"], 122, "Barred", true, [], [], false, none, false⟩), ⟨[(some (.ref 105)), none, (some (.str "Barred" 461)), (some (.str "Barred" 469)), (some (.builtin "ValueError.__new__")), (some (.bool true))]⟩⟩
noncomputable def o124_2 : Obj := ⟨.type "super", none, (.fields ⟨[.ref 123, .ref 123, .ref 123]⟩), ⟨[]⟩⟩
noncomputable def o125_2 : Obj := ⟨.type "builtin_function_or_method", none, (.fields ⟨[.builtin "object.__init_subclass__", .ref 123]⟩), ⟨[]⟩⟩
noncomputable def o126_2 : Obj := ⟨.type "tuple", none, (.seq ⟨[.ref 59]⟩ 0), ⟨[]⟩⟩
noncomputable def o127_2 : Obj := ⟨.type "builtin_function_or_method", none, (.fields ⟨[.builtin "type.__prepare__", .type "type"]⟩), ⟨[]⟩⟩
noncomputable def o128_2 (P : Params) : Obj := ⟨.type "dict", none, (.dict ⟨[⟨PyData.keyHash P "__module__", .str "__module__" 495, .str "frametongue.errors" 387⟩, ⟨PyData.keyHash P "__qualname__", .str "__qualname__" 497, .str "NothingToUndo" 496⟩, ⟨PyData.keyHash P "__firstlineno__", .str "__firstlineno__" 499, .int 23 498⟩, ⟨PyData.keyHash P "__static_attributes__", .str "__static_attributes__" 500, .ref 133⟩]⟩ 4), ⟨[]⟩⟩
noncomputable def o129_2 : Obj := ⟨.type "tuple", none, (.seq ⟨[]⟩ 0), ⟨[]⟩⟩
noncomputable def o130_2 : Obj := ⟨.none, none, (.fields ⟨[]⟩), ⟨[]⟩⟩
noncomputable def o131_2 : Obj := ⟨.type "code", none, (.fields ⟨[.str "NothingToUndo" 490, .str "NothingToUndo" 491, .str "/claim/cut.py" 492, .int 23 0, .int 0 0, .int 0 0, .int 0 0, .int 0 0, .ref 129, .bool false, .int 374 0, .ref 130, .none, .none, .none, .none, .int 493 0, .int 23 0, .str "/claim/cut.py" 494]⟩), ⟨[]⟩⟩
noncomputable def o132_2 : Obj := ⟨.type "frame", none, .plain, ⟨[(some (.ref 131)), (some (.ref 3)), (some (.ref 128)), none, (some (.str "frametongue.errors" 387)), none, (some (.ref 0))]⟩⟩
noncomputable def o133_2 : Obj := ⟨.type "tuple", none, (.seq ⟨[]⟩ 0), ⟨[]⟩⟩
noncomputable def o134_2 (P : Params) : Obj := ⟨.type "dict", none, (.dict ⟨[⟨PyData.keyHash P "__module__", .str "__module__" 495, .str "frametongue.errors" 387⟩, ⟨PyData.keyHash P "__firstlineno__", .str "__firstlineno__" 499, .int 23 498⟩, ⟨PyData.keyHash P "__static_attributes__", .str "__static_attributes__" 500, .ref 133⟩, ⟨PyData.keyHash P "__doc__", .str "__doc__" 501, .none⟩]⟩ 2), ⟨[]⟩⟩
noncomputable def o135_2 : Obj := ⟨.type "type", none, (.cls ⟨"NothingToUndo", [.ref 59], [.ref 135, .ref 59, .type "ValueError", .type "Exception", .type "BaseException", .type "object"], 134, "NothingToUndo", true, [], [], false, none, false⟩), ⟨[(some (.ref 126)), none, (some (.str "NothingToUndo" 488)), (some (.str "NothingToUndo" 496)), (some (.builtin "ValueError.__new__")), (some (.bool true))]⟩⟩
noncomputable def o136_2 : Obj := ⟨.type "super", none, (.fields ⟨[.ref 135, .ref 135, .ref 135]⟩), ⟨[]⟩⟩
noncomputable def o137_2 : Obj := ⟨.type "builtin_function_or_method", none, (.fields ⟨[.builtin "object.__init_subclass__", .ref 135]⟩), ⟨[]⟩⟩
noncomputable def o138_2 : Obj := ⟨.type "tuple", none, (.seq ⟨[]⟩ 0), ⟨[]⟩⟩
noncomputable def o139_2 : Obj := ⟨.none, none, (.fields ⟨[]⟩), ⟨[]⟩⟩
noncomputable def o140_2 : Obj := ⟨.type "tuple", none, (.seq ⟨[.str "many" 509, .str "number" 510]⟩ 0), ⟨[]⟩⟩
noncomputable def o141_2 : Obj := ⟨.type "tuple", none, (.seq ⟨[]⟩ 0), ⟨[]⟩⟩
noncomputable def o142_2 : Obj := ⟨.none, none, (.func (fQ (topS 9) "number_sum" "number_sum" 0 [] (.none) (.none) (.none) (.none) none (.none) (.none) 0)), ⟨[]⟩⟩
noncomputable def o143_2 : Obj := ⟨.type "code", none, (.fields ⟨[.str "number_sum" 506, .str "number_sum" 507, .str "/claim/cut.py" 508, .int 26 0, .int 2 0, .int 0 0, .int 0 0, .int 3 0, .ref 138, .bool true, .int 374 0, .ref 139, .none, .ref 140, .ref 141, .ref 142, .int 511 0, .int 26 0, .str "/claim/cut.py" 512]⟩), ⟨[]⟩⟩
noncomputable def o144_2 : Obj := ⟨.type "function", none, (.func (fQ (topS 9) "number_sum" "number_sum" 3 [] (.none) (.none) (.none) (.str "frametongue.sumwork" 504) none (.ref 143) (.none) 0)), ⟨[]⟩⟩
noncomputable def o145_2 : Obj := ⟨.type "tuple", none, (.seq ⟨[]⟩ 0), ⟨[]⟩⟩
noncomputable def o146_2 : Obj := ⟨.none, none, (.fields ⟨[]⟩), ⟨[]⟩⟩
noncomputable def o147_2 : Obj := ⟨.none, none, (.func (fQ (topS 10) "unknown_sum" "unknown_sum" 0 [] (.none) (.none) (.none) (.none) none (.none) (.none) 0)), ⟨[]⟩⟩
noncomputable def o148_2 : Obj := ⟨.type "code", none, (.fields ⟨[.str "unknown_sum" 514, .str "unknown_sum" 515, .str "/claim/cut.py" 516, .int 28 0, .int 2 0, .int 0 0, .int 0 0, .int 3 0, .ref 145, .bool true, .int 374 0, .ref 146, .none, .none, .none, .ref 147, .int 517 0, .int 28 0, .str "/claim/cut.py" 518]⟩), ⟨[]⟩⟩
noncomputable def o149_2 : Obj := ⟨.type "function", none, (.func (fQ (topS 10) "unknown_sum" "unknown_sum" 3 [] (.none) (.none) (.none) (.str "frametongue.sumwork" 504) none (.ref 148) (.none) 0)), ⟨[]⟩⟩
noncomputable def o150_2 : Obj := ⟨.type "tuple", none, (.seq ⟨[]⟩ 0), ⟨[]⟩⟩
noncomputable def o151_2 : Obj := ⟨.none, none, (.fields ⟨[]⟩), ⟨[]⟩⟩
noncomputable def o152_2 : Obj := ⟨.type "tuple", none, (.seq ⟨[.str "own" 523]⟩ 0), ⟨[]⟩⟩
noncomputable def o153_2 : Obj := ⟨.type "tuple", none, (.seq ⟨[]⟩ 0), ⟨[]⟩⟩
noncomputable def o154_2 : Obj := ⟨.none, none, (.func (fQ (topS 11) "terms_of" "terms_of" 0 [] (.none) (.none) (.none) (.none) none (.none) (.none) 0)), ⟨[]⟩⟩
noncomputable def o155_2 : Obj := ⟨.type "code", none, (.fields ⟨[.str "terms_of" 520, .str "terms_of" 521, .str "/claim/cut.py" 522, .int 30 0, .int 1 0, .int 0 0, .int 0 0, .int 3 0, .ref 150, .bool true, .int 374 0, .ref 151, .none, .ref 152, .ref 153, .ref 154, .int 524 0, .int 30 0, .str "/claim/cut.py" 525]⟩), ⟨[]⟩⟩
noncomputable def o156_2 : Obj := ⟨.type "function", none, (.func (fQ (topS 11) "terms_of" "terms_of" 3 [] (.none) (.none) (.none) (.str "frametongue.sumwork" 504) none (.ref 155) (.none) 0)), ⟨[]⟩⟩
noncomputable def o157_2 : Obj := ⟨.type "tuple", none, (.seq ⟨[]⟩ 0), ⟨[]⟩⟩
noncomputable def o158_2 : Obj := ⟨.none, none, (.fields ⟨[]⟩), ⟨[]⟩⟩
noncomputable def o159_2 : Obj := ⟨.none, none, (.func (fQ (topS 12) "sum_by" "sum_by" 0 [] (.none) (.none) (.none) (.none) none (.none) (.none) 0)), ⟨[]⟩⟩
noncomputable def o160_2 : Obj := ⟨.type "code", none, (.fields ⟨[.str "sum_by" 527, .str "sum_by" 528, .str "/claim/cut.py" 529, .int 32 0, .int 1 0, .int 0 0, .int 0 0, .int 3 0, .ref 157, .bool true, .int 374 0, .ref 158, .none, .none, .none, .ref 159, .int 530 0, .int 32 0, .str "/claim/cut.py" 531]⟩), ⟨[]⟩⟩
noncomputable def o161_2 : Obj := ⟨.type "function", none, (.func (fQ (topS 12) "sum_by" "sum_by" 3 [] (.none) (.none) (.none) (.str "frametongue.sumwork" 504) none (.ref 160) (.none) 0)), ⟨[]⟩⟩
noncomputable def o162_2 : Obj := ⟨.type "tuple", none, (.seq ⟨[]⟩ 0), ⟨[]⟩⟩
noncomputable def o163_2 : Obj := ⟨.none, none, (.fields ⟨[]⟩), ⟨[]⟩⟩
noncomputable def o164_2 : Obj := ⟨.none, none, (.func (fQ (topS 13) "without_noughts" "without_noughts" 0 [] (.none) (.none) (.none) (.none) none (.none) (.none) 0)), ⟨[]⟩⟩
noncomputable def o165_2 : Obj := ⟨.type "code", none, (.fields ⟨[.str "without_noughts" 533, .str "without_noughts" 534, .str "/claim/cut.py" 535, .int 34 0, .int 1 0, .int 0 0, .int 0 0, .int 3 0, .ref 162, .bool true, .int 374 0, .ref 163, .none, .none, .none, .ref 164, .int 536 0, .int 34 0, .str "/claim/cut.py" 537]⟩), ⟨[]⟩⟩
noncomputable def o166_2 : Obj := ⟨.type "function", none, (.func (fQ (topS 13) "without_noughts" "without_noughts" 3 [] (.none) (.none) (.none) (.str "frametongue.sumwork" 504) none (.ref 165) (.none) 0)), ⟨[]⟩⟩
noncomputable def o167_2 : Obj := ⟨.type "tuple", none, (.seq ⟨[]⟩ 0), ⟨[]⟩⟩
noncomputable def o168_2 : Obj := ⟨.none, none, (.fields ⟨[]⟩), ⟨[]⟩⟩
noncomputable def o169_2 : Obj := ⟨.type "tuple", none, (.seq ⟨[.str "one" 542, .str "other" 543, .str "found" 544, .str "powers" 545, .str "number" 546]⟩ 0), ⟨[]⟩⟩
noncomputable def o170_2 : Obj := ⟨.type "tuple", none, (.seq ⟨[]⟩ 0), ⟨[]⟩⟩
noncomputable def o171_2 : Obj := ⟨.none, none, (.func (fQ (topS 14) "plus_sums" "plus_sums" 0 [] (.none) (.none) (.none) (.none) none (.none) (.none) 0)), ⟨[]⟩⟩
noncomputable def o172_2 : Obj := ⟨.type "code", none, (.fields ⟨[.str "plus_sums" 539, .str "plus_sums" 540, .str "/claim/cut.py" 541, .int 36 0, .int 2 0, .int 0 0, .int 0 0, .int 3 0, .ref 167, .bool true, .int 374 0, .ref 168, .none, .ref 169, .ref 170, .ref 171, .int 547 0, .int 36 0, .str "/claim/cut.py" 548]⟩), ⟨[]⟩⟩
noncomputable def o173_2 : Obj := ⟨.type "function", none, (.func (fQ (topS 14) "plus_sums" "plus_sums" 3 [] (.none) (.none) (.none) (.str "frametongue.sumwork" 504) none (.ref 172) (.none) 0)), ⟨[]⟩⟩
noncomputable def o174_2 : Obj := ⟨.type "tuple", none, (.seq ⟨[]⟩ 0), ⟨[]⟩⟩
noncomputable def o175_2 : Obj := ⟨.none, none, (.fields ⟨[]⟩), ⟨[]⟩⟩
noncomputable def o176_2 : Obj := ⟨.none, none, (.func (fQ (topS 15) "times_number" "times_number" 0 [] (.none) (.none) (.none) (.none) none (.none) (.none) 0)), ⟨[]⟩⟩
noncomputable def o177_2 : Obj := ⟨.type "code", none, (.fields ⟨[.str "times_number" 550, .str "times_number" 551, .str "/claim/cut.py" 552, .int 41 0, .int 2 0, .int 0 0, .int 0 0, .int 3 0, .ref 174, .bool true, .int 374 0, .ref 175, .none, .none, .none, .ref 176, .int 553 0, .int 41 0, .str "/claim/cut.py" 554]⟩), ⟨[]⟩⟩
noncomputable def o178_2 : Obj := ⟨.type "function", none, (.func (fQ (topS 15) "times_number" "times_number" 3 [] (.none) (.none) (.none) (.str "frametongue.sumwork" 504) none (.ref 177) (.none) 0)), ⟨[]⟩⟩
noncomputable def o179_2 : Obj := ⟨.type "tuple", none, (.seq ⟨[]⟩ 0), ⟨[]⟩⟩
noncomputable def o180_2 : Obj := ⟨.none, none, (.fields ⟨[]⟩), ⟨[]⟩⟩
noncomputable def o181_2 : Obj := ⟨.type "tuple", none, (.seq ⟨[.str "one" 559, .str "other" 560]⟩ 0), ⟨[]⟩⟩
noncomputable def o182_2 : Obj := ⟨.type "tuple", none, (.seq ⟨[]⟩ 0), ⟨[]⟩⟩
noncomputable def o183_2 : Obj := ⟨.none, none, (.func (fQ (topS 16) "less_sums" "less_sums" 0 [] (.none) (.none) (.none) (.none) none (.none) (.none) 0)), ⟨[]⟩⟩
noncomputable def o184_2 : Obj := ⟨.type "code", none, (.fields ⟨[.str "less_sums" 556, .str "less_sums" 557, .str "/claim/cut.py" 558, .int 43 0, .int 2 0, .int 0 0, .int 0 0, .int 3 0, .ref 179, .bool true, .int 374 0, .ref 180, .none, .ref 181, .ref 182, .ref 183, .int 561 0, .int 43 0, .str "/claim/cut.py" 562]⟩), ⟨[]⟩⟩
noncomputable def o185_2 : Obj := ⟨.type "function", none, (.func (fQ (topS 16) "less_sums" "less_sums" 3 [] (.none) (.none) (.none) (.str "frametongue.sumwork" 504) none (.ref 184) (.none) 0)), ⟨[]⟩⟩
noncomputable def o186_2 : Obj := ⟨.type "tuple", none, (.seq ⟨[]⟩ 0), ⟨[]⟩⟩
noncomputable def o187_2 : Obj := ⟨.none, none, (.fields ⟨[]⟩), ⟨[]⟩⟩
noncomputable def o188_2 : Obj := ⟨.none, none, (.func (fQ (topS 17) "times_sums" "times_sums" 0 [] (.none) (.none) (.none) (.none) none (.none) (.none) 0)), ⟨[]⟩⟩
noncomputable def o189_2 : Obj := ⟨.type "code", none, (.fields ⟨[.str "times_sums" 564, .str "times_sums" 565, .str "/claim/cut.py" 566, .int 45 0, .int 2 0, .int 0 0, .int 0 0, .int 3 0, .ref 186, .bool true, .int 374 0, .ref 187, .none, .none, .none, .ref 188, .int 567 0, .int 45 0, .str "/claim/cut.py" 568]⟩), ⟨[]⟩⟩
noncomputable def o190_2 : Obj := ⟨.type "function", none, (.func (fQ (topS 17) "times_sums" "times_sums" 3 [] (.none) (.none) (.none) (.str "frametongue.sumwork" 504) none (.ref 189) (.none) 0)), ⟨[]⟩⟩
noncomputable def o191_2 : Obj := ⟨.type "tuple", none, (.seq ⟨[]⟩ 0), ⟨[]⟩⟩
noncomputable def o192_2 : Obj := ⟨.none, none, (.fields ⟨[]⟩), ⟨[]⟩⟩
noncomputable def o193_2 : Obj := ⟨.type "tuple", none, (.seq ⟨[.str "many" 573, .str "own" 574, .str "exponent" 575, .str "found" 576, .str "turn" 577]⟩ 0), ⟨[]⟩⟩
noncomputable def o194_2 : Obj := ⟨.type "tuple", none, (.seq ⟨[]⟩ 0), ⟨[]⟩⟩
noncomputable def o195_2 : Obj := ⟨.none, none, (.func (fQ (topS 18) "power_sum" "power_sum" 0 [] (.none) (.none) (.none) (.none) none (.none) (.none) 0)), ⟨[]⟩⟩
noncomputable def o196_2 : Obj := ⟨.type "code", none, (.fields ⟨[.str "power_sum" 570, .str "power_sum" 571, .str "/claim/cut.py" 572, .int 52 0, .int 3 0, .int 0 0, .int 0 0, .int 3 0, .ref 191, .bool true, .int 374 0, .ref 192, .none, .ref 193, .ref 194, .ref 195, .int 578 0, .int 52 0, .str "/claim/cut.py" 579]⟩), ⟨[]⟩⟩
noncomputable def o197_2 : Obj := ⟨.type "function", none, (.func (fQ (topS 18) "power_sum" "power_sum" 3 [] (.none) (.none) (.none) (.str "frametongue.sumwork" 504) none (.ref 196) (.none) 0)), ⟨[]⟩⟩
noncomputable def o198_2 : Obj := ⟨.type "tuple", none, (.seq ⟨[]⟩ 0), ⟨[]⟩⟩
noncomputable def o199_2 : Obj := ⟨.none, none, (.fields ⟨[]⟩), ⟨[]⟩⟩
noncomputable def o200_2 : Obj := ⟨.none, none, (.func (fQ (topS 19) "degree_in" "degree_in" 0 [] (.none) (.none) (.none) (.none) none (.none) (.none) 0)), ⟨[]⟩⟩
noncomputable def o201_2 : Obj := ⟨.type "code", none, (.fields ⟨[.str "degree_in" 581, .str "degree_in" 582, .str "/claim/cut.py" 583, .int 57 0, .int 2 0, .int 0 0, .int 0 0, .int 3 0, .ref 198, .bool true, .int 374 0, .ref 199, .none, .none, .none, .ref 200, .int 584 0, .int 57 0, .str "/claim/cut.py" 585]⟩), ⟨[]⟩⟩
noncomputable def o202_2 : Obj := ⟨.type "function", none, (.func (fQ (topS 19) "degree_in" "degree_in" 3 [] (.none) (.none) (.none) (.str "frametongue.sumwork" 504) none (.ref 201) (.none) 0)), ⟨[]⟩⟩
noncomputable def o203_2 : Obj := ⟨.type "tuple", none, (.seq ⟨[]⟩ 0), ⟨[]⟩⟩
noncomputable def o204_2 : Obj := ⟨.none, none, (.fields ⟨[]⟩), ⟨[]⟩⟩
noncomputable def o205_2 : Obj := ⟨.none, none, (.func (fQ (topS 20) "degree_of" "degree_of" 0 [] (.none) (.none) (.none) (.none) none (.none) (.none) 0)), ⟨[]⟩⟩
noncomputable def o206_2 : Obj := ⟨.type "code", none, (.fields ⟨[.str "degree_of" 587, .str "degree_of" 588, .str "/claim/cut.py" 589, .int 59 0, .int 1 0, .int 0 0, .int 0 0, .int 3 0, .ref 203, .bool true, .int 374 0, .ref 204, .none, .none, .none, .ref 205, .int 590 0, .int 59 0, .str "/claim/cut.py" 591]⟩), ⟨[]⟩⟩
noncomputable def o207_2 : Obj := ⟨.type "function", none, (.func (fQ (topS 20) "degree_of" "degree_of" 3 [] (.none) (.none) (.none) (.str "frametongue.sumwork" 504) none (.ref 206) (.none) 0)), ⟨[]⟩⟩
noncomputable def o208_2 : Obj := ⟨.type "tuple", none, (.seq ⟨[]⟩ 0), ⟨[]⟩⟩
noncomputable def o209_2 : Obj := ⟨.none, none, (.fields ⟨[]⟩), ⟨[]⟩⟩
noncomputable def o210_2 : Obj := ⟨.type "tuple", none, (.seq ⟨[.str "own" 596]⟩ 0), ⟨[]⟩⟩
noncomputable def o211_2 : Obj := ⟨.type "tuple", none, (.seq ⟨[]⟩ 0), ⟨[]⟩⟩
noncomputable def o212_2 : Obj := ⟨.none, none, (.func (fQ (topS 21) "first_number" "first_number" 0 [] (.none) (.none) (.none) (.none) none (.none) (.none) 0)), ⟨[]⟩⟩
noncomputable def o213_2 : Obj := ⟨.type "code", none, (.fields ⟨[.str "first_number" 593, .str "first_number" 594, .str "/claim/cut.py" 595, .int 61 0, .int 1 0, .int 0 0, .int 0 0, .int 3 0, .ref 208, .bool true, .int 374 0, .ref 209, .none, .ref 210, .ref 211, .ref 212, .int 597 0, .int 61 0, .str "/claim/cut.py" 598]⟩), ⟨[]⟩⟩
noncomputable def o214_2 : Obj := ⟨.type "function", none, (.func (fQ (topS 21) "first_number" "first_number" 3 [] (.none) (.none) (.none) (.str "frametongue.sumwork" 504) none (.ref 213) (.none) 0)), ⟨[]⟩⟩
noncomputable def o215_2 : Obj := ⟨.type "tuple", none, (.seq ⟨[]⟩ 0), ⟨[]⟩⟩
noncomputable def o216_2 : Obj := ⟨.none, none, (.fields ⟨[]⟩), ⟨[]⟩⟩
noncomputable def o217_2 : Obj := ⟨.type "tuple", none, (.seq ⟨[.str "own" 603, .str "found" 604, .str "number" 605]⟩ 0), ⟨[]⟩⟩
noncomputable def o218_2 : Obj := ⟨.type "tuple", none, (.seq ⟨[]⟩ 0), ⟨[]⟩⟩
noncomputable def o219_2 : Obj := ⟨.none, none, (.func (fQ (topS 22) "share_of_numbers" "share_of_numbers" 0 [] (.none) (.none) (.none) (.none) none (.none) (.none) 0)), ⟨[]⟩⟩
noncomputable def o220_2 : Obj := ⟨.type "code", none, (.fields ⟨[.str "share_of_numbers" 600, .str "share_of_numbers" 601, .str "/claim/cut.py" 602, .int 63 0, .int 1 0, .int 0 0, .int 0 0, .int 3 0, .ref 215, .bool true, .int 374 0, .ref 216, .none, .ref 217, .ref 218, .ref 219, .int 606 0, .int 63 0, .str "/claim/cut.py" 607]⟩), ⟨[]⟩⟩
noncomputable def o221_2 : Obj := ⟨.type "function", none, (.func (fQ (topS 22) "share_of_numbers" "share_of_numbers" 3 [] (.none) (.none) (.none) (.str "frametongue.sumwork" 504) none (.ref 220) (.none) 0)), ⟨[]⟩⟩
noncomputable def o222_2 : Obj := ⟨.type "tuple", none, (.seq ⟨[]⟩ 0), ⟨[]⟩⟩
noncomputable def o223_2 : Obj := ⟨.none, none, (.fields ⟨[]⟩), ⟨[]⟩⟩
noncomputable def o224_2 : Obj := ⟨.type "tuple", none, (.seq ⟨[.str "own" 612]⟩ 0), ⟨[]⟩⟩
noncomputable def o225_2 : Obj := ⟨.type "tuple", none, (.seq ⟨[]⟩ 0), ⟨[]⟩⟩
noncomputable def o226_2 : Obj := ⟨.none, none, (.func (fQ (topS 23) "with_first_above" "with_first_above" 0 [] (.none) (.none) (.none) (.none) none (.none) (.none) 0)), ⟨[]⟩⟩
noncomputable def o227_2 : Obj := ⟨.type "code", none, (.fields ⟨[.str "with_first_above" 609, .str "with_first_above" 610, .str "/claim/cut.py" 611, .int 68 0, .int 1 0, .int 0 0, .int 0 0, .int 3 0, .ref 222, .bool true, .int 374 0, .ref 223, .none, .ref 224, .ref 225, .ref 226, .int 613 0, .int 68 0, .str "/claim/cut.py" 614]⟩), ⟨[]⟩⟩
noncomputable def o228_2 : Obj := ⟨.type "function", none, (.func (fQ (topS 23) "with_first_above" "with_first_above" 3 [] (.none) (.none) (.none) (.str "frametongue.sumwork" 504) none (.ref 227) (.none) 0)), ⟨[]⟩⟩
noncomputable def o229_2 : Obj := ⟨.type "tuple", none, (.seq ⟨[]⟩ 0), ⟨[]⟩⟩
noncomputable def o230_2 : Obj := ⟨.none, none, (.fields ⟨[]⟩), ⟨[]⟩⟩
noncomputable def o231_2 : Obj := ⟨.none, none, (.func (fQ (topS 24) "is_term_part" "is_term_part" 0 [] (.none) (.none) (.none) (.none) none (.none) (.none) 0)), ⟨[]⟩⟩
noncomputable def o232_2 : Obj := ⟨.type "code", none, (.fields ⟨[.str "is_term_part" 616, .str "is_term_part" 617, .str "/claim/cut.py" 618, .int 70 0, .int 2 0, .int 0 0, .int 0 0, .int 3 0, .ref 229, .bool true, .int 374 0, .ref 230, .none, .none, .none, .ref 231, .int 619 0, .int 70 0, .str "/claim/cut.py" 620]⟩), ⟨[]⟩⟩
noncomputable def o233_2 : Obj := ⟨.type "function", none, (.func (fQ (topS 24) "is_term_part" "is_term_part" 3 [] (.none) (.none) (.none) (.str "frametongue.sumwork" 504) none (.ref 232) (.none) 0)), ⟨[]⟩⟩
noncomputable def o234_2 : Obj := ⟨.type "tuple", none, (.seq ⟨[]⟩ 0), ⟨[]⟩⟩
noncomputable def o235_2 : Obj := ⟨.none, none, (.fields ⟨[]⟩), ⟨[]⟩⟩
noncomputable def o236_2 : Obj := ⟨.none, none, (.func (fQ (topS 25) "divided_by" "divided_by" 0 [] (.none) (.none) (.none) (.none) none (.none) (.none) 0)), ⟨[]⟩⟩
noncomputable def o237_2 : Obj := ⟨.type "code", none, (.fields ⟨[.str "divided_by" 622, .str "divided_by" 623, .str "/claim/cut.py" 624, .int 72 0, .int 2 0, .int 0 0, .int 0 0, .int 3 0, .ref 234, .bool true, .int 374 0, .ref 235, .none, .none, .none, .ref 236, .int 625 0, .int 72 0, .str "/claim/cut.py" 626]⟩), ⟨[]⟩⟩
noncomputable def o238_2 : Obj := ⟨.type "function", none, (.func (fQ (topS 25) "divided_by" "divided_by" 3 [] (.none) (.none) (.none) (.str "frametongue.sumwork" 504) none (.ref 237) (.none) 0)), ⟨[]⟩⟩
noncomputable def o239_2 : Obj := ⟨.type "tuple", none, (.seq ⟨[]⟩ 0), ⟨[]⟩⟩
noncomputable def o240_2 : Obj := ⟨.none, none, (.fields ⟨[]⟩), ⟨[]⟩⟩
noncomputable def o241_2 : Obj := ⟨.none, none, (.func (fQ (topS 26) "least_powers" "least_powers" 0 [] (.none) (.none) (.none) (.none) none (.none) (.none) 0)), ⟨[]⟩⟩
noncomputable def o242_2 : Obj := ⟨.type "code", none, (.fields ⟨[.str "least_powers" 628, .str "least_powers" 629, .str "/claim/cut.py" 630, .int 82 0, .int 1 0, .int 0 0, .int 0 0, .int 3 0, .ref 239, .bool true, .int 374 0, .ref 240, .none, .none, .none, .ref 241, .int 631 0, .int 82 0, .str "/claim/cut.py" 632]⟩), ⟨[]⟩⟩
noncomputable def o243_2 : Obj := ⟨.type "function", none, (.func (fQ (topS 26) "least_powers" "least_powers" 3 [] (.none) (.none) (.none) (.str "frametongue.sumwork" 504) none (.ref 242) (.none) 0)), ⟨[]⟩⟩
noncomputable def o244_2 : Obj := ⟨.type "tuple", none, (.seq ⟨[]⟩ 0), ⟨[]⟩⟩
noncomputable def o245_2 : Obj := ⟨.none, none, (.fields ⟨[]⟩), ⟨[]⟩⟩
noncomputable def o246_2 : Obj := ⟨.none, none, (.func (fQ (topS 27) "lowered" "lowered" 0 [] (.none) (.none) (.none) (.none) none (.none) (.none) 0)), ⟨[]⟩⟩
noncomputable def o247_2 : Obj := ⟨.type "code", none, (.fields ⟨[.str "lowered" 634, .str "lowered" 635, .str "/claim/cut.py" 636, .int 84 0, .int 2 0, .int 0 0, .int 0 0, .int 3 0, .ref 244, .bool true, .int 374 0, .ref 245, .none, .none, .none, .ref 246, .int 637 0, .int 84 0, .str "/claim/cut.py" 638]⟩), ⟨[]⟩⟩
noncomputable def o248_2 : Obj := ⟨.type "function", none, (.func (fQ (topS 27) "lowered" "lowered" 3 [] (.none) (.none) (.none) (.str "frametongue.sumwork" 504) none (.ref 247) (.none) 0)), ⟨[]⟩⟩
noncomputable def o249_2 : Obj := ⟨.type "tuple", none, (.seq ⟨[]⟩ 0), ⟨[]⟩⟩
noncomputable def o250_2 : Obj := ⟨.none, none, (.fields ⟨[]⟩), ⟨[]⟩⟩
noncomputable def o251_2 : Obj := ⟨.type "tuple", none, (.seq ⟨[.str "own" 643, .str "at" 644, .str "point" 645, .str "found" 646, .str "powers" 647, .str "number" 648, .str "told" 649, .str "place" 650, .str "value" 651, .str "turn" 652]⟩ 0), ⟨[]⟩⟩
noncomputable def o252_2 : Obj := ⟨.type "tuple", none, (.seq ⟨[]⟩ 0), ⟨[]⟩⟩
noncomputable def o253_2 : Obj := ⟨.none, none, (.func (fQ (topS 28) "put_in" "put_in" 0 [] (.none) (.none) (.none) (.none) none (.none) (.none) 0)), ⟨[]⟩⟩
noncomputable def o254_2 : Obj := ⟨.type "code", none, (.fields ⟨[.str "put_in" 640, .str "put_in" 641, .str "/claim/cut.py" 642, .int 86 0, .int 3 0, .int 0 0, .int 0 0, .int 3 0, .ref 249, .bool true, .int 374 0, .ref 250, .none, .ref 251, .ref 252, .ref 253, .int 653 0, .int 86 0, .str "/claim/cut.py" 654]⟩), ⟨[]⟩⟩
noncomputable def o255_2 : Obj := ⟨.type "function", none, (.func (fQ (topS 28) "put_in" "put_in" 3 [] (.none) (.none) (.none) (.str "frametongue.sumwork" 504) none (.ref 254) (.none) 0)), ⟨[]⟩⟩
noncomputable def o256_2 : Obj := ⟨.type "tuple", none, (.seq ⟨[]⟩ 0), ⟨[]⟩⟩
noncomputable def o257_2 : Obj := ⟨.none, none, (.fields ⟨[]⟩), ⟨[]⟩⟩
noncomputable def o258_2 : Obj := ⟨.none, none, (.func (fQ (topS 29) "left_of" "left_of" 0 [] (.none) (.none) (.none) (.none) none (.none) (.none) 0)), ⟨[]⟩⟩
noncomputable def o259_2 : Obj := ⟨.type "code", none, (.fields ⟨[.str "left_of" 656, .str "left_of" 657, .str "/claim/cut.py" 658, .int 97 0, .int 2 0, .int 0 0, .int 0 0, .int 3 0, .ref 256, .bool true, .int 374 0, .ref 257, .none, .none, .none, .ref 258, .int 659 0, .int 97 0, .str "/claim/cut.py" 660]⟩), ⟨[]⟩⟩
noncomputable def o260_2 : Obj := ⟨.type "function", none, (.func (fQ (topS 29) "left_of" "left_of" 3 [] (.none) (.none) (.none) (.str "frametongue.sumwork" 504) none (.ref 259) (.none) 0)), ⟨[]⟩⟩
noncomputable def o261_2 : Obj := ⟨.type "tuple", none, (.seq ⟨[]⟩ 0), ⟨[]⟩⟩
noncomputable def o262_2 : Obj := ⟨.none, none, (.fields ⟨[]⟩), ⟨[]⟩⟩
noncomputable def o263_2 : Obj := ⟨.type "tuple", none, (.seq ⟨[.str "one" 665, .str "other" 666, .str "ahead" 667, .str "later" 668]⟩ 0), ⟨[]⟩⟩
noncomputable def o264_2 : Obj := ⟨.type "tuple", none, (.seq ⟨[]⟩ 0), ⟨[]⟩⟩
noncomputable def o265_2 : Obj := ⟨.none, none, (.func (fQ (topS 30) "have_common_part" "have_common_part" 0 [] (.none) (.none) (.none) (.none) none (.none) (.none) 0)), ⟨[]⟩⟩
noncomputable def o266_2 : Obj := ⟨.type "code", none, (.fields ⟨[.str "have_common_part" 662, .str "have_common_part" 663, .str "/claim/cut.py" 664, .int 110 0, .int 2 0, .int 0 0, .int 0 0, .int 3 0, .ref 261, .bool true, .int 374 0, .ref 262, .none, .ref 263, .ref 264, .ref 265, .int 669 0, .int 110 0, .str "/claim/cut.py" 670]⟩), ⟨[]⟩⟩
noncomputable def o267_2 : Obj := ⟨.type "function", none, (.func (fQ (topS 30) "have_common_part" "have_common_part" 3 [] (.none) (.none) (.none) (.str "frametongue.sumwork" 504) none (.ref 266) (.none) 0)), ⟨[]⟩⟩
noncomputable def o268_2 : Obj := ⟨.type "tuple", none, (.seq ⟨[]⟩ 0), ⟨[]⟩⟩
noncomputable def o269_2 : Obj := ⟨.none, none, (.fields ⟨[]⟩), ⟨[]⟩⟩
noncomputable def o270_2 : Obj := ⟨.type "tuple", none, (.seq ⟨[.str "one" 675, .str "other" 676, .str "at" 677, .str "point" 678, .str "mine" 679, .str "theirs" 680]⟩ 0), ⟨[]⟩⟩
noncomputable def o271_2 : Obj := ⟨.type "tuple", none, (.seq ⟨[]⟩ 0), ⟨[]⟩⟩
noncomputable def o272_2 : Obj := ⟨.none, none, (.func (fQ (topS 31) "does_show" "does_show" 0 [] (.none) (.none) (.none) (.none) none (.none) (.none) 0)), ⟨[]⟩⟩
noncomputable def o273_2 : Obj := ⟨.type "code", none, (.fields ⟨[.str "does_show" 672, .str "does_show" 673, .str "/claim/cut.py" 674, .int 115 0, .int 4 0, .int 0 0, .int 0 0, .int 3 0, .ref 268, .bool true, .int 374 0, .ref 269, .none, .ref 270, .ref 271, .ref 272, .int 681 0, .int 115 0, .str "/claim/cut.py" 682]⟩), ⟨[]⟩⟩
noncomputable def o274_2 : Obj := ⟨.type "function", none, (.func (fQ (topS 31) "does_show" "does_show" 3 [] (.none) (.none) (.none) (.str "frametongue.sumwork" 504) none (.ref 273) (.none) 0)), ⟨[]⟩⟩
noncomputable def o275_2 : Obj := ⟨.type "tuple", none, (.seq ⟨[]⟩ 0), ⟨[]⟩⟩
noncomputable def o276_2 : Obj := ⟨.none, none, (.fields ⟨[]⟩), ⟨[]⟩⟩
noncomputable def o277_2 : Obj := ⟨.none, none, (.func (fQ (topS 32) "quick_points" "quick_points" 0 [] (.none) (.none) (.none) (.none) none (.none) (.none) 0)), ⟨[]⟩⟩
noncomputable def o278_2 : Obj := ⟨.type "code", none, (.fields ⟨[.str "quick_points" 684, .str "quick_points" 685, .str "/claim/cut.py" 686, .int 120 0, .int 3 0, .int 0 0, .int 0 0, .int 3 0, .ref 275, .bool true, .int 374 0, .ref 276, .none, .none, .none, .ref 277, .int 687 0, .int 120 0, .str "/claim/cut.py" 688]⟩), ⟨[]⟩⟩
noncomputable def o279_2 : Obj := ⟨.type "function", none, (.func (fQ (topS 32) "quick_points" "quick_points" 3 [] (.none) (.none) (.none) (.str "frametongue.sumwork" 504) none (.ref 278) (.none) 0)), ⟨[]⟩⟩
noncomputable def o280_2 : Obj := ⟨.type "tuple", none, (.seq ⟨[]⟩ 0), ⟨[]⟩⟩
noncomputable def o281_2 : Obj := ⟨.none, none, (.fields ⟨[]⟩), ⟨[]⟩⟩
noncomputable def o282_2 : Obj := ⟨.type "tuple", none, (.seq ⟨[.str "one" 693, .str "other" 694, .str "at" 695, .str "tries" 696, .str "point" 697]⟩ 0), ⟨[]⟩⟩
noncomputable def o283_2 : Obj := ⟨.type "tuple", none, (.seq ⟨[]⟩ 0), ⟨[]⟩⟩
noncomputable def o284_2 : Obj := ⟨.none, none, (.func (fQ (topS 33) "quick_point" "quick_point" 0 [] (.none) (.none) (.none) (.none) none (.none) (.none) 0)), ⟨[]⟩⟩
noncomputable def o285_2 : Obj := ⟨.type "code", none, (.fields ⟨[.str "quick_point" 690, .str "quick_point" 691, .str "/claim/cut.py" 692, .int 126 0, .int 4 0, .int 0 0, .int 0 0, .int 3 0, .ref 280, .bool true, .int 374 0, .ref 281, .none, .ref 282, .ref 283, .ref 284, .int 698 0, .int 126 0, .str "/claim/cut.py" 699]⟩), ⟨[]⟩⟩
noncomputable def o286_2 : Obj := ⟨.type "function", none, (.func (fQ (topS 33) "quick_point" "quick_point" 3 [] (.none) (.none) (.none) (.str "frametongue.sumwork" 504) none (.ref 285) (.none) 0)), ⟨[]⟩⟩
noncomputable def o287_2 : Obj := ⟨.type "tuple", none, (.seq ⟨[]⟩ 0), ⟨[]⟩⟩
noncomputable def o288_2 : Obj := ⟨.none, none, (.fields ⟨[]⟩), ⟨[]⟩⟩
noncomputable def o289_2 : Obj := ⟨.type "tuple", none, (.seq ⟨[.str "own" 708, .str "at" 709, .str "found" 710, .str "powers" 711, .str "number" 712, .str "rest" 713]⟩ 0), ⟨[]⟩⟩
noncomputable def o290_2 : Obj := ⟨.type "tuple", none, (.seq ⟨[]⟩ 0), ⟨[]⟩⟩
noncomputable def o291_2 : Obj := ⟨.none, none, (.func (fQ (topS 36) "shares_in" "shares_in" 0 [] (.none) (.none) (.none) (.none) none (.none) (.none) 0)), ⟨[]⟩⟩
noncomputable def o292_2 : Obj := ⟨.type "code", none, (.fields ⟨[.str "shares_in" 705, .str "shares_in" 706, .str "/claim/cut.py" 707, .int 133 0, .int 2 0, .int 0 0, .int 0 0, .int 3 0, .ref 287, .bool true, .int 374 0, .ref 288, .none, .ref 289, .ref 290, .ref 291, .int 714 0, .int 133 0, .str "/claim/cut.py" 715]⟩), ⟨[]⟩⟩
noncomputable def o293_2 : Obj := ⟨.type "function", none, (.func (fQ (topS 36) "shares_in" "shares_in" 3 [] (.none) (.none) (.none) (.str "frametongue.commonwork" 701) none (.ref 292) (.none) 0)), ⟨[]⟩⟩
noncomputable def t2 (P : Params) : BT := (.node (o0_0 P) (.node (o1_0 P) (.node (o3_2 P) (.node o7_0 (.node (o15_0 P) (.node (o31_0 P) (.node o63_2 (.node o127_2 (.node o255_2 .nil .nil) .nil) (.node o191_2 .nil .nil)) (.node o95_2 (.node o159_2 (.node o287_2 .nil .nil) .nil) (.node o223_2 .nil .nil))) (.node o47_2 (.node o79_2 (.node o143_2 (.node o271_2 .nil .nil) .nil) (.node o207_2 .nil .nil)) (.node o111_2 (.node o175_2 .nil .nil) (.node o239_2 .nil .nil)))) (.node o23_0 (.node o39_1 (.node o71_2 (.node o135_2 (.node o263_2 .nil .nil) .nil) (.node o199_2 .nil .nil)) (.node o103_2 (.node o167_2 .nil .nil) (.node o231_2 .nil .nil))) (.node o55_2 (.node o87_2 (.node o151_2 (.node o279_2 .nil .nil) .nil) (.node o215_2 .nil .nil)) (.node o119_2 (.node o183_2 .nil .nil) (.node o247_2 .nil .nil))))) (.node o11_0 (.node o19_0 (.node o35_0 (.node o67_2 (.node o131_2 (.node o259_2 .nil .nil) .nil) (.node o195_2 .nil .nil)) (.node o99_2 (.node o163_2 (.node o291_2 .nil .nil) .nil) (.node o227_2 .nil .nil))) (.node o51_2 (.node o83_2 (.node o147_2 (.node o275_2 .nil .nil) .nil) (.node o211_2 .nil .nil)) (.node o115_2 (.node o179_2 .nil .nil) (.node o243_2 .nil .nil)))) (.node o27_0 (.node o43_2 (.node o75_2 (.node o139_2 (.node o267_2 .nil .nil) .nil) (.node o203_2 .nil .nil)) (.node (o107_2 P) (.node o171_2 .nil .nil) (.node o235_2 .nil .nil))) (.node o59_2 (.node o91_2 (.node o155_2 (.node o283_2 .nil .nil) .nil) (.node o219_2 .nil .nil)) (.node o123_2 (.node o187_2 .nil .nil) (.node o251_2 .nil .nil)))))) (.node o5_0 (.node o9_0 (.node o17_0 (.node o33_0 (.node (o65_2 P) (.node o129_2 (.node o257_2 .nil .nil) .nil) (.node o193_2 .nil .nil)) (.node o97_2 (.node o161_2 (.node o289_2 .nil .nil) .nil) (.node o225_2 .nil .nil))) (.node o49_2 (.node o81_2 (.node o145_2 (.node o273_2 .nil .nil) .nil) (.node o209_2 .nil .nil)) (.node o113_2 (.node o177_2 .nil .nil) (.node o241_2 .nil .nil)))) (.node o25_0 (.node o41_1 (.node o73_2 (.node o137_2 (.node o265_2 .nil .nil) .nil) (.node o201_2 .nil .nil)) (.node o105_2 (.node o169_2 .nil .nil) (.node o233_2 .nil .nil))) (.node o57_2 (.node o89_2 (.node o153_2 (.node o281_2 .nil .nil) .nil) (.node o217_2 .nil .nil)) (.node o121_2 (.node o185_2 .nil .nil) (.node o249_2 .nil .nil))))) (.node o13_0 (.node (o21_0 P) (.node o37_0 (.node o69_2 (.node o133_2 (.node o261_2 .nil .nil) .nil) (.node o197_2 .nil .nil)) (.node (o101_2 P) (.node o165_2 (.node o293_2 .nil .nil) .nil) (.node o229_2 .nil .nil))) (.node o53_2 (.node o85_2 (.node o149_2 (.node o277_2 .nil .nil) .nil) (.node o213_2 .nil .nil)) (.node o117_2 (.node o181_2 .nil .nil) (.node o245_2 .nil .nil)))) (.node o29_0 (.node o45_2 (.node o77_2 (.node o141_2 (.node o269_2 .nil .nil) .nil) (.node o205_2 .nil .nil)) (.node o109_2 (.node o173_2 .nil .nil) (.node o237_2 .nil .nil))) (.node o61_2 (.node o93_2 (.node o157_2 (.node o285_2 .nil .nil) .nil) (.node o221_2 .nil .nil)) (.node o125_2 (.node o189_2 .nil .nil) (.node o253_2 .nil .nil))))))) (.node (o2_0 P) (.node o4_0 (.node o8_0 (.node o16_0 (.node (o32_0 P) (.node o64_2 (.node (o128_2 P) (.node o256_2 .nil .nil) .nil) (.node o192_2 .nil .nil)) (.node o96_2 (.node o160_2 (.node o288_2 .nil .nil) .nil) (.node o224_2 .nil .nil))) (.node o48_2 (.node (o80_2 P) (.node o144_2 (.node o272_2 .nil .nil) .nil) (.node o208_2 .nil .nil)) (.node o112_2 (.node o176_2 .nil .nil) (.node o240_2 .nil .nil)))) (.node o24_0 (.node o40_2 (.node o72_2 (.node o136_2 (.node o264_2 .nil .nil) .nil) (.node o200_2 .nil .nil)) (.node o104_2 (.node o168_2 .nil .nil) (.node o232_2 .nil .nil))) (.node o56_2 (.node o88_2 (.node o152_2 (.node o280_2 .nil .nil) .nil) (.node o216_2 .nil .nil)) (.node o120_2 (.node o184_2 .nil .nil) (.node o248_2 .nil .nil))))) (.node (o12_0 P) (.node o20_0 (.node o36_0 (.node o68_2 (.node o132_2 (.node o260_2 .nil .nil) .nil) (.node o196_2 .nil .nil)) (.node o100_2 (.node o164_2 (.node o292_2 .nil .nil) .nil) (.node o228_2 .nil .nil))) (.node (o52_2 P) (.node o84_2 (.node o148_2 (.node o276_2 .nil .nil) .nil) (.node o212_2 .nil .nil)) (.node o116_2 (.node o180_2 .nil .nil) (.node o244_2 .nil .nil)))) (.node o28_0 (.node o44_2 (.node o76_2 (.node o140_2 (.node o268_2 .nil .nil) .nil) (.node o204_2 .nil .nil)) (.node o108_2 (.node o172_2 .nil .nil) (.node o236_2 .nil .nil))) (.node o60_2 (.node o92_2 (.node o156_2 (.node o284_2 .nil .nil) .nil) (.node o220_2 .nil .nil)) (.node o124_2 (.node o188_2 .nil .nil) (.node o252_2 .nil .nil)))))) (.node o6_0 (.node o10_0 (.node o18_0 (.node o34_0 (.node o66_2 (.node o130_2 (.node o258_2 .nil .nil) .nil) (.node o194_2 .nil .nil)) (.node o98_2 (.node o162_2 (.node o290_2 .nil .nil) .nil) (.node o226_2 .nil .nil))) (.node o50_2 (.node o82_2 (.node o146_2 (.node o274_2 .nil .nil) .nil) (.node o210_2 .nil .nil)) (.node o114_2 (.node o178_2 .nil .nil) (.node o242_2 .nil .nil)))) (.node (o26_0 P) (.node o42_1 (.node o74_2 (.node o138_2 (.node o266_2 .nil .nil) .nil) (.node o202_2 .nil .nil)) (.node o106_2 (.node o170_2 .nil .nil) (.node o234_2 .nil .nil))) (.node (o58_2 P) (.node o90_2 (.node o154_2 (.node o282_2 .nil .nil) .nil) (.node o218_2 .nil .nil)) (.node (o122_2 P) (.node o186_2 .nil .nil) (.node o250_2 .nil .nil))))) (.node (o14_0 P) (.node o22_0 (.node o38_0 (.node o70_2 (.node (o134_2 P) (.node o262_2 .nil .nil) .nil) (.node o198_2 .nil .nil)) (.node o102_2 (.node o166_2 .nil .nil) (.node o230_2 .nil .nil))) (.node o54_2 (.node (o86_2 P) (.node o150_2 (.node o278_2 .nil .nil) .nil) (.node o214_2 .nil .nil)) (.node o118_2 (.node o182_2 .nil .nil) (.node o246_2 .nil .nil)))) (.node o30_0 (.node o46_2 (.node o78_2 (.node o142_2 (.node o270_2 .nil .nil) .nil) (.node o206_2 .nil .nil)) (.node o110_2 (.node o174_2 .nil .nil) (.node o238_2 .nil .nil))) (.node o62_2 (.node o94_2 (.node o158_2 (.node o286_2 .nil .nil) .nil) (.node o222_2 .nil .nil)) (.node o126_2 (.node o190_2 .nil .nil) (.node o254_2 .nil .nil))))))))
noncomputable def o3_3 (P : Params) : Obj := ⟨.type "dict", none, (.dict ⟨[⟨PyData.keyHash P "__name__", .str "__name__" 165, .str "frametongue.namework" 1030⟩, ⟨PyData.keyHash P "__doc__", .str "__doc__" 166, .none⟩, ⟨PyData.keyHash P "__package__", .str "__package__" 167, .none⟩, ⟨PyData.keyHash P "__loader__", .str "__loader__" 168, .builtin "__main__.__loader__#opaque"⟩, ⟨PyData.keyHash P "__spec__", .str "__spec__" 169, .none⟩, ⟨PyData.keyHash P "__annotations__", .str "__annotations__" 170, .ref 6⟩, ⟨PyData.keyHash P "__builtins__", .str "__builtins__" 171, .ref 4⟩, ⟨PyData.keyHash P "__file__", .str "__file__" 173, .str "/claim/cut.py" 172⟩, ⟨PyData.keyHash P "__cached__", .str "__cached__" 174, .none⟩, ⟨PyData.keyHash P "comb", .str "comb" 370, .builtin "math.comb"⟩, ⟨PyData.keyHash P "gcd", .str "gcd" 373, .builtin "math.gcd"⟩, ⟨PyData.keyHash P "_wall", .str "_wall" 386, .ref 49⟩, ⟨PyData.keyHash P "FrameError", .str "FrameError" 406, .ref 59⟩, ⟨PyData.keyHash P "InvalidRows", .str "InvalidRows" 433, .ref 81⟩, ⟨PyData.keyHash P "InvalidDeed", .str "InvalidDeed" 460, .ref 102⟩, ⟨PyData.keyHash P "Barred", .str "Barred" 487, .ref 123⟩, ⟨PyData.keyHash P "NothingToUndo", .str "NothingToUndo" 503, .ref 135⟩, ⟨PyData.keyHash P "number_sum", .str "number_sum" 513, .ref 144⟩, ⟨PyData.keyHash P "unknown_sum", .str "unknown_sum" 519, .ref 149⟩, ⟨PyData.keyHash P "terms_of", .str "terms_of" 526, .ref 156⟩, ⟨PyData.keyHash P "sum_by", .str "sum_by" 532, .ref 161⟩, ⟨PyData.keyHash P "without_noughts", .str "without_noughts" 538, .ref 166⟩, ⟨PyData.keyHash P "plus_sums", .str "plus_sums" 549, .ref 173⟩, ⟨PyData.keyHash P "times_number", .str "times_number" 555, .ref 178⟩, ⟨PyData.keyHash P "less_sums", .str "less_sums" 563, .ref 185⟩, ⟨PyData.keyHash P "times_sums", .str "times_sums" 569, .ref 190⟩, ⟨PyData.keyHash P "power_sum", .str "power_sum" 580, .ref 197⟩, ⟨PyData.keyHash P "degree_in", .str "degree_in" 586, .ref 202⟩, ⟨PyData.keyHash P "degree_of", .str "degree_of" 592, .ref 207⟩, ⟨PyData.keyHash P "first_number", .str "first_number" 599, .ref 214⟩, ⟨PyData.keyHash P "share_of_numbers", .str "share_of_numbers" 608, .ref 221⟩, ⟨PyData.keyHash P "with_first_above", .str "with_first_above" 615, .ref 228⟩, ⟨PyData.keyHash P "is_term_part", .str "is_term_part" 621, .ref 233⟩, ⟨PyData.keyHash P "divided_by", .str "divided_by" 627, .ref 238⟩, ⟨PyData.keyHash P "least_powers", .str "least_powers" 633, .ref 243⟩, ⟨PyData.keyHash P "lowered", .str "lowered" 639, .ref 248⟩, ⟨PyData.keyHash P "put_in", .str "put_in" 655, .ref 255⟩, ⟨PyData.keyHash P "left_of", .str "left_of" 661, .ref 260⟩, ⟨PyData.keyHash P "have_common_part", .str "have_common_part" 671, .ref 267⟩, ⟨PyData.keyHash P "does_show", .str "does_show" 683, .ref 274⟩, ⟨PyData.keyHash P "quick_points", .str "quick_points" 689, .ref 279⟩, ⟨PyData.keyHash P "quick_point", .str "quick_point" 700, .ref 286⟩, ⟨PyData.keyHash P "FEW_TRIES", .str "FEW_TRIES" 704, .int 6 703⟩, ⟨PyData.keyHash P "shares_in", .str "shares_in" 716, .ref 293⟩, ⟨PyData.keyHash P "raised_in", .str "raised_in" 722, .ref 298⟩, ⟨PyData.keyHash P "remainder_in", .str "remainder_in" 736, .ref 305⟩, ⟨PyData.keyHash P "common_of_all", .str "common_of_all" 745, .ref 312⟩, ⟨PyData.keyHash P "without_share", .str "without_share" 753, .ref 319⟩, ⟨PyData.keyHash P "common_in", .str "common_in" 765, .ref 326⟩, ⟨PyData.keyHash P "open_unknowns", .str "open_unknowns" 775, .ref 333⟩, ⟨PyData.keyHash P "parts_by", .str "parts_by" 781, .ref 338⟩, ⟨PyData.keyHash P "standing_in", .str "standing_in" 787, .ref 343⟩, ⟨PyData.keyHash P "common_by_remainders", .str "common_by_remainders" 793, .ref 348⟩, ⟨PyData.keyHash P "plain_common", .str "plain_common" 802, .ref 355⟩, ⟨PyData.keyHash P "common_of", .str "common_of" 808, .ref 360⟩, ⟨PyData.keyHash P "plain_of", .str "plain_of" 814, .ref 365⟩, ⟨PyData.keyHash P "without", .str "without" 824, .ref 372⟩, ⟨PyData.keyHash P "turned_up", .str "turned_up" 832, .ref 379⟩, ⟨PyData.keyHash P "times_lowest", .str "times_lowest" 847, .ref 386⟩, ⟨PyData.keyHash P "joined_lowest", .str "joined_lowest" 865, .ref 393⟩, ⟨PyData.keyHash P "lowest_with", .str "lowest_with" 874, .ref 400⟩, ⟨PyData.keyHash P "is_whole", .str "is_whole" 883, .ref 407⟩, ⟨PyData.keyHash P "is_number", .str "is_number" 893, .ref 415⟩, ⟨PyData.keyHash P "is_string", .str "is_string" 900, .ref 422⟩, ⟨PyData.keyHash P "is_row", .str "is_row" 909, .ref 429⟩, ⟨PyData.keyHash P "first_wrong", .str "first_wrong" 919, .ref 436⟩, ⟨PyData.keyHash P "LETTERS", .str "LETTERS" 923, .str "abcdefghijklmnopqrstuvwxyz" 922⟩, ⟨PyData.keyHash P "FIGURES", .str "FIGURES" 925, .str "0123456789" 924⟩, ⟨PyData.keyHash P "OTHERS", .str "OTHERS" 927, .str "+-*/^(),=" 926⟩, ⟨PyData.keyHash P "BLANK", .str "BLANK" 929, .str " " 928⟩, ⟨PyData.keyHash P "MOST_LETTERS", .str "MOST_LETTERS" 931, .int 8 930⟩, ⟨PyData.keyHash P "MOST_FIGURES", .str "MOST_FIGURES" 933, .int 6 932⟩, ⟨PyData.keyHash P "wrong_sign", .str "wrong_sign" 939, .ref 441⟩, ⟨PyData.keyHash P "sort_of", .str "sort_of" 946, .ref 448⟩, ⟨PyData.keyHash P "row_words", .str "row_words" 957, .ref 455⟩, ⟨PyData.keyHash P "is_run_of", .str "is_run_of" 963, .ref 460⟩, ⟨PyData.keyHash P "is_any_name", .str "is_any_name" 970, .ref 467⟩, ⟨PyData.keyHash P "is_name_word", .str "is_name_word" 977, .ref 474⟩, ⟨PyData.keyHash P "is_any_number", .str "is_any_number" 984, .ref 481⟩, ⟨PyData.keyHash P "is_number_word", .str "is_number_word" 991, .ref 488⟩, ⟨PyData.keyHash P "DEEDS", .str "DEEDS" 998, .ref 489⟩, ⟨PyData.keyHash P "MOST_PLACES", .str "MOST_PLACES" 1000, .int 40 999⟩, ⟨PyData.keyHash P "MOST_POWER", .str "MOST_POWER" 1002, .int 4 1001⟩, ⟨PyData.keyHash P "MOST_OWN", .str "MOST_OWN" 1004, .int 3 1003⟩, ⟨PyData.keyHash P "GIVEN_HEADS", .str "GIVEN_HEADS" 1008, .ref 490⟩, ⟨PyData.keyHash P "parts_of", .str "parts_of" 1015, .ref 497⟩, ⟨PyData.keyHash P "with_parts", .str "with_parts" 1023, .ref 504⟩, ⟨PyData.keyHash P "folded", .str "folded" 1029, .ref 509⟩, ⟨PyData.keyHash P "MOST_PUT", .str "MOST_PUT" 1033, .int 200 1032⟩, ⟨PyData.keyHash P "MOST_SPOTS", .str "MOST_SPOTS" 1035, .int 4 1034⟩, ⟨PyData.keyHash P "MOST_OF", .str "MOST_OF" 1048, .ref 510⟩, ⟨PyData.keyHash P "SPOTS", .str "SPOTS" 1051, .ref 511⟩, ⟨PyData.keyHash P "GIVENS", .str "GIVENS" 1055, .ref 512⟩, ⟨PyData.keyHash P "CALLED", .str "CALLED" 1080, .ref 513⟩, ⟨PyData.keyHash P "RESERVED", .str "RESERVED" 1095, .ref 514⟩, ⟨PyData.keyHash P "sorts_by", .str "sorts_by" 1101, .ref 519⟩, ⟨PyData.keyHash P "givens_by", .str "givens_by" 1107, .ref 524⟩, ⟨PyData.keyHash P "tells_by", .str "tells_by" 1113, .ref 529⟩, ⟨PyData.keyHash P "is_too_many", .str "is_too_many" 1119, .ref 534⟩, ⟨PyData.keyHash P "may_be_called", .str "may_be_called" 1128, .ref 541⟩, ⟨PyData.keyHash P "may_be_used", .str "may_be_used" 1137, .ref 548⟩, ⟨PyData.keyHash P "wrong_name", .str "wrong_name" 1152, .ref 555⟩, ⟨PyData.keyHash P "Sizes", .str "Sizes" 1214, .ref 598⟩, ⟨PyData.keyHash P "added", .str "added" 1227, .ref 609⟩]⟩ 104), ⟨[]⟩⟩
noncomputable def o40_3 : Obj := ⟨.none, none, (.fields ⟨[.int 2 0, .int 0 0, .ref 48, .int 6 0, .int 0 0, .ref 55, .int 8 0, .int 0 0, .ref 69, .int 13 0, .int 0 0, .ref 90, .int 18 0, .int 0 0, .ref 111, .int 23 0, .int 0 0, .ref 131, .int 26 0, .int 0 0, .ref 143, .int 28 0, .int 0 0, .ref 148, .int 30 0, .int 0 0, .ref 155, .int 32 0, .int 0 0, .ref 160, .int 34 0, .int 0 0, .ref 165, .int 36 0, .int 0 0, .ref 172, .int 41 0, .int 0 0, .ref 177, .int 43 0, .int 0 0, .ref 184, .int 45 0, .int 0 0, .ref 189, .int 52 0, .int 0 0, .ref 196, .int 57 0, .int 0 0, .ref 201, .int 59 0, .int 0 0, .ref 206, .int 61 0, .int 0 0, .ref 213, .int 63 0, .int 0 0, .ref 220, .int 68 0, .int 0 0, .ref 227, .int 70 0, .int 0 0, .ref 232, .int 72 0, .int 0 0, .ref 237, .int 82 0, .int 0 0, .ref 242, .int 84 0, .int 0 0, .ref 247, .int 86 0, .int 0 0, .ref 254, .int 97 0, .int 0 0, .ref 259, .int 110 0, .int 0 0, .ref 266, .int 115 0, .int 0 0, .ref 273, .int 120 0, .int 0 0, .ref 278, .int 126 0, .int 0 0, .ref 285, .int 133 0, .int 0 0, .ref 292, .int 139 0, .int 0 0, .ref 297, .int 141 0, .int 0 0, .ref 304, .int 149 0, .int 0 0, .ref 311, .int 154 0, .int 0 0, .ref 318, .int 156 0, .int 0 0, .ref 325, .int 162 0, .int 0 0, .ref 332, .int 169 0, .int 0 0, .ref 337, .int 176 0, .int 0 0, .ref 342, .int 178 0, .int 0 0, .ref 347, .int 184 0, .int 0 0, .ref 354, .int 191 0, .int 0 0, .ref 359, .int 200 0, .int 0 0, .ref 364, .int 204 0, .int 0 0, .ref 371, .int 206 0, .int 0 0, .ref 378, .int 210 0, .int 0 0, .ref 385, .int 217 0, .int 0 0, .ref 392, .int 226 0, .int 0 0, .ref 399, .int 231 0, .int 0 0, .ref 406, .int 233 0, .int 0 0, .ref 414, .int 235 0, .int 0 0, .ref 421, .int 237 0, .int 0 0, .ref 428, .int 239 0, .int 0 0, .ref 435, .int 251 0, .int 0 0, .ref 440, .int 254 0, .int 0 0, .ref 447, .int 258 0, .int 0 0, .ref 454, .int 268 0, .int 0 0, .ref 459, .int 270 0, .int 0 0, .ref 466, .int 272 0, .int 0 0, .ref 473, .int 274 0, .int 0 0, .ref 480, .int 276 0, .int 0 0, .ref 487, .int 284 0, .int 0 0, .ref 496, .int 290 0, .int 0 0, .ref 503, .int 298 0, .int 0 0, .ref 508, .int 317 0, .int 0 0, .ref 518, .int 319 0, .int 0 0, .ref 523, .int 321 0, .int 0 0, .ref 528, .int 323 0, .int 0 0, .ref 533, .int 327 0, .int 0 0, .ref 540, .int 331 0, .int 0 0, .ref 547, .int 335 0, .int 0 0, .ref 554, .int 347 0, .int 0 0, .ref 561, .int 379 0, .int 0 0, .ref 608]⟩), ⟨[]⟩⟩
noncomputable def o294_3 : Obj := ⟨.type "tuple", none, (.seq ⟨[]⟩ 0), ⟨[]⟩⟩
noncomputable def o295_3 : Obj := ⟨.none, none, (.fields ⟨[]⟩), ⟨[]⟩⟩
noncomputable def o296_3 : Obj := ⟨.none, none, (.func (fQ (topS 37) "raised_in" "raised_in" 0 [] (.none) (.none) (.none) (.none) none (.none) (.none) 0)), ⟨[]⟩⟩
noncomputable def o297_3 : Obj := ⟨.type "code", none, (.fields ⟨[.str "raised_in" 717, .str "raised_in" 718, .str "/claim/cut.py" 719, .int 139 0, .int 3 0, .int 0 0, .int 0 0, .int 3 0, .ref 294, .bool true, .int 374 0, .ref 295, .none, .none, .none, .ref 296, .int 720 0, .int 139 0, .str "/claim/cut.py" 721]⟩), ⟨[]⟩⟩
noncomputable def o298_3 : Obj := ⟨.type "function", none, (.func (fQ (topS 37) "raised_in" "raised_in" 3 [] (.none) (.none) (.none) (.str "frametongue.commonwork" 701) none (.ref 297) (.none) 0)), ⟨[]⟩⟩
noncomputable def o299_3 : Obj := ⟨.type "tuple", none, (.seq ⟨[]⟩ 0), ⟨[]⟩⟩
noncomputable def o300_3 : Obj := ⟨.none, none, (.fields ⟨[]⟩), ⟨[]⟩⟩
noncomputable def o301_3 : Obj := ⟨.type "tuple", none, (.seq ⟨[.str "one" 726, .str "other" 727, .str "at" 728, .str "rest" 729, .str "degree" 730, .str "first" 731, .str "here" 732, .str "told" 733]⟩ 0), ⟨[]⟩⟩
noncomputable def o302_3 : Obj := ⟨.type "tuple", none, (.seq ⟨[]⟩ 0), ⟨[]⟩⟩
noncomputable def o303_3 : Obj := ⟨.none, none, (.func (fQ (topS 38) "remainder_in" "remainder_in" 0 [] (.none) (.none) (.none) (.none) none (.none) (.none) 0)), ⟨[]⟩⟩
noncomputable def o304_3 : Obj := ⟨.type "code", none, (.fields ⟨[.str "remainder_in" 723, .str "remainder_in" 724, .str "/claim/cut.py" 725, .int 141 0, .int 3 0, .int 0 0, .int 0 0, .int 3 0, .ref 299, .bool true, .int 374 0, .ref 300, .none, .ref 301, .ref 302, .ref 303, .int 734 0, .int 141 0, .str "/claim/cut.py" 735]⟩), ⟨[]⟩⟩
noncomputable def o305_3 : Obj := ⟨.type "function", none, (.func (fQ (topS 38) "remainder_in" "remainder_in" 3 [] (.none) (.none) (.none) (.str "frametongue.commonwork" 701) none (.ref 304) (.none) 0)), ⟨[]⟩⟩
noncomputable def o306_3 : Obj := ⟨.type "tuple", none, (.seq ⟨[]⟩ 0), ⟨[]⟩⟩
noncomputable def o307_3 : Obj := ⟨.none, none, (.fields ⟨[]⟩), ⟨[]⟩⟩
noncomputable def o308_3 : Obj := ⟨.type "tuple", none, (.seq ⟨[.str "sums" 740, .str "found" 741, .str "own" 742]⟩ 0), ⟨[]⟩⟩
noncomputable def o309_3 : Obj := ⟨.type "tuple", none, (.seq ⟨[]⟩ 0), ⟨[]⟩⟩
noncomputable def o310_3 : Obj := ⟨.none, none, (.func (fQ (topS 39) "common_of_all" "common_of_all" 0 [] (.none) (.none) (.none) (.none) none (.none) (.none) 0)), ⟨[]⟩⟩
noncomputable def o311_3 : Obj := ⟨.type "code", none, (.fields ⟨[.str "common_of_all" 737, .str "common_of_all" 738, .str "/claim/cut.py" 739, .int 149 0, .int 1 0, .int 0 0, .int 0 0, .int 3 0, .ref 306, .bool true, .int 374 0, .ref 307, .none, .ref 308, .ref 309, .ref 310, .int 743 0, .int 149 0, .str "/claim/cut.py" 744]⟩), ⟨[]⟩⟩
noncomputable def o312_3 : Obj := ⟨.type "function", none, (.func (fQ (topS 39) "common_of_all" "common_of_all" 3 [] (.none) (.none) (.none) (.str "frametongue.commonwork" 701) none (.ref 311) (.none) 0)), ⟨[]⟩⟩
noncomputable def o313_3 : Obj := ⟨.type "tuple", none, (.seq ⟨[]⟩ 0), ⟨[]⟩⟩
noncomputable def o314_3 : Obj := ⟨.none, none, (.fields ⟨[]⟩), ⟨[]⟩⟩
noncomputable def o315_3 : Obj := ⟨.type "tuple", none, (.seq ⟨[.str "own" 749, .str "at" 750]⟩ 0), ⟨[]⟩⟩
noncomputable def o316_3 : Obj := ⟨.type "tuple", none, (.seq ⟨[]⟩ 0), ⟨[]⟩⟩
noncomputable def o317_3 : Obj := ⟨.none, none, (.func (fQ (topS 40) "without_share" "without_share" 0 [] (.none) (.none) (.none) (.none) none (.none) (.none) 0)), ⟨[]⟩⟩
noncomputable def o318_3 : Obj := ⟨.type "code", none, (.fields ⟨[.str "without_share" 746, .str "without_share" 747, .str "/claim/cut.py" 748, .int 154 0, .int 2 0, .int 0 0, .int 0 0, .int 3 0, .ref 313, .bool true, .int 374 0, .ref 314, .none, .ref 315, .ref 316, .ref 317, .int 751 0, .int 154 0, .str "/claim/cut.py" 752]⟩), ⟨[]⟩⟩
noncomputable def o319_3 : Obj := ⟨.type "function", none, (.func (fQ (topS 40) "without_share" "without_share" 3 [] (.none) (.none) (.none) (.str "frametongue.commonwork" 701) none (.ref 318) (.none) 0)), ⟨[]⟩⟩
noncomputable def o320_3 : Obj := ⟨.type "tuple", none, (.seq ⟨[]⟩ 0), ⟨[]⟩⟩
noncomputable def o321_3 : Obj := ⟨.none, none, (.fields ⟨[]⟩), ⟨[]⟩⟩
noncomputable def o322_3 : Obj := ⟨.type "tuple", none, (.seq ⟨[.str "one" 757, .str "other" 758, .str "at" 759, .str "ahead" 760, .str "later" 761, .str "rest" 762]⟩ 0), ⟨[]⟩⟩
noncomputable def o323_3 : Obj := ⟨.type "tuple", none, (.seq ⟨[]⟩ 0), ⟨[]⟩⟩
noncomputable def o324_3 : Obj := ⟨.none, none, (.func (fQ (topS 41) "common_in" "common_in" 0 [] (.none) (.none) (.none) (.none) none (.none) (.none) 0)), ⟨[]⟩⟩
noncomputable def o325_3 : Obj := ⟨.type "code", none, (.fields ⟨[.str "common_in" 754, .str "common_in" 755, .str "/claim/cut.py" 756, .int 156 0, .int 3 0, .int 0 0, .int 0 0, .int 3 0, .ref 320, .bool true, .int 374 0, .ref 321, .none, .ref 322, .ref 323, .ref 324, .int 763 0, .int 156 0, .str "/claim/cut.py" 764]⟩), ⟨[]⟩⟩
noncomputable def o326_3 : Obj := ⟨.type "function", none, (.func (fQ (topS 41) "common_in" "common_in" 3 [] (.none) (.none) (.none) (.str "frametongue.commonwork" 701) none (.ref 325) (.none) 0)), ⟨[]⟩⟩
noncomputable def o327_3 : Obj := ⟨.type "tuple", none, (.seq ⟨[]⟩ 0), ⟨[]⟩⟩
noncomputable def o328_3 : Obj := ⟨.none, none, (.fields ⟨[]⟩), ⟨[]⟩⟩
noncomputable def o329_3 : Obj := ⟨.type "tuple", none, (.seq ⟨[.str "one" 769, .str "other" 770, .str "found" 771, .str "at" 772]⟩ 0), ⟨[]⟩⟩
noncomputable def o330_3 : Obj := ⟨.type "tuple", none, (.seq ⟨[]⟩ 0), ⟨[]⟩⟩
noncomputable def o331_3 : Obj := ⟨.none, none, (.func (fQ (topS 42) "open_unknowns" "open_unknowns" 0 [] (.none) (.none) (.none) (.none) none (.none) (.none) 0)), ⟨[]⟩⟩
noncomputable def o332_3 : Obj := ⟨.type "code", none, (.fields ⟨[.str "open_unknowns" 766, .str "open_unknowns" 767, .str "/claim/cut.py" 768, .int 162 0, .int 2 0, .int 0 0, .int 0 0, .int 3 0, .ref 327, .bool true, .int 374 0, .ref 328, .none, .ref 329, .ref 330, .ref 331, .int 773 0, .int 162 0, .str "/claim/cut.py" 774]⟩), ⟨[]⟩⟩
noncomputable def o333_3 : Obj := ⟨.type "function", none, (.func (fQ (topS 42) "open_unknowns" "open_unknowns" 3 [] (.none) (.none) (.none) (.str "frametongue.commonwork" 701) none (.ref 332) (.none) 0)), ⟨[]⟩⟩
noncomputable def o334_3 : Obj := ⟨.type "tuple", none, (.seq ⟨[]⟩ 0), ⟨[]⟩⟩
noncomputable def o335_3 : Obj := ⟨.none, none, (.fields ⟨[]⟩), ⟨[]⟩⟩
noncomputable def o336_3 : Obj := ⟨.none, none, (.func (fQ (topS 43) "parts_by" "parts_by" 0 [] (.none) (.none) (.none) (.none) none (.none) (.none) 0)), ⟨[]⟩⟩
noncomputable def o337_3 : Obj := ⟨.type "code", none, (.fields ⟨[.str "parts_by" 776, .str "parts_by" 777, .str "/claim/cut.py" 778, .int 169 0, .int 2 0, .int 0 0, .int 0 0, .int 3 0, .ref 334, .bool true, .int 374 0, .ref 335, .none, .none, .none, .ref 336, .int 779 0, .int 169 0, .str "/claim/cut.py" 780]⟩), ⟨[]⟩⟩
noncomputable def o338_3 : Obj := ⟨.type "function", none, (.func (fQ (topS 43) "parts_by" "parts_by" 3 [] (.none) (.none) (.none) (.str "frametongue.commonwork" 701) none (.ref 337) (.none) 0)), ⟨[]⟩⟩
noncomputable def o339_3 : Obj := ⟨.type "tuple", none, (.seq ⟨[]⟩ 0), ⟨[]⟩⟩
noncomputable def o340_3 : Obj := ⟨.none, none, (.fields ⟨[]⟩), ⟨[]⟩⟩
noncomputable def o341_3 : Obj := ⟨.none, none, (.func (fQ (topS 44) "standing_in" "standing_in" 0 [] (.none) (.none) (.none) (.none) none (.none) (.none) 0)), ⟨[]⟩⟩
noncomputable def o342_3 : Obj := ⟨.type "code", none, (.fields ⟨[.str "standing_in" 782, .str "standing_in" 783, .str "/claim/cut.py" 784, .int 176 0, .int 1 0, .int 0 0, .int 0 0, .int 3 0, .ref 339, .bool true, .int 374 0, .ref 340, .none, .none, .none, .ref 341, .int 785 0, .int 176 0, .str "/claim/cut.py" 786]⟩), ⟨[]⟩⟩
noncomputable def o343_3 : Obj := ⟨.type "function", none, (.func (fQ (topS 44) "standing_in" "standing_in" 3 [] (.none) (.none) (.none) (.str "frametongue.commonwork" 701) none (.ref 342) (.none) 0)), ⟨[]⟩⟩
noncomputable def o344_3 : Obj := ⟨.type "tuple", none, (.seq ⟨[]⟩ 0), ⟨[]⟩⟩
noncomputable def o345_3 : Obj := ⟨.none, none, (.fields ⟨[]⟩), ⟨[]⟩⟩
noncomputable def o346_3 : Obj := ⟨.none, none, (.func (fQ (topS 45) "common_by_remainders" "common_by_remainders" 0 [] (.none) (.none) (.none) (.none) none (.none) (.none) 0)), ⟨[]⟩⟩
noncomputable def o347_3 : Obj := ⟨.type "code", none, (.fields ⟨[.str "common_by_remainders" 788, .str "common_by_remainders" 789, .str "/claim/cut.py" 790, .int 178 0, .int 3 0, .int 0 0, .int 0 0, .int 3 0, .ref 344, .bool true, .int 374 0, .ref 345, .none, .none, .none, .ref 346, .int 791 0, .int 178 0, .str "/claim/cut.py" 792]⟩), ⟨[]⟩⟩
noncomputable def o348_3 : Obj := ⟨.type "function", none, (.func (fQ (topS 45) "common_by_remainders" "common_by_remainders" 3 [] (.none) (.none) (.none) (.str "frametongue.commonwork" 701) none (.ref 347) (.none) 0)), ⟨[]⟩⟩
noncomputable def o349_3 : Obj := ⟨.type "tuple", none, (.seq ⟨[]⟩ 0), ⟨[]⟩⟩
noncomputable def o350_3 : Obj := ⟨.none, none, (.fields ⟨[]⟩), ⟨[]⟩⟩
noncomputable def o351_3 : Obj := ⟨.type "tuple", none, (.seq ⟨[.str "one" 797, .str "other" 798, .str "unknowns" 799]⟩ 0), ⟨[]⟩⟩
noncomputable def o352_3 : Obj := ⟨.type "tuple", none, (.seq ⟨[]⟩ 0), ⟨[]⟩⟩
noncomputable def o353_3 : Obj := ⟨.none, none, (.func (fQ (topS 46) "plain_common" "plain_common" 0 [] (.none) (.none) (.none) (.none) none (.none) (.none) 0)), ⟨[]⟩⟩
noncomputable def o354_3 : Obj := ⟨.type "code", none, (.fields ⟨[.str "plain_common" 794, .str "plain_common" 795, .str "/claim/cut.py" 796, .int 184 0, .int 2 0, .int 0 0, .int 0 0, .int 3 0, .ref 349, .bool true, .int 374 0, .ref 350, .none, .ref 351, .ref 352, .ref 353, .int 800 0, .int 184 0, .str "/claim/cut.py" 801]⟩), ⟨[]⟩⟩
noncomputable def o355_3 : Obj := ⟨.type "function", none, (.func (fQ (topS 46) "plain_common" "plain_common" 3 [] (.none) (.none) (.none) (.str "frametongue.commonwork" 701) none (.ref 354) (.none) 0)), ⟨[]⟩⟩
noncomputable def o356_3 : Obj := ⟨.type "tuple", none, (.seq ⟨[]⟩ 0), ⟨[]⟩⟩
noncomputable def o357_3 : Obj := ⟨.none, none, (.fields ⟨[]⟩), ⟨[]⟩⟩
noncomputable def o358_3 : Obj := ⟨.none, none, (.func (fQ (topS 47) "common_of" "common_of" 0 [] (.none) (.none) (.none) (.none) none (.none) (.none) 0)), ⟨[]⟩⟩
noncomputable def o359_3 : Obj := ⟨.type "code", none, (.fields ⟨[.str "common_of" 803, .str "common_of" 804, .str "/claim/cut.py" 805, .int 191 0, .int 2 0, .int 0 0, .int 0 0, .int 3 0, .ref 356, .bool true, .int 374 0, .ref 357, .none, .none, .none, .ref 358, .int 806 0, .int 191 0, .str "/claim/cut.py" 807]⟩), ⟨[]⟩⟩
noncomputable def o360_3 : Obj := ⟨.type "function", none, (.func (fQ (topS 47) "common_of" "common_of" 3 [] (.none) (.none) (.none) (.str "frametongue.commonwork" 701) none (.ref 359) (.none) 0)), ⟨[]⟩⟩
noncomputable def o361_3 : Obj := ⟨.type "tuple", none, (.seq ⟨[]⟩ 0), ⟨[]⟩⟩
noncomputable def o362_3 : Obj := ⟨.none, none, (.fields ⟨[]⟩), ⟨[]⟩⟩
noncomputable def o363_3 : Obj := ⟨.none, none, (.func (fQ (topS 48) "plain_of" "plain_of" 0 [] (.none) (.none) (.none) (.none) none (.none) (.none) 0)), ⟨[]⟩⟩
noncomputable def o364_3 : Obj := ⟨.type "code", none, (.fields ⟨[.str "plain_of" 809, .str "plain_of" 810, .str "/claim/cut.py" 811, .int 200 0, .int 2 0, .int 0 0, .int 0 0, .int 3 0, .ref 361, .bool true, .int 374 0, .ref 362, .none, .none, .none, .ref 363, .int 812 0, .int 200 0, .str "/claim/cut.py" 813]⟩), ⟨[]⟩⟩
noncomputable def o365_3 : Obj := ⟨.type "function", none, (.func (fQ (topS 48) "plain_of" "plain_of" 3 [] (.none) (.none) (.none) (.str "frametongue.commonwork" 701) none (.ref 364) (.none) 0)), ⟨[]⟩⟩
noncomputable def o366_3 : Obj := ⟨.type "tuple", none, (.seq ⟨[]⟩ 0), ⟨[]⟩⟩
noncomputable def o367_3 : Obj := ⟨.none, none, (.fields ⟨[]⟩), ⟨[]⟩⟩
noncomputable def o368_3 : Obj := ⟨.type "tuple", none, (.seq ⟨[.str "own" 820, .str "common" 821]⟩ 0), ⟨[]⟩⟩
noncomputable def o369_3 : Obj := ⟨.type "tuple", none, (.seq ⟨[]⟩ 0), ⟨[]⟩⟩
noncomputable def o370_3 : Obj := ⟨.none, none, (.func (fQ (topS 50) "without" "without" 0 [] (.none) (.none) (.none) (.none) none (.none) (.none) 0)), ⟨[]⟩⟩
noncomputable def o371_3 : Obj := ⟨.type "code", none, (.fields ⟨[.str "without" 817, .str "without" 818, .str "/claim/cut.py" 819, .int 204 0, .int 2 0, .int 0 0, .int 0 0, .int 3 0, .ref 366, .bool true, .int 374 0, .ref 367, .none, .ref 368, .ref 369, .ref 370, .int 822 0, .int 204 0, .str "/claim/cut.py" 823]⟩), ⟨[]⟩⟩
noncomputable def o372_3 : Obj := ⟨.type "function", none, (.func (fQ (topS 50) "without" "without" 3 [] (.none) (.none) (.none) (.str "frametongue.lowestwork" 815) none (.ref 371) (.none) 0)), ⟨[]⟩⟩
noncomputable def o373_3 : Obj := ⟨.type "tuple", none, (.seq ⟨[]⟩ 0), ⟨[]⟩⟩
noncomputable def o374_3 : Obj := ⟨.none, none, (.fields ⟨[]⟩), ⟨[]⟩⟩
noncomputable def o375_3 : Obj := ⟨.type "tuple", none, (.seq ⟨[.str "up" 828, .str "down" 829]⟩ 0), ⟨[]⟩⟩
noncomputable def o376_3 : Obj := ⟨.type "tuple", none, (.seq ⟨[]⟩ 0), ⟨[]⟩⟩
noncomputable def o377_3 : Obj := ⟨.none, none, (.func (fQ (topS 51) "turned_up" "turned_up" 0 [] (.none) (.none) (.none) (.none) none (.none) (.none) 0)), ⟨[]⟩⟩
noncomputable def o378_3 : Obj := ⟨.type "code", none, (.fields ⟨[.str "turned_up" 825, .str "turned_up" 826, .str "/claim/cut.py" 827, .int 206 0, .int 2 0, .int 0 0, .int 0 0, .int 3 0, .ref 373, .bool true, .int 374 0, .ref 374, .none, .ref 375, .ref 376, .ref 377, .int 830 0, .int 206 0, .str "/claim/cut.py" 831]⟩), ⟨[]⟩⟩
noncomputable def o379_3 : Obj := ⟨.type "function", none, (.func (fQ (topS 51) "turned_up" "turned_up" 3 [] (.none) (.none) (.none) (.str "frametongue.lowestwork" 815) none (.ref 378) (.none) 0)), ⟨[]⟩⟩
noncomputable def o380_3 : Obj := ⟨.type "tuple", none, (.seq ⟨[]⟩ 0), ⟨[]⟩⟩
noncomputable def o381_3 : Obj := ⟨.none, none, (.fields ⟨[]⟩), ⟨[]⟩⟩
noncomputable def o382_3 : Obj := ⟨.type "tuple", none, (.seq ⟨[.str "one" 836, .str "other" 837, .str "a" 838, .str "b" 839, .str "c" 840, .str "d" 841, .str "first" 842, .str "second" 843, .str "up" 844]⟩ 0), ⟨[]⟩⟩
noncomputable def o383_3 : Obj := ⟨.type "tuple", none, (.seq ⟨[]⟩ 0), ⟨[]⟩⟩
noncomputable def o384_3 : Obj := ⟨.none, none, (.func (fQ (topS 52) "times_lowest" "times_lowest" 0 [] (.none) (.none) (.none) (.none) none (.none) (.none) 0)), ⟨[]⟩⟩
noncomputable def o385_3 : Obj := ⟨.type "code", none, (.fields ⟨[.str "times_lowest" 833, .str "times_lowest" 834, .str "/claim/cut.py" 835, .int 210 0, .int 2 0, .int 0 0, .int 0 0, .int 3 0, .ref 380, .bool true, .int 374 0, .ref 381, .none, .ref 382, .ref 383, .ref 384, .int 845 0, .int 210 0, .str "/claim/cut.py" 846]⟩), ⟨[]⟩⟩
noncomputable def o386_3 : Obj := ⟨.type "function", none, (.func (fQ (topS 52) "times_lowest" "times_lowest" 3 [] (.none) (.none) (.none) (.str "frametongue.lowestwork" 815) none (.ref 385) (.none) 0)), ⟨[]⟩⟩
noncomputable def o387_3 : Obj := ⟨.type "tuple", none, (.seq ⟨[]⟩ 0), ⟨[]⟩⟩
noncomputable def o388_3 : Obj := ⟨.none, none, (.fields ⟨[]⟩), ⟨[]⟩⟩
noncomputable def o389_3 : Obj := ⟨.type "tuple", none, (.seq ⟨[.str "word" 851, .str "one" 852, .str "other" 853, .str "a" 854, .str "b" 855, .str "c" 856, .str "d" 857, .str "shared" 858, .str "left" 859, .str "right" 860, .str "up" 861, .str "common" 862]⟩ 0), ⟨[]⟩⟩
noncomputable def o390_3 : Obj := ⟨.type "tuple", none, (.seq ⟨[]⟩ 0), ⟨[]⟩⟩
noncomputable def o391_3 : Obj := ⟨.none, none, (.func (fQ (topS 53) "joined_lowest" "joined_lowest" 0 [] (.none) (.none) (.none) (.none) none (.none) (.none) 0)), ⟨[]⟩⟩
noncomputable def o392_3 : Obj := ⟨.type "code", none, (.fields ⟨[.str "joined_lowest" 848, .str "joined_lowest" 849, .str "/claim/cut.py" 850, .int 217 0, .int 3 0, .int 0 0, .int 0 0, .int 3 0, .ref 387, .bool true, .int 374 0, .ref 388, .none, .ref 389, .ref 390, .ref 391, .int 863 0, .int 217 0, .str "/claim/cut.py" 864]⟩), ⟨[]⟩⟩
noncomputable def o393_3 : Obj := ⟨.type "function", none, (.func (fQ (topS 53) "joined_lowest" "joined_lowest" 3 [] (.none) (.none) (.none) (.str "frametongue.lowestwork" 815) none (.ref 392) (.none) 0)), ⟨[]⟩⟩
noncomputable def o394_3 : Obj := ⟨.type "tuple", none, (.seq ⟨[]⟩ 0), ⟨[]⟩⟩
noncomputable def o395_3 : Obj := ⟨.none, none, (.fields ⟨[]⟩), ⟨[]⟩⟩
noncomputable def o396_3 : Obj := ⟨.type "tuple", none, (.seq ⟨[.str "word" 869, .str "one" 870, .str "other" 871]⟩ 0), ⟨[]⟩⟩
noncomputable def o397_3 : Obj := ⟨.type "tuple", none, (.seq ⟨[]⟩ 0), ⟨[]⟩⟩
noncomputable def o398_3 : Obj := ⟨.none, none, (.func (fQ (topS 54) "lowest_with" "lowest_with" 0 [] (.none) (.none) (.none) (.none) none (.none) (.none) 0)), ⟨[]⟩⟩
noncomputable def o399_3 : Obj := ⟨.type "code", none, (.fields ⟨[.str "lowest_with" 866, .str "lowest_with" 867, .str "/claim/cut.py" 868, .int 226 0, .int 3 0, .int 0 0, .int 0 0, .int 3 0, .ref 394, .bool true, .int 374 0, .ref 395, .none, .ref 396, .ref 397, .ref 398, .int 872 0, .int 226 0, .str "/claim/cut.py" 873]⟩), ⟨[]⟩⟩
noncomputable def o400_3 : Obj := ⟨.type "function", none, (.func (fQ (topS 54) "lowest_with" "lowest_with" 3 [] (.none) (.none) (.none) (.str "frametongue.lowestwork" 815) none (.ref 399) (.none) 0)), ⟨[]⟩⟩
noncomputable def o401_3 : Obj := ⟨.type "tuple", none, (.seq ⟨[]⟩ 0), ⟨[]⟩⟩
noncomputable def o402_3 : Obj := ⟨.none, none, (.fields ⟨[]⟩), ⟨[]⟩⟩
noncomputable def o403_3 : Obj := ⟨.type "tuple", none, (.seq ⟨[.str "value" 880]⟩ 0), ⟨[]⟩⟩
noncomputable def o404_3 : Obj := ⟨.type "tuple", none, (.seq ⟨[]⟩ 0), ⟨[]⟩⟩
noncomputable def o405_3 : Obj := ⟨.none, none, (.func (fQ (topS 56) "is_whole" "is_whole" 0 [] (.none) (.none) (.none) (.none) none (.none) (.none) 0)), ⟨[]⟩⟩
noncomputable def o406_3 : Obj := ⟨.type "code", none, (.fields ⟨[.str "is_whole" 877, .str "is_whole" 878, .str "/claim/cut.py" 879, .int 231 0, .int 1 0, .int 0 0, .int 0 0, .int 3 0, .ref 401, .bool true, .int 374 0, .ref 402, .none, .ref 403, .ref 404, .ref 405, .int 881 0, .int 231 0, .str "/claim/cut.py" 882]⟩), ⟨[]⟩⟩
noncomputable def o407_3 : Obj := ⟨.type "function", none, (.func (fQ (topS 56) "is_whole" "is_whole" 3 [] (.none) (.none) (.none) (.str "frametongue.values" 875) none (.ref 406) (.none) 0)), ⟨[]⟩⟩
noncomputable def o408_3 : Obj := ⟨.type "tuple", none, (.seq ⟨[.int 0 884, .none]⟩ 0), ⟨[]⟩⟩
noncomputable def o409_3 : Obj := ⟨.type "tuple", none, (.seq ⟨[]⟩ 0), ⟨[]⟩⟩
noncomputable def o410_3 : Obj := ⟨.none, none, (.fields ⟨[]⟩), ⟨[]⟩⟩
noncomputable def o411_3 : Obj := ⟨.type "tuple", none, (.seq ⟨[.str "value" 888, .str "low" 889, .str "high" 890]⟩ 0), ⟨[]⟩⟩
noncomputable def o412_3 : Obj := ⟨.type "tuple", none, (.seq ⟨[]⟩ 0), ⟨[]⟩⟩
noncomputable def o413_3 : Obj := ⟨.none, none, (.func (fQ (topS 57) "is_number" "is_number" 0 [] (.none) (.none) (.none) (.none) none (.none) (.none) 0)), ⟨[]⟩⟩
noncomputable def o414_3 : Obj := ⟨.type "code", none, (.fields ⟨[.str "is_number" 885, .str "is_number" 886, .str "/claim/cut.py" 887, .int 233 0, .int 3 0, .int 0 0, .int 0 0, .int 3 0, .ref 409, .bool true, .int 374 0, .ref 410, .none, .ref 411, .ref 412, .ref 413, .int 891 0, .int 233 0, .str "/claim/cut.py" 892]⟩), ⟨[]⟩⟩
noncomputable def o415_3 : Obj := ⟨.type "function", none, (.func (fQ (topS 57) "is_number" "is_number" 3 [] (.ref 408) (.none) (.none) (.str "frametongue.values" 875) none (.ref 414) (.none) 0)), ⟨[]⟩⟩
noncomputable def o416_3 : Obj := ⟨.type "tuple", none, (.seq ⟨[]⟩ 0), ⟨[]⟩⟩
noncomputable def o417_3 : Obj := ⟨.none, none, (.fields ⟨[]⟩), ⟨[]⟩⟩
noncomputable def o418_3 : Obj := ⟨.type "tuple", none, (.seq ⟨[.str "value" 897]⟩ 0), ⟨[]⟩⟩
noncomputable def o419_3 : Obj := ⟨.type "tuple", none, (.seq ⟨[]⟩ 0), ⟨[]⟩⟩
noncomputable def o420_3 : Obj := ⟨.none, none, (.func (fQ (topS 58) "is_string" "is_string" 0 [] (.none) (.none) (.none) (.none) none (.none) (.none) 0)), ⟨[]⟩⟩
noncomputable def o421_3 : Obj := ⟨.type "code", none, (.fields ⟨[.str "is_string" 894, .str "is_string" 895, .str "/claim/cut.py" 896, .int 235 0, .int 1 0, .int 0 0, .int 0 0, .int 3 0, .ref 416, .bool true, .int 374 0, .ref 417, .none, .ref 418, .ref 419, .ref 420, .int 898 0, .int 235 0, .str "/claim/cut.py" 899]⟩), ⟨[]⟩⟩
noncomputable def o422_3 : Obj := ⟨.type "function", none, (.func (fQ (topS 58) "is_string" "is_string" 3 [] (.none) (.none) (.none) (.str "frametongue.values" 875) none (.ref 421) (.none) 0)), ⟨[]⟩⟩
noncomputable def o423_3 : Obj := ⟨.type "tuple", none, (.seq ⟨[]⟩ 0), ⟨[]⟩⟩
noncomputable def o424_3 : Obj := ⟨.none, none, (.fields ⟨[]⟩), ⟨[]⟩⟩
noncomputable def o425_3 : Obj := ⟨.type "tuple", none, (.seq ⟨[.str "value" 904, .str "least" 905, .str "most" 906]⟩ 0), ⟨[]⟩⟩
noncomputable def o426_3 : Obj := ⟨.type "tuple", none, (.seq ⟨[]⟩ 0), ⟨[]⟩⟩
noncomputable def o427_3 : Obj := ⟨.none, none, (.func (fQ (topS 59) "is_row" "is_row" 0 [] (.none) (.none) (.none) (.none) none (.none) (.none) 0)), ⟨[]⟩⟩
noncomputable def o428_3 : Obj := ⟨.type "code", none, (.fields ⟨[.str "is_row" 901, .str "is_row" 902, .str "/claim/cut.py" 903, .int 237 0, .int 3 0, .int 0 0, .int 0 0, .int 3 0, .ref 423, .bool true, .int 374 0, .ref 424, .none, .ref 425, .ref 426, .ref 427, .int 907 0, .int 237 0, .str "/claim/cut.py" 908]⟩), ⟨[]⟩⟩
noncomputable def o429_3 : Obj := ⟨.type "function", none, (.func (fQ (topS 59) "is_row" "is_row" 3 [] (.none) (.none) (.none) (.str "frametongue.values" 875) none (.ref 428) (.none) 0)), ⟨[]⟩⟩
noncomputable def o430_3 : Obj := ⟨.type "tuple", none, (.seq ⟨[]⟩ 0), ⟨[]⟩⟩
noncomputable def o431_3 : Obj := ⟨.none, none, (.fields ⟨[]⟩), ⟨[]⟩⟩
noncomputable def o432_3 : Obj := ⟨.type "tuple", none, (.seq ⟨[.str "value" 913, .str "is_right" 914, .str "index" 915, .str "each" 916]⟩ 0), ⟨[]⟩⟩
noncomputable def o433_3 : Obj := ⟨.type "tuple", none, (.seq ⟨[]⟩ 0), ⟨[]⟩⟩
noncomputable def o434_3 : Obj := ⟨.none, none, (.func (fQ (topS 60) "first_wrong" "first_wrong" 0 [] (.none) (.none) (.none) (.none) none (.none) (.none) 0)), ⟨[]⟩⟩
noncomputable def o435_3 : Obj := ⟨.type "code", none, (.fields ⟨[.str "first_wrong" 910, .str "first_wrong" 911, .str "/claim/cut.py" 912, .int 239 0, .int 2 0, .int 0 0, .int 0 0, .int 3 0, .ref 430, .bool true, .int 374 0, .ref 431, .none, .ref 432, .ref 433, .ref 434, .int 917 0, .int 239 0, .str "/claim/cut.py" 918]⟩), ⟨[]⟩⟩
noncomputable def o436_3 : Obj := ⟨.type "function", none, (.func (fQ (topS 60) "first_wrong" "first_wrong" 3 [] (.none) (.none) (.none) (.str "frametongue.values" 875) none (.ref 435) (.none) 0)), ⟨[]⟩⟩
noncomputable def o437_3 : Obj := ⟨.type "tuple", none, (.seq ⟨[]⟩ 0), ⟨[]⟩⟩
noncomputable def o438_3 : Obj := ⟨.none, none, (.fields ⟨[]⟩), ⟨[]⟩⟩
noncomputable def o439_3 : Obj := ⟨.none, none, (.func (fQ (topS 68) "wrong_sign" "wrong_sign" 0 [] (.none) (.none) (.none) (.none) none (.none) (.none) 0)), ⟨[]⟩⟩
noncomputable def o440_3 : Obj := ⟨.type "code", none, (.fields ⟨[.str "wrong_sign" 934, .str "wrong_sign" 935, .str "/claim/cut.py" 936, .int 251 0, .int 1 0, .int 0 0, .int 0 0, .int 3 0, .ref 437, .bool true, .int 374 0, .ref 438, .none, .none, .none, .ref 439, .int 937 0, .int 251 0, .str "/claim/cut.py" 938]⟩), ⟨[]⟩⟩
noncomputable def o441_3 : Obj := ⟨.type "function", none, (.func (fQ (topS 68) "wrong_sign" "wrong_sign" 3 [] (.none) (.none) (.none) (.str "frametongue.words" 920) none (.ref 440) (.none) 0)), ⟨[]⟩⟩
noncomputable def o442_3 : Obj := ⟨.type "tuple", none, (.seq ⟨[]⟩ 0), ⟨[]⟩⟩
noncomputable def o443_3 : Obj := ⟨.none, none, (.fields ⟨[]⟩), ⟨[]⟩⟩
noncomputable def o444_3 : Obj := ⟨.type "tuple", none, (.seq ⟨[.str "sign" 943]⟩ 0), ⟨[]⟩⟩
noncomputable def o445_3 : Obj := ⟨.type "tuple", none, (.seq ⟨[]⟩ 0), ⟨[]⟩⟩
noncomputable def o446_3 : Obj := ⟨.none, none, (.func (fQ (topS 69) "sort_of" "sort_of" 0 [] (.none) (.none) (.none) (.none) none (.none) (.none) 0)), ⟨[]⟩⟩
noncomputable def o447_3 : Obj := ⟨.type "code", none, (.fields ⟨[.str "sort_of" 940, .str "sort_of" 941, .str "/claim/cut.py" 942, .int 254 0, .int 1 0, .int 0 0, .int 0 0, .int 3 0, .ref 442, .bool true, .int 374 0, .ref 443, .none, .ref 444, .ref 445, .ref 446, .int 944 0, .int 254 0, .str "/claim/cut.py" 945]⟩), ⟨[]⟩⟩
noncomputable def o448_3 : Obj := ⟨.type "function", none, (.func (fQ (topS 69) "sort_of" "sort_of" 3 [] (.none) (.none) (.none) (.str "frametongue.words" 920) none (.ref 447) (.none) 0)), ⟨[]⟩⟩
noncomputable def o449_3 : Obj := ⟨.type "tuple", none, (.seq ⟨[]⟩ 0), ⟨[]⟩⟩
noncomputable def o450_3 : Obj := ⟨.none, none, (.fields ⟨[]⟩), ⟨[]⟩⟩
noncomputable def o451_3 : Obj := ⟨.type "tuple", none, (.seq ⟨[.str "row" 950, .str "found" 951, .str "at" 952, .str "begin" 953, .str "sort" 954]⟩ 0), ⟨[]⟩⟩
noncomputable def o452_3 : Obj := ⟨.type "tuple", none, (.seq ⟨[]⟩ 0), ⟨[]⟩⟩
noncomputable def o453_3 : Obj := ⟨.none, none, (.func (fQ (topS 70) "row_words" "row_words" 0 [] (.none) (.none) (.none) (.none) none (.none) (.none) 0)), ⟨[]⟩⟩
noncomputable def o454_3 : Obj := ⟨.type "code", none, (.fields ⟨[.str "row_words" 947, .str "row_words" 948, .str "/claim/cut.py" 949, .int 258 0, .int 1 0, .int 0 0, .int 0 0, .int 3 0, .ref 449, .bool true, .int 374 0, .ref 450, .none, .ref 451, .ref 452, .ref 453, .int 955 0, .int 258 0, .str "/claim/cut.py" 956]⟩), ⟨[]⟩⟩
noncomputable def o455_3 : Obj := ⟨.type "function", none, (.func (fQ (topS 70) "row_words" "row_words" 3 [] (.none) (.none) (.none) (.str "frametongue.words" 920) none (.ref 454) (.none) 0)), ⟨[]⟩⟩
noncomputable def o456_3 : Obj := ⟨.type "tuple", none, (.seq ⟨[]⟩ 0), ⟨[]⟩⟩
noncomputable def o457_3 : Obj := ⟨.none, none, (.fields ⟨[]⟩), ⟨[]⟩⟩
noncomputable def o458_3 : Obj := ⟨.none, none, (.func (fQ (topS 71) "is_run_of" "is_run_of" 0 [] (.none) (.none) (.none) (.none) none (.none) (.none) 0)), ⟨[]⟩⟩
noncomputable def o459_3 : Obj := ⟨.type "code", none, (.fields ⟨[.str "is_run_of" 958, .str "is_run_of" 959, .str "/claim/cut.py" 960, .int 268 0, .int 2 0, .int 0 0, .int 0 0, .int 3 0, .ref 456, .bool true, .int 374 0, .ref 457, .none, .none, .none, .ref 458, .int 961 0, .int 268 0, .str "/claim/cut.py" 962]⟩), ⟨[]⟩⟩
noncomputable def o460_3 : Obj := ⟨.type "function", none, (.func (fQ (topS 71) "is_run_of" "is_run_of" 3 [] (.none) (.none) (.none) (.str "frametongue.words" 920) none (.ref 459) (.none) 0)), ⟨[]⟩⟩
noncomputable def o461_3 : Obj := ⟨.type "tuple", none, (.seq ⟨[]⟩ 0), ⟨[]⟩⟩
noncomputable def o462_3 : Obj := ⟨.none, none, (.fields ⟨[]⟩), ⟨[]⟩⟩
noncomputable def o463_3 : Obj := ⟨.type "tuple", none, (.seq ⟨[.str "text" 967]⟩ 0), ⟨[]⟩⟩
noncomputable def o464_3 : Obj := ⟨.type "tuple", none, (.seq ⟨[]⟩ 0), ⟨[]⟩⟩
noncomputable def o465_3 : Obj := ⟨.none, none, (.func (fQ (topS 72) "is_any_name" "is_any_name" 0 [] (.none) (.none) (.none) (.none) none (.none) (.none) 0)), ⟨[]⟩⟩
noncomputable def o466_3 : Obj := ⟨.type "code", none, (.fields ⟨[.str "is_any_name" 964, .str "is_any_name" 965, .str "/claim/cut.py" 966, .int 270 0, .int 1 0, .int 0 0, .int 0 0, .int 3 0, .ref 461, .bool true, .int 374 0, .ref 462, .none, .ref 463, .ref 464, .ref 465, .int 968 0, .int 270 0, .str "/claim/cut.py" 969]⟩), ⟨[]⟩⟩
noncomputable def o467_3 : Obj := ⟨.type "function", none, (.func (fQ (topS 72) "is_any_name" "is_any_name" 3 [] (.none) (.none) (.none) (.str "frametongue.words" 920) none (.ref 466) (.none) 0)), ⟨[]⟩⟩
noncomputable def o468_3 : Obj := ⟨.type "tuple", none, (.seq ⟨[]⟩ 0), ⟨[]⟩⟩
noncomputable def o469_3 : Obj := ⟨.none, none, (.fields ⟨[]⟩), ⟨[]⟩⟩
noncomputable def o470_3 : Obj := ⟨.type "tuple", none, (.seq ⟨[.str "text" 974]⟩ 0), ⟨[]⟩⟩
noncomputable def o471_3 : Obj := ⟨.type "tuple", none, (.seq ⟨[]⟩ 0), ⟨[]⟩⟩
noncomputable def o472_3 : Obj := ⟨.none, none, (.func (fQ (topS 73) "is_name_word" "is_name_word" 0 [] (.none) (.none) (.none) (.none) none (.none) (.none) 0)), ⟨[]⟩⟩
noncomputable def o473_3 : Obj := ⟨.type "code", none, (.fields ⟨[.str "is_name_word" 971, .str "is_name_word" 972, .str "/claim/cut.py" 973, .int 272 0, .int 1 0, .int 0 0, .int 0 0, .int 3 0, .ref 468, .bool true, .int 374 0, .ref 469, .none, .ref 470, .ref 471, .ref 472, .int 975 0, .int 272 0, .str "/claim/cut.py" 976]⟩), ⟨[]⟩⟩
noncomputable def o474_3 : Obj := ⟨.type "function", none, (.func (fQ (topS 73) "is_name_word" "is_name_word" 3 [] (.none) (.none) (.none) (.str "frametongue.words" 920) none (.ref 473) (.none) 0)), ⟨[]⟩⟩
noncomputable def o475_3 : Obj := ⟨.type "tuple", none, (.seq ⟨[]⟩ 0), ⟨[]⟩⟩
noncomputable def o476_3 : Obj := ⟨.none, none, (.fields ⟨[]⟩), ⟨[]⟩⟩
noncomputable def o477_3 : Obj := ⟨.type "tuple", none, (.seq ⟨[.str "text" 981]⟩ 0), ⟨[]⟩⟩
noncomputable def o478_3 : Obj := ⟨.type "tuple", none, (.seq ⟨[]⟩ 0), ⟨[]⟩⟩
noncomputable def o479_3 : Obj := ⟨.none, none, (.func (fQ (topS 74) "is_any_number" "is_any_number" 0 [] (.none) (.none) (.none) (.none) none (.none) (.none) 0)), ⟨[]⟩⟩
noncomputable def o480_3 : Obj := ⟨.type "code", none, (.fields ⟨[.str "is_any_number" 978, .str "is_any_number" 979, .str "/claim/cut.py" 980, .int 274 0, .int 1 0, .int 0 0, .int 0 0, .int 3 0, .ref 475, .bool true, .int 374 0, .ref 476, .none, .ref 477, .ref 478, .ref 479, .int 982 0, .int 274 0, .str "/claim/cut.py" 983]⟩), ⟨[]⟩⟩
noncomputable def o481_3 : Obj := ⟨.type "function", none, (.func (fQ (topS 74) "is_any_number" "is_any_number" 3 [] (.none) (.none) (.none) (.str "frametongue.words" 920) none (.ref 480) (.none) 0)), ⟨[]⟩⟩
noncomputable def o482_3 : Obj := ⟨.type "tuple", none, (.seq ⟨[]⟩ 0), ⟨[]⟩⟩
noncomputable def o483_3 : Obj := ⟨.none, none, (.fields ⟨[]⟩), ⟨[]⟩⟩
noncomputable def o484_3 : Obj := ⟨.type "tuple", none, (.seq ⟨[.str "text" 988]⟩ 0), ⟨[]⟩⟩
noncomputable def o485_3 : Obj := ⟨.type "tuple", none, (.seq ⟨[]⟩ 0), ⟨[]⟩⟩
noncomputable def o486_3 : Obj := ⟨.none, none, (.func (fQ (topS 75) "is_number_word" "is_number_word" 0 [] (.none) (.none) (.none) (.none) none (.none) (.none) 0)), ⟨[]⟩⟩
noncomputable def o487_3 : Obj := ⟨.type "code", none, (.fields ⟨[.str "is_number_word" 985, .str "is_number_word" 986, .str "/claim/cut.py" 987, .int 276 0, .int 1 0, .int 0 0, .int 0 0, .int 3 0, .ref 482, .bool true, .int 374 0, .ref 483, .none, .ref 484, .ref 485, .ref 486, .int 989 0, .int 276 0, .str "/claim/cut.py" 990]⟩), ⟨[]⟩⟩
noncomputable def o488_3 : Obj := ⟨.type "function", none, (.func (fQ (topS 75) "is_number_word" "is_number_word" 3 [] (.none) (.none) (.none) (.str "frametongue.words" 920) none (.ref 487) (.none) 0)), ⟨[]⟩⟩
noncomputable def o489_3 : Obj := ⟨.type "tuple", none, (.seq ⟨[.str "+" 994, .str "-" 995, .str "*" 996, .str "/" 997]⟩ 0), ⟨[]⟩⟩
noncomputable def o490_3 : Obj := ⟨.type "tuple", none, (.seq ⟨[.str "point" 1005, .str "arrow" 1006, .str "number" 1007]⟩ 0), ⟨[]⟩⟩
noncomputable def o491_3 : Obj := ⟨.type "tuple", none, (.seq ⟨[]⟩ 0), ⟨[]⟩⟩
noncomputable def o492_3 : Obj := ⟨.none, none, (.fields ⟨[]⟩), ⟨[]⟩⟩
noncomputable def o493_3 : Obj := ⟨.type "tuple", none, (.seq ⟨[.str "tree" 1012]⟩ 0), ⟨[]⟩⟩
noncomputable def o494_3 : Obj := ⟨.type "tuple", none, (.seq ⟨[]⟩ 0), ⟨[]⟩⟩
noncomputable def o495_3 : Obj := ⟨.none, none, (.func (fQ (topS 82) "parts_of" "parts_of" 0 [] (.none) (.none) (.none) (.none) none (.none) (.none) 0)), ⟨[]⟩⟩
noncomputable def o496_3 : Obj := ⟨.type "code", none, (.fields ⟨[.str "parts_of" 1009, .str "parts_of" 1010, .str "/claim/cut.py" 1011, .int 284 0, .int 1 0, .int 0 0, .int 0 0, .int 3 0, .ref 491, .bool true, .int 374 0, .ref 492, .none, .ref 493, .ref 494, .ref 495, .int 1013 0, .int 284 0, .str "/claim/cut.py" 1014]⟩), ⟨[]⟩⟩
noncomputable def o497_3 : Obj := ⟨.type "function", none, (.func (fQ (topS 82) "parts_of" "parts_of" 3 [] (.none) (.none) (.none) (.str "frametongue.trees" 992) none (.ref 496) (.none) 0)), ⟨[]⟩⟩
noncomputable def o498_3 : Obj := ⟨.type "tuple", none, (.seq ⟨[]⟩ 0), ⟨[]⟩⟩
noncomputable def o499_3 : Obj := ⟨.none, none, (.fields ⟨[]⟩), ⟨[]⟩⟩
noncomputable def o500_3 : Obj := ⟨.type "tuple", none, (.seq ⟨[.str "tree" 1019, .str "parts" 1020]⟩ 0), ⟨[]⟩⟩
noncomputable def o501_3 : Obj := ⟨.type "tuple", none, (.seq ⟨[]⟩ 0), ⟨[]⟩⟩
noncomputable def o502_3 : Obj := ⟨.none, none, (.func (fQ (topS 83) "with_parts" "with_parts" 0 [] (.none) (.none) (.none) (.none) none (.none) (.none) 0)), ⟨[]⟩⟩
noncomputable def o503_3 : Obj := ⟨.type "code", none, (.fields ⟨[.str "with_parts" 1016, .str "with_parts" 1017, .str "/claim/cut.py" 1018, .int 290 0, .int 2 0, .int 0 0, .int 0 0, .int 3 0, .ref 498, .bool true, .int 374 0, .ref 499, .none, .ref 500, .ref 501, .ref 502, .int 1021 0, .int 290 0, .str "/claim/cut.py" 1022]⟩), ⟨[]⟩⟩
noncomputable def o504_3 : Obj := ⟨.type "function", none, (.func (fQ (topS 83) "with_parts" "with_parts" 3 [] (.none) (.none) (.none) (.str "frametongue.trees" 992) none (.ref 503) (.none) 0)), ⟨[]⟩⟩
noncomputable def o505_3 : Obj := ⟨.type "tuple", none, (.seq ⟨[]⟩ 0), ⟨[]⟩⟩
noncomputable def o506_3 : Obj := ⟨.none, none, (.fields ⟨[]⟩), ⟨[]⟩⟩
noncomputable def o507_3 : Obj := ⟨.none, none, (.func (fQ (topS 84) "folded" "folded" 0 [] (.none) (.none) (.none) (.none) none (.none) (.none) 0)), ⟨[]⟩⟩
noncomputable def o508_3 : Obj := ⟨.type "code", none, (.fields ⟨[.str "folded" 1024, .str "folded" 1025, .str "/claim/cut.py" 1026, .int 298 0, .int 2 0, .int 0 0, .int 0 0, .int 3 0, .ref 505, .bool true, .int 374 0, .ref 506, .none, .none, .none, .ref 507, .int 1027 0, .int 298 0, .str "/claim/cut.py" 1028]⟩), ⟨[]⟩⟩
noncomputable def o509_3 : Obj := ⟨.type "function", none, (.func (fQ (topS 84) "folded" "folded" 3 [] (.none) (.none) (.none) (.str "frametongue.trees" 992) none (.ref 508) (.none) 0)), ⟨[]⟩⟩
noncomputable def o510_3 (P : Params) : Obj := ⟨.type "dict", none, (.dict ⟨[⟨PyData.keyHash P "number", .str "number" 1036, .int 2 1037⟩, ⟨PyData.keyHash P "rule", .str "rule" 1038, .int 4 1039⟩, ⟨PyData.keyHash P "let", .str "let" 1040, .int 6 1041⟩, ⟨PyData.keyHash P "tell", .str "tell" 1042, .int 4 1043⟩]⟩ 4), ⟨[]⟩⟩
noncomputable def o511_3 : Obj := ⟨.type "tuple", none, (.seq ⟨[.str "point" 1049, .str "arrow" 1050]⟩ 0), ⟨[]⟩⟩
noncomputable def o512_3 : Obj := ⟨.type "tuple", none, (.seq ⟨[.str "point" 1052, .str "arrow" 1053, .str "number" 1054]⟩ 0), ⟨[]⟩⟩
noncomputable def o513_3 (P : Params) : Obj := ⟨.type "dict", none, (.dict ⟨[⟨PyData.keyHash P "x", .str "x" 1056, .int 1 1057⟩, ⟨PyData.keyHash P "y", .str "y" 1058, .int 1 1059⟩, ⟨PyData.keyHash P "left", .str "left" 1060, .int 1 1061⟩, ⟨PyData.keyHash P "dot", .str "dot" 1062, .int 2 1063⟩, ⟨PyData.keyHash P "cross", .str "cross" 1064, .int 2 1065⟩, ⟨PyData.keyHash P "mid", .str "mid" 1066, .int 2 1067⟩, ⟨PyData.keyHash P "at", .str "at" 1068, .int 2 1069⟩, ⟨PyData.keyHash P "by", .str "by" 1070, .int 2 1071⟩]⟩ 8), ⟨[]⟩⟩
noncomputable def o514_3 : Obj := ⟨.type "tuple", none, (.seq ⟨[.str "point" 1081, .str "arrow" 1082, .str "number" 1083, .str "rule" 1084, .str "let" 1085, .str "tell" 1086, .str "x" 1087, .str "y" 1088, .str "dot" 1089, .str "cross" 1090, .str "mid" 1091, .str "left" 1092, .str "at" 1093, .str "by" 1094]⟩ 0), ⟨[]⟩⟩
noncomputable def o515_3 : Obj := ⟨.type "tuple", none, (.seq ⟨[]⟩ 0), ⟨[]⟩⟩
noncomputable def o516_3 : Obj := ⟨.none, none, (.fields ⟨[]⟩), ⟨[]⟩⟩
noncomputable def o517_3 : Obj := ⟨.none, none, (.func (fQ (topS 93) "sorts_by" "sorts_by" 0 [] (.none) (.none) (.none) (.none) none (.none) (.none) 0)), ⟨[]⟩⟩
noncomputable def o518_3 : Obj := ⟨.type "code", none, (.fields ⟨[.str "sorts_by" 1096, .str "sorts_by" 1097, .str "/claim/cut.py" 1098, .int 317 0, .int 1 0, .int 0 0, .int 0 0, .int 3 0, .ref 515, .bool true, .int 374 0, .ref 516, .none, .none, .none, .ref 517, .int 1099 0, .int 317 0, .str "/claim/cut.py" 1100]⟩), ⟨[]⟩⟩
noncomputable def o519_3 : Obj := ⟨.type "function", none, (.func (fQ (topS 93) "sorts_by" "sorts_by" 3 [] (.none) (.none) (.none) (.str "frametongue.namework" 1030) none (.ref 518) (.none) 0)), ⟨[]⟩⟩
noncomputable def o520_3 : Obj := ⟨.type "tuple", none, (.seq ⟨[]⟩ 0), ⟨[]⟩⟩
noncomputable def o521_3 : Obj := ⟨.none, none, (.fields ⟨[]⟩), ⟨[]⟩⟩
noncomputable def o522_3 : Obj := ⟨.none, none, (.func (fQ (topS 94) "givens_by" "givens_by" 0 [] (.none) (.none) (.none) (.none) none (.none) (.none) 0)), ⟨[]⟩⟩
noncomputable def o523_3 : Obj := ⟨.type "code", none, (.fields ⟨[.str "givens_by" 1102, .str "givens_by" 1103, .str "/claim/cut.py" 1104, .int 319 0, .int 1 0, .int 0 0, .int 0 0, .int 3 0, .ref 520, .bool true, .int 374 0, .ref 521, .none, .none, .none, .ref 522, .int 1105 0, .int 319 0, .str "/claim/cut.py" 1106]⟩), ⟨[]⟩⟩
noncomputable def o524_3 : Obj := ⟨.type "function", none, (.func (fQ (topS 94) "givens_by" "givens_by" 3 [] (.none) (.none) (.none) (.str "frametongue.namework" 1030) none (.ref 523) (.none) 0)), ⟨[]⟩⟩
noncomputable def o525_3 : Obj := ⟨.type "tuple", none, (.seq ⟨[]⟩ 0), ⟨[]⟩⟩
noncomputable def o526_3 : Obj := ⟨.none, none, (.fields ⟨[]⟩), ⟨[]⟩⟩
noncomputable def o527_3 : Obj := ⟨.none, none, (.func (fQ (topS 95) "tells_by" "tells_by" 0 [] (.none) (.none) (.none) (.none) none (.none) (.none) 0)), ⟨[]⟩⟩
noncomputable def o528_3 : Obj := ⟨.type "code", none, (.fields ⟨[.str "tells_by" 1108, .str "tells_by" 1109, .str "/claim/cut.py" 1110, .int 321 0, .int 1 0, .int 0 0, .int 0 0, .int 3 0, .ref 525, .bool true, .int 374 0, .ref 526, .none, .none, .none, .ref 527, .int 1111 0, .int 321 0, .str "/claim/cut.py" 1112]⟩), ⟨[]⟩⟩
noncomputable def o529_3 : Obj := ⟨.type "function", none, (.func (fQ (topS 95) "tells_by" "tells_by" 3 [] (.none) (.none) (.none) (.str "frametongue.namework" 1030) none (.ref 528) (.none) 0)), ⟨[]⟩⟩
noncomputable def o530_3 : Obj := ⟨.type "tuple", none, (.seq ⟨[]⟩ 0), ⟨[]⟩⟩
noncomputable def o531_3 : Obj := ⟨.none, none, (.fields ⟨[]⟩), ⟨[]⟩⟩
noncomputable def o532_3 : Obj := ⟨.none, none, (.func (fQ (topS 96) "is_too_many" "is_too_many" 0 [] (.none) (.none) (.none) (.none) none (.none) (.none) 0)), ⟨[]⟩⟩
noncomputable def o533_3 : Obj := ⟨.type "code", none, (.fields ⟨[.str "is_too_many" 1114, .str "is_too_many" 1115, .str "/claim/cut.py" 1116, .int 323 0, .int 2 0, .int 0 0, .int 0 0, .int 3 0, .ref 530, .bool true, .int 374 0, .ref 531, .none, .none, .none, .ref 532, .int 1117 0, .int 323 0, .str "/claim/cut.py" 1118]⟩), ⟨[]⟩⟩
noncomputable def o534_3 : Obj := ⟨.type "function", none, (.func (fQ (topS 96) "is_too_many" "is_too_many" 3 [] (.none) (.none) (.none) (.str "frametongue.namework" 1030) none (.ref 533) (.none) 0)), ⟨[]⟩⟩
noncomputable def o535_3 : Obj := ⟨.type "tuple", none, (.seq ⟨[]⟩ 0), ⟨[]⟩⟩
noncomputable def o536_3 : Obj := ⟨.none, none, (.fields ⟨[]⟩), ⟨[]⟩⟩
noncomputable def o537_3 : Obj := ⟨.type "tuple", none, (.seq ⟨[.str "known" 1123, .str "name" 1124, .str "many" 1125]⟩ 0), ⟨[]⟩⟩
noncomputable def o538_3 : Obj := ⟨.type "tuple", none, (.seq ⟨[]⟩ 0), ⟨[]⟩⟩
noncomputable def o539_3 : Obj := ⟨.none, none, (.func (fQ (topS 97) "may_be_called" "may_be_called" 0 [] (.none) (.none) (.none) (.none) none (.none) (.none) 0)), ⟨[]⟩⟩
noncomputable def o540_3 : Obj := ⟨.type "code", none, (.fields ⟨[.str "may_be_called" 1120, .str "may_be_called" 1121, .str "/claim/cut.py" 1122, .int 327 0, .int 3 0, .int 0 0, .int 0 0, .int 3 0, .ref 535, .bool true, .int 374 0, .ref 536, .none, .ref 537, .ref 538, .ref 539, .int 1126 0, .int 327 0, .str "/claim/cut.py" 1127]⟩), ⟨[]⟩⟩
noncomputable def o541_3 : Obj := ⟨.type "function", none, (.func (fQ (topS 97) "may_be_called" "may_be_called" 3 [] (.none) (.none) (.none) (.str "frametongue.namework" 1030) none (.ref 540) (.none) 0)), ⟨[]⟩⟩
noncomputable def o542_3 : Obj := ⟨.type "tuple", none, (.seq ⟨[]⟩ 0), ⟨[]⟩⟩
noncomputable def o543_3 : Obj := ⟨.none, none, (.fields ⟨[]⟩), ⟨[]⟩⟩
noncomputable def o544_3 : Obj := ⟨.type "tuple", none, (.seq ⟨[.str "known" 1132, .str "row" 1133, .str "name" 1134]⟩ 0), ⟨[]⟩⟩
noncomputable def o545_3 : Obj := ⟨.type "tuple", none, (.seq ⟨[]⟩ 0), ⟨[]⟩⟩
noncomputable def o546_3 : Obj := ⟨.none, none, (.func (fQ (topS 98) "may_be_used" "may_be_used" 0 [] (.none) (.none) (.none) (.none) none (.none) (.none) 0)), ⟨[]⟩⟩
noncomputable def o547_3 : Obj := ⟨.type "code", none, (.fields ⟨[.str "may_be_used" 1129, .str "may_be_used" 1130, .str "/claim/cut.py" 1131, .int 331 0, .int 3 0, .int 0 0, .int 0 0, .int 3 0, .ref 542, .bool true, .int 374 0, .ref 543, .none, .ref 544, .ref 545, .ref 546, .int 1135 0, .int 331 0, .str "/claim/cut.py" 1136]⟩), ⟨[]⟩⟩
noncomputable def o548_3 : Obj := ⟨.type "function", none, (.func (fQ (topS 98) "may_be_used" "may_be_used" 3 [] (.none) (.none) (.none) (.str "frametongue.namework" 1030) none (.ref 547) (.none) 0)), ⟨[]⟩⟩
noncomputable def o549_3 : Obj := ⟨.type "tuple", none, (.seq ⟨[]⟩ 0), ⟨[]⟩⟩
noncomputable def o550_3 : Obj := ⟨.none, none, (.fields ⟨[]⟩), ⟨[]⟩⟩
noncomputable def o551_3 : Obj := ⟨.type "tuple", none, (.seq ⟨[.str "rows" 1141, .str "row" 1142, .str "names" 1143, .str "known" 1144, .str "fresh" 1145, .str "does" 1146, .str "name" 1147, .str "at" 1148, .str "many" 1149]⟩ 0), ⟨[]⟩⟩
noncomputable def o552_3 : Obj := ⟨.type "tuple", none, (.seq ⟨[]⟩ 0), ⟨[]⟩⟩
noncomputable def o553_3 : Obj := ⟨.none, none, (.func (fQ (topS 99) "wrong_name" "wrong_name" 0 [] (.none) (.none) (.none) (.none) none (.none) (.none) 0)), ⟨[]⟩⟩
noncomputable def o554_3 : Obj := ⟨.type "code", none, (.fields ⟨[.str "wrong_name" 1138, .str "wrong_name" 1139, .str "/claim/cut.py" 1140, .int 335 0, .int 3 0, .int 0 0, .int 0 0, .int 3 0, .ref 549, .bool true, .int 374 0, .ref 550, .none, .ref 551, .ref 552, .ref 553, .int 1150 0, .int 335 0, .str "/claim/cut.py" 1151]⟩), ⟨[]⟩⟩
noncomputable def o555_3 : Obj := ⟨.type "function", none, (.func (fQ (topS 99) "wrong_name" "wrong_name" 3 [] (.none) (.none) (.none) (.str "frametongue.namework" 1030) none (.ref 554) (.none) 0)), ⟨[]⟩⟩
noncomputable def o556_3 : Obj := ⟨.type "tuple", none, (.seq ⟨[]⟩ 0), ⟨[]⟩⟩
noncomputable def o557_3 : Obj := ⟨.type "builtin_function_or_method", none, (.fields ⟨[.builtin "type.__prepare__", .type "type"]⟩), ⟨[]⟩⟩
noncomputable def o558_3 (P : Params) : Obj := ⟨.type "dict", none, (.dict ⟨[⟨PyData.keyHash P "__module__", .str "__module__" 1160, .str "frametongue.namework" 1030⟩, ⟨PyData.keyHash P "__qualname__", .str "__qualname__" 1162, .str "Sizes" 1161⟩, ⟨PyData.keyHash P "__firstlineno__", .str "__firstlineno__" 1164, .int 347 1163⟩, ⟨PyData.keyHash P "__init__", .str "__init__" 1172, .ref 569⟩, ⟨PyData.keyHash P "of_let", .str "of_let" 1180, .ref 576⟩, ⟨PyData.keyHash P "of_rule", .str "of_rule" 1188, .ref 583⟩, ⟨PyData.keyHash P "of_end", .str "of_end" 1197, .ref 590⟩, ⟨PyData.keyHash P "size", .str "size" 1203, .ref 595⟩, ⟨PyData.keyHash P "__static_attributes__", .str "__static_attributes__" 1207, .ref 596⟩]⟩ 9), ⟨[]⟩⟩
noncomputable def o559_3 : Obj := ⟨.type "tuple", none, (.seq ⟨[]⟩ 0), ⟨[]⟩⟩
noncomputable def o560_3 : Obj := ⟨.none, none, (.fields ⟨[.int 349 0, .int 4 0, .ref 568, .int 354 0, .int 4 0, .ref 575, .int 359 0, .int 4 0, .ref 582, .int 364 0, .int 4 0, .ref 589, .int 371 0, .int 4 0, .ref 594]⟩), ⟨[]⟩⟩
noncomputable def o561_3 : Obj := ⟨.type "code", none, (.fields ⟨[.str "Sizes" 1155, .str "Sizes" 1156, .str "/claim/cut.py" 1157, .int 347 0, .int 0 0, .int 0 0, .int 0 0, .int 0 0, .ref 559, .bool false, .int 374 0, .ref 560, .none, .none, .none, .none, .int 1158 0, .int 347 0, .str "/claim/cut.py" 1159]⟩), ⟨[]⟩⟩
noncomputable def o562_3 : Obj := ⟨.type "frame", none, .plain, ⟨[(some (.ref 561)), (some (.ref 3)), (some (.ref 558)), none, (some (.str "frametongue.namework" 1030)), none, (some (.ref 0))]⟩⟩
noncomputable def o563_3 : Obj := ⟨.type "tuple", none, (.seq ⟨[]⟩ 0), ⟨[]⟩⟩
noncomputable def o564_3 : Obj := ⟨.none, none, (.fields ⟨[]⟩), ⟨[]⟩⟩
noncomputable def o565_3 : Obj := ⟨.type "tuple", none, (.seq ⟨[.str "self" 1168, .str "rows" 1169]⟩ 0), ⟨[]⟩⟩
noncomputable def o566_3 : Obj := ⟨.type "tuple", none, (.seq ⟨[]⟩ 0), ⟨[]⟩⟩
noncomputable def o567_3 : Obj := ⟨.none, none, (.func (fQ (inClass (topS 100) 0) "__init__" "Sizes.__init__" 0 [] (.none) (.none) (.none) (.none) none (.none) (.none) 0)), ⟨[]⟩⟩
noncomputable def o568_3 : Obj := ⟨.type "code", none, (.fields ⟨[.str "__init__" 1165, .str "Sizes.__init__" 1166, .str "/claim/cut.py" 1167, .int 349 0, .int 2 0, .int 0 0, .int 0 0, .int 3 0, .ref 563, .bool true, .int 374 0, .ref 564, .none, .ref 565, .ref 566, .ref 567, .int 1170 0, .int 349 0, .str "/claim/cut.py" 1171]⟩), ⟨[]⟩⟩
noncomputable def o569_3 : Obj := ⟨.type "function", none, (.func (fQ (inClass (topS 100) 0) "__init__" "Sizes.__init__" 3 [] (.none) (.none) (.none) (.str "frametongue.namework" 1030) none (.ref 568) (.none) 0)), ⟨[]⟩⟩
noncomputable def o570_3 : Obj := ⟨.type "tuple", none, (.seq ⟨[]⟩ 0), ⟨[]⟩⟩
noncomputable def o571_3 : Obj := ⟨.none, none, (.fields ⟨[]⟩), ⟨[]⟩⟩
noncomputable def o572_3 : Obj := ⟨.type "tuple", none, (.seq ⟨[.str "self" 1176, .str "name" 1177]⟩ 0), ⟨[]⟩⟩
noncomputable def o573_3 : Obj := ⟨.type "tuple", none, (.seq ⟨[]⟩ 0), ⟨[]⟩⟩
noncomputable def o574_3 : Obj := ⟨.none, none, (.func (fQ (inClass (topS 100) 1) "of_let" "Sizes.of_let" 0 [] (.none) (.none) (.none) (.none) none (.none) (.none) 0)), ⟨[]⟩⟩
noncomputable def o575_3 : Obj := ⟨.type "code", none, (.fields ⟨[.str "of_let" 1173, .str "Sizes.of_let" 1174, .str "/claim/cut.py" 1175, .int 354 0, .int 2 0, .int 0 0, .int 0 0, .int 3 0, .ref 570, .bool true, .int 374 0, .ref 571, .none, .ref 572, .ref 573, .ref 574, .int 1178 0, .int 354 0, .str "/claim/cut.py" 1179]⟩), ⟨[]⟩⟩
noncomputable def o576_3 : Obj := ⟨.type "function", none, (.func (fQ (inClass (topS 100) 1) "of_let" "Sizes.of_let" 3 [] (.none) (.none) (.none) (.str "frametongue.namework" 1030) none (.ref 575) (.none) 0)), ⟨[]⟩⟩
noncomputable def o577_3 : Obj := ⟨.type "tuple", none, (.seq ⟨[]⟩ 0), ⟨[]⟩⟩
noncomputable def o578_3 : Obj := ⟨.none, none, (.fields ⟨[]⟩), ⟨[]⟩⟩
noncomputable def o579_3 : Obj := ⟨.type "tuple", none, (.seq ⟨[.str "self" 1184, .str "name" 1185]⟩ 0), ⟨[]⟩⟩
noncomputable def o580_3 : Obj := ⟨.type "tuple", none, (.seq ⟨[]⟩ 0), ⟨[]⟩⟩
noncomputable def o581_3 : Obj := ⟨.none, none, (.func (fQ (inClass (topS 100) 2) "of_rule" "Sizes.of_rule" 0 [] (.none) (.none) (.none) (.none) none (.none) (.none) 0)), ⟨[]⟩⟩
noncomputable def o582_3 : Obj := ⟨.type "code", none, (.fields ⟨[.str "of_rule" 1181, .str "Sizes.of_rule" 1182, .str "/claim/cut.py" 1183, .int 359 0, .int 2 0, .int 0 0, .int 0 0, .int 3 0, .ref 577, .bool true, .int 374 0, .ref 578, .none, .ref 579, .ref 580, .ref 581, .int 1186 0, .int 359 0, .str "/claim/cut.py" 1187]⟩), ⟨[]⟩⟩
noncomputable def o583_3 : Obj := ⟨.type "function", none, (.func (fQ (inClass (topS 100) 2) "of_rule" "Sizes.of_rule" 3 [] (.none) (.none) (.none) (.str "frametongue.namework" 1030) none (.ref 582) (.none) 0)), ⟨[]⟩⟩
noncomputable def o584_3 : Obj := ⟨.type "tuple", none, (.seq ⟨[]⟩ 0), ⟨[]⟩⟩
noncomputable def o585_3 : Obj := ⟨.none, none, (.fields ⟨[]⟩), ⟨[]⟩⟩
noncomputable def o586_3 : Obj := ⟨.type "tuple", none, (.seq ⟨[.str "self" 1192, .str "tree" 1193, .str "own" 1194]⟩ 0), ⟨[]⟩⟩
noncomputable def o587_3 : Obj := ⟨.type "tuple", none, (.seq ⟨[]⟩ 0), ⟨[]⟩⟩
noncomputable def o588_3 : Obj := ⟨.none, none, (.func (fQ (inClass (topS 100) 3) "of_end" "Sizes.of_end" 0 [] (.none) (.none) (.none) (.none) none (.none) (.none) 0)), ⟨[]⟩⟩
noncomputable def o589_3 : Obj := ⟨.type "code", none, (.fields ⟨[.str "of_end" 1189, .str "Sizes.of_end" 1190, .str "/claim/cut.py" 1191, .int 364 0, .int 3 0, .int 0 0, .int 0 0, .int 3 0, .ref 584, .bool true, .int 374 0, .ref 585, .none, .ref 586, .ref 587, .ref 588, .int 1195 0, .int 364 0, .str "/claim/cut.py" 1196]⟩), ⟨[]⟩⟩
noncomputable def o590_3 : Obj := ⟨.type "function", none, (.func (fQ (inClass (topS 100) 3) "of_end" "Sizes.of_end" 3 [] (.none) (.none) (.none) (.str "frametongue.namework" 1030) none (.ref 589) (.none) 0)), ⟨[]⟩⟩
noncomputable def o591_3 : Obj := ⟨.type "tuple", none, (.seq ⟨[]⟩ 0), ⟨[]⟩⟩
noncomputable def o592_3 : Obj := ⟨.none, none, (.fields ⟨[]⟩), ⟨[]⟩⟩
noncomputable def o593_3 : Obj := ⟨.none, none, (.func (fQ (inClass (topS 100) 4) "size" "Sizes.size" 0 [] (.none) (.none) (.none) (.none) none (.none) (.none) 0)), ⟨[]⟩⟩
noncomputable def o594_3 : Obj := ⟨.type "code", none, (.fields ⟨[.str "size" 1198, .str "Sizes.size" 1199, .str "/claim/cut.py" 1200, .int 371 0, .int 3 0, .int 0 0, .int 0 0, .int 3 0, .ref 591, .bool true, .int 374 0, .ref 592, .none, .none, .none, .ref 593, .int 1201 0, .int 371 0, .str "/claim/cut.py" 1202]⟩), ⟨[]⟩⟩
noncomputable def o595_3 : Obj := ⟨.type "function", none, (.func (fQ (inClass (topS 100) 4) "size" "Sizes.size" 3 [] (.none) (.none) (.none) (.str "frametongue.namework" 1030) none (.ref 594) (.none) 0)), ⟨[]⟩⟩
noncomputable def o596_3 : Obj := ⟨.type "tuple", none, (.seq ⟨[.str "known" 1204, .str "lets" 1205, .str "rules" 1206]⟩ 0), ⟨[]⟩⟩
noncomputable def o597_3 (P : Params) : Obj := ⟨.type "dict", none, (.dict ⟨[⟨PyData.keyHash P "__module__", .str "__module__" 1160, .str "frametongue.namework" 1030⟩, ⟨PyData.keyHash P "__firstlineno__", .str "__firstlineno__" 1164, .int 347 1163⟩, ⟨PyData.keyHash P "__init__", .str "__init__" 1172, .ref 569⟩, ⟨PyData.keyHash P "of_let", .str "of_let" 1180, .ref 576⟩, ⟨PyData.keyHash P "of_rule", .str "of_rule" 1188, .ref 583⟩, ⟨PyData.keyHash P "of_end", .str "of_end" 1197, .ref 590⟩, ⟨PyData.keyHash P "size", .str "size" 1203, .ref 595⟩, ⟨PyData.keyHash P "__static_attributes__", .str "__static_attributes__" 1207, .ref 596⟩, ⟨PyData.keyHash P "__dict__", .str "__dict__" 1209, .ref 599⟩, ⟨PyData.keyHash P "__weakref__", .str "__weakref__" 1211, .ref 600⟩, ⟨PyData.keyHash P "__doc__", .str "__doc__" 1212, .none⟩]⟩ 4), ⟨[]⟩⟩
noncomputable def o598_3 : Obj := ⟨.type "type", none, (.cls ⟨"Sizes", [.type "object"], [.ref 598, .type "object"], 597, "Sizes", true, [], [], false, none, false⟩), ⟨[none, none, (some (.str "Sizes" 1153)), (some (.str "Sizes" 1161)), (some (.builtin "object.__new__")), (some (.bool true))]⟩⟩
noncomputable def o599_3 : Obj := ⟨.type "getset_descriptor", none, (.fields ⟨[.str "__dict__" 1208, .ref 598, .builtin "function.__dict__", .builtin "function.__dict__#set"]⟩), ⟨[]⟩⟩
noncomputable def o600_3 : Obj := ⟨.type "getset_descriptor", none, (.fields ⟨[.str "__weakref__" 1210, .ref 598, .builtin "ExceptionGroup.__weakref__", .none]⟩), ⟨[]⟩⟩
noncomputable def o601_3 : Obj := ⟨.type "super", none, (.fields ⟨[.ref 598, .ref 598, .ref 598]⟩), ⟨[]⟩⟩
noncomputable def o602_3 : Obj := ⟨.type "builtin_function_or_method", none, (.fields ⟨[.builtin "object.__init_subclass__", .ref 598]⟩), ⟨[]⟩⟩
noncomputable def o603_3 : Obj := ⟨.type "tuple", none, (.seq ⟨[]⟩ 0), ⟨[]⟩⟩
noncomputable def o604_3 : Obj := ⟨.none, none, (.fields ⟨[]⟩), ⟨[]⟩⟩
noncomputable def o605_3 : Obj := ⟨.type "tuple", none, (.seq ⟨[.str "number" 1218, .str "parts" 1219, .str "often" 1220, .str "times" 1221, .str "part" 1222, .str "name" 1223, .str "many" 1224]⟩ 0), ⟨[]⟩⟩
noncomputable def o606_3 : Obj := ⟨.type "tuple", none, (.seq ⟨[]⟩ 0), ⟨[]⟩⟩
noncomputable def o607_3 : Obj := ⟨.none, none, (.func (fQ (topS 101) "added" "added" 0 [] (.none) (.none) (.none) (.none) none (.none) (.none) 0)), ⟨[]⟩⟩
noncomputable def o608_3 : Obj := ⟨.type "code", none, (.fields ⟨[.str "added" 1215, .str "added" 1216, .str "/claim/cut.py" 1217, .int 379 0, .int 2 0, .int 0 0, .int 0 0, .int 3 0, .ref 603, .bool true, .int 374 0, .ref 604, .none, .ref 605, .ref 606, .ref 607, .int 1225 0, .int 379 0, .str "/claim/cut.py" 1226]⟩), ⟨[]⟩⟩
noncomputable def o609_3 : Obj := ⟨.type "function", none, (.func (fQ (topS 101) "added" "added" 3 [] (.none) (.none) (.none) (.str "frametongue.namework" 1030) none (.ref 608) (.none) 0)), ⟨[]⟩⟩
noncomputable def t3 (P : Params) : BT := (.node (o0_0 P) (.node (o1_0 P) (.node (o3_3 P) (.node o7_0 (.node (o15_0 P) (.node (o31_0 P) (.node o63_2 (.node o127_2 (.node o255_2 (.node o511_3 .nil .nil) .nil) (.node o383_3 .nil .nil)) (.node o191_2 (.node o319_3 (.node o575_3 .nil .nil) .nil) (.node o447_3 .nil .nil))) (.node o95_2 (.node o159_2 (.node o287_2 (.node o543_3 .nil .nil) .nil) (.node o415_3 .nil .nil)) (.node o223_2 (.node o351_3 (.node o607_3 .nil .nil) .nil) (.node o479_3 .nil .nil)))) (.node o47_2 (.node o79_2 (.node o143_2 (.node o271_2 (.node o527_3 .nil .nil) .nil) (.node o399_3 .nil .nil)) (.node o207_2 (.node o335_3 (.node o591_3 .nil .nil) .nil) (.node o463_3 .nil .nil))) (.node o111_2 (.node o175_2 (.node o303_3 (.node o559_3 .nil .nil) .nil) (.node o431_3 .nil .nil)) (.node o239_2 (.node o367_3 .nil .nil) (.node o495_3 .nil .nil))))) (.node o23_0 (.node o39_1 (.node o71_2 (.node o135_2 (.node o263_2 (.node o519_3 .nil .nil) .nil) (.node o391_3 .nil .nil)) (.node o199_2 (.node o327_3 (.node o583_3 .nil .nil) .nil) (.node o455_3 .nil .nil))) (.node o103_2 (.node o167_2 (.node o295_3 (.node o551_3 .nil .nil) .nil) (.node o423_3 .nil .nil)) (.node o231_2 (.node o359_3 .nil .nil) (.node o487_3 .nil .nil)))) (.node o55_2 (.node o87_2 (.node o151_2 (.node o279_2 (.node o535_3 .nil .nil) .nil) (.node o407_3 .nil .nil)) (.node o215_2 (.node o343_3 (.node o599_3 .nil .nil) .nil) (.node o471_3 .nil .nil))) (.node o119_2 (.node o183_2 (.node o311_3 (.node o567_3 .nil .nil) .nil) (.node o439_3 .nil .nil)) (.node o247_2 (.node o375_3 .nil .nil) (.node o503_3 .nil .nil)))))) (.node o11_0 (.node o19_0 (.node o35_0 (.node o67_2 (.node o131_2 (.node o259_2 (.node o515_3 .nil .nil) .nil) (.node o387_3 .nil .nil)) (.node o195_2 (.node o323_3 (.node o579_3 .nil .nil) .nil) (.node o451_3 .nil .nil))) (.node o99_2 (.node o163_2 (.node o291_2 (.node o547_3 .nil .nil) .nil) (.node o419_3 .nil .nil)) (.node o227_2 (.node o355_3 .nil .nil) (.node o483_3 .nil .nil)))) (.node o51_2 (.node o83_2 (.node o147_2 (.node o275_2 (.node o531_3 .nil .nil) .nil) (.node o403_3 .nil .nil)) (.node o211_2 (.node o339_3 (.node o595_3 .nil .nil) .nil) (.node o467_3 .nil .nil))) (.node o115_2 (.node o179_2 (.node o307_3 (.node o563_3 .nil .nil) .nil) (.node o435_3 .nil .nil)) (.node o243_2 (.node o371_3 .nil .nil) (.node o499_3 .nil .nil))))) (.node o27_0 (.node o43_2 (.node o75_2 (.node o139_2 (.node o267_2 (.node o523_3 .nil .nil) .nil) (.node o395_3 .nil .nil)) (.node o203_2 (.node o331_3 (.node o587_3 .nil .nil) .nil) (.node o459_3 .nil .nil))) (.node (o107_2 P) (.node o171_2 (.node o299_3 (.node o555_3 .nil .nil) .nil) (.node o427_3 .nil .nil)) (.node o235_2 (.node o363_3 .nil .nil) (.node o491_3 .nil .nil)))) (.node o59_2 (.node o91_2 (.node o155_2 (.node o283_2 (.node o539_3 .nil .nil) .nil) (.node o411_3 .nil .nil)) (.node o219_2 (.node o347_3 (.node o603_3 .nil .nil) .nil) (.node o475_3 .nil .nil))) (.node o123_2 (.node o187_2 (.node o315_3 (.node o571_3 .nil .nil) .nil) (.node o443_3 .nil .nil)) (.node o251_2 (.node o379_3 .nil .nil) (.node o507_3 .nil .nil))))))) (.node o5_0 (.node o9_0 (.node o17_0 (.node o33_0 (.node (o65_2 P) (.node o129_2 (.node o257_2 (.node (o513_3 P) .nil .nil) .nil) (.node o385_3 .nil .nil)) (.node o193_2 (.node o321_3 (.node o577_3 .nil .nil) .nil) (.node o449_3 .nil .nil))) (.node o97_2 (.node o161_2 (.node o289_2 (.node o545_3 .nil .nil) .nil) (.node o417_3 .nil .nil)) (.node o225_2 (.node o353_3 (.node o609_3 .nil .nil) .nil) (.node o481_3 .nil .nil)))) (.node o49_2 (.node o81_2 (.node o145_2 (.node o273_2 (.node o529_3 .nil .nil) .nil) (.node o401_3 .nil .nil)) (.node o209_2 (.node o337_3 (.node o593_3 .nil .nil) .nil) (.node o465_3 .nil .nil))) (.node o113_2 (.node o177_2 (.node o305_3 (.node o561_3 .nil .nil) .nil) (.node o433_3 .nil .nil)) (.node o241_2 (.node o369_3 .nil .nil) (.node o497_3 .nil .nil))))) (.node o25_0 (.node o41_1 (.node o73_2 (.node o137_2 (.node o265_2 (.node o521_3 .nil .nil) .nil) (.node o393_3 .nil .nil)) (.node o201_2 (.node o329_3 (.node o585_3 .nil .nil) .nil) (.node o457_3 .nil .nil))) (.node o105_2 (.node o169_2 (.node o297_3 (.node o553_3 .nil .nil) .nil) (.node o425_3 .nil .nil)) (.node o233_2 (.node o361_3 .nil .nil) (.node o489_3 .nil .nil)))) (.node o57_2 (.node o89_2 (.node o153_2 (.node o281_2 (.node o537_3 .nil .nil) .nil) (.node o409_3 .nil .nil)) (.node o217_2 (.node o345_3 (.node o601_3 .nil .nil) .nil) (.node o473_3 .nil .nil))) (.node o121_2 (.node o185_2 (.node o313_3 (.node o569_3 .nil .nil) .nil) (.node o441_3 .nil .nil)) (.node o249_2 (.node o377_3 .nil .nil) (.node o505_3 .nil .nil)))))) (.node o13_0 (.node (o21_0 P) (.node o37_0 (.node o69_2 (.node o133_2 (.node o261_2 (.node o517_3 .nil .nil) .nil) (.node o389_3 .nil .nil)) (.node o197_2 (.node o325_3 (.node o581_3 .nil .nil) .nil) (.node o453_3 .nil .nil))) (.node (o101_2 P) (.node o165_2 (.node o293_2 (.node o549_3 .nil .nil) .nil) (.node o421_3 .nil .nil)) (.node o229_2 (.node o357_3 .nil .nil) (.node o485_3 .nil .nil)))) (.node o53_2 (.node o85_2 (.node o149_2 (.node o277_2 (.node o533_3 .nil .nil) .nil) (.node o405_3 .nil .nil)) (.node o213_2 (.node o341_3 (.node (o597_3 P) .nil .nil) .nil) (.node o469_3 .nil .nil))) (.node o117_2 (.node o181_2 (.node o309_3 (.node o565_3 .nil .nil) .nil) (.node o437_3 .nil .nil)) (.node o245_2 (.node o373_3 .nil .nil) (.node o501_3 .nil .nil))))) (.node o29_0 (.node o45_2 (.node o77_2 (.node o141_2 (.node o269_2 (.node o525_3 .nil .nil) .nil) (.node o397_3 .nil .nil)) (.node o205_2 (.node o333_3 (.node o589_3 .nil .nil) .nil) (.node o461_3 .nil .nil))) (.node o109_2 (.node o173_2 (.node o301_3 (.node o557_3 .nil .nil) .nil) (.node o429_3 .nil .nil)) (.node o237_2 (.node o365_3 .nil .nil) (.node o493_3 .nil .nil)))) (.node o61_2 (.node o93_2 (.node o157_2 (.node o285_2 (.node o541_3 .nil .nil) .nil) (.node o413_3 .nil .nil)) (.node o221_2 (.node o349_3 (.node o605_3 .nil .nil) .nil) (.node o477_3 .nil .nil))) (.node o125_2 (.node o189_2 (.node o317_3 (.node o573_3 .nil .nil) .nil) (.node o445_3 .nil .nil)) (.node o253_2 (.node o381_3 .nil .nil) (.node o509_3 .nil .nil)))))))) (.node (o2_0 P) (.node o4_0 (.node o8_0 (.node o16_0 (.node (o32_0 P) (.node o64_2 (.node (o128_2 P) (.node o256_2 (.node o512_3 .nil .nil) .nil) (.node o384_3 .nil .nil)) (.node o192_2 (.node o320_3 (.node o576_3 .nil .nil) .nil) (.node o448_3 .nil .nil))) (.node o96_2 (.node o160_2 (.node o288_2 (.node o544_3 .nil .nil) .nil) (.node o416_3 .nil .nil)) (.node o224_2 (.node o352_3 (.node o608_3 .nil .nil) .nil) (.node o480_3 .nil .nil)))) (.node o48_2 (.node (o80_2 P) (.node o144_2 (.node o272_2 (.node o528_3 .nil .nil) .nil) (.node o400_3 .nil .nil)) (.node o208_2 (.node o336_3 (.node o592_3 .nil .nil) .nil) (.node o464_3 .nil .nil))) (.node o112_2 (.node o176_2 (.node o304_3 (.node o560_3 .nil .nil) .nil) (.node o432_3 .nil .nil)) (.node o240_2 (.node o368_3 .nil .nil) (.node o496_3 .nil .nil))))) (.node o24_0 (.node o40_3 (.node o72_2 (.node o136_2 (.node o264_2 (.node o520_3 .nil .nil) .nil) (.node o392_3 .nil .nil)) (.node o200_2 (.node o328_3 (.node o584_3 .nil .nil) .nil) (.node o456_3 .nil .nil))) (.node o104_2 (.node o168_2 (.node o296_3 (.node o552_3 .nil .nil) .nil) (.node o424_3 .nil .nil)) (.node o232_2 (.node o360_3 .nil .nil) (.node o488_3 .nil .nil)))) (.node o56_2 (.node o88_2 (.node o152_2 (.node o280_2 (.node o536_3 .nil .nil) .nil) (.node o408_3 .nil .nil)) (.node o216_2 (.node o344_3 (.node o600_3 .nil .nil) .nil) (.node o472_3 .nil .nil))) (.node o120_2 (.node o184_2 (.node o312_3 (.node o568_3 .nil .nil) .nil) (.node o440_3 .nil .nil)) (.node o248_2 (.node o376_3 .nil .nil) (.node o504_3 .nil .nil)))))) (.node (o12_0 P) (.node o20_0 (.node o36_0 (.node o68_2 (.node o132_2 (.node o260_2 (.node o516_3 .nil .nil) .nil) (.node o388_3 .nil .nil)) (.node o196_2 (.node o324_3 (.node o580_3 .nil .nil) .nil) (.node o452_3 .nil .nil))) (.node o100_2 (.node o164_2 (.node o292_2 (.node o548_3 .nil .nil) .nil) (.node o420_3 .nil .nil)) (.node o228_2 (.node o356_3 .nil .nil) (.node o484_3 .nil .nil)))) (.node (o52_2 P) (.node o84_2 (.node o148_2 (.node o276_2 (.node o532_3 .nil .nil) .nil) (.node o404_3 .nil .nil)) (.node o212_2 (.node o340_3 (.node o596_3 .nil .nil) .nil) (.node o468_3 .nil .nil))) (.node o116_2 (.node o180_2 (.node o308_3 (.node o564_3 .nil .nil) .nil) (.node o436_3 .nil .nil)) (.node o244_2 (.node o372_3 .nil .nil) (.node o500_3 .nil .nil))))) (.node o28_0 (.node o44_2 (.node o76_2 (.node o140_2 (.node o268_2 (.node o524_3 .nil .nil) .nil) (.node o396_3 .nil .nil)) (.node o204_2 (.node o332_3 (.node o588_3 .nil .nil) .nil) (.node o460_3 .nil .nil))) (.node o108_2 (.node o172_2 (.node o300_3 (.node o556_3 .nil .nil) .nil) (.node o428_3 .nil .nil)) (.node o236_2 (.node o364_3 .nil .nil) (.node o492_3 .nil .nil)))) (.node o60_2 (.node o92_2 (.node o156_2 (.node o284_2 (.node o540_3 .nil .nil) .nil) (.node o412_3 .nil .nil)) (.node o220_2 (.node o348_3 (.node o604_3 .nil .nil) .nil) (.node o476_3 .nil .nil))) (.node o124_2 (.node o188_2 (.node o316_3 (.node o572_3 .nil .nil) .nil) (.node o444_3 .nil .nil)) (.node o252_2 (.node o380_3 .nil .nil) (.node o508_3 .nil .nil))))))) (.node o6_0 (.node o10_0 (.node o18_0 (.node o34_0 (.node o66_2 (.node o130_2 (.node o258_2 (.node o514_3 .nil .nil) .nil) (.node o386_3 .nil .nil)) (.node o194_2 (.node o322_3 (.node o578_3 .nil .nil) .nil) (.node o450_3 .nil .nil))) (.node o98_2 (.node o162_2 (.node o290_2 (.node o546_3 .nil .nil) .nil) (.node o418_3 .nil .nil)) (.node o226_2 (.node o354_3 .nil .nil) (.node o482_3 .nil .nil)))) (.node o50_2 (.node o82_2 (.node o146_2 (.node o274_2 (.node o530_3 .nil .nil) .nil) (.node o402_3 .nil .nil)) (.node o210_2 (.node o338_3 (.node o594_3 .nil .nil) .nil) (.node o466_3 .nil .nil))) (.node o114_2 (.node o178_2 (.node o306_3 (.node o562_3 .nil .nil) .nil) (.node o434_3 .nil .nil)) (.node o242_2 (.node o370_3 .nil .nil) (.node o498_3 .nil .nil))))) (.node (o26_0 P) (.node o42_1 (.node o74_2 (.node o138_2 (.node o266_2 (.node o522_3 .nil .nil) .nil) (.node o394_3 .nil .nil)) (.node o202_2 (.node o330_3 (.node o586_3 .nil .nil) .nil) (.node o458_3 .nil .nil))) (.node o106_2 (.node o170_2 (.node o298_3 (.node o554_3 .nil .nil) .nil) (.node o426_3 .nil .nil)) (.node o234_2 (.node o362_3 .nil .nil) (.node o490_3 .nil .nil)))) (.node (o58_2 P) (.node o90_2 (.node o154_2 (.node o282_2 (.node o538_3 .nil .nil) .nil) (.node o410_3 .nil .nil)) (.node o218_2 (.node o346_3 (.node o602_3 .nil .nil) .nil) (.node o474_3 .nil .nil))) (.node (o122_2 P) (.node o186_2 (.node o314_3 (.node o570_3 .nil .nil) .nil) (.node o442_3 .nil .nil)) (.node o250_2 (.node o378_3 .nil .nil) (.node o506_3 .nil .nil)))))) (.node (o14_0 P) (.node o22_0 (.node o38_0 (.node o70_2 (.node (o134_2 P) (.node o262_2 (.node o518_3 .nil .nil) .nil) (.node o390_3 .nil .nil)) (.node o198_2 (.node o326_3 (.node o582_3 .nil .nil) .nil) (.node o454_3 .nil .nil))) (.node o102_2 (.node o166_2 (.node o294_3 (.node o550_3 .nil .nil) .nil) (.node o422_3 .nil .nil)) (.node o230_2 (.node o358_3 .nil .nil) (.node o486_3 .nil .nil)))) (.node o54_2 (.node (o86_2 P) (.node o150_2 (.node o278_2 (.node o534_3 .nil .nil) .nil) (.node o406_3 .nil .nil)) (.node o214_2 (.node o342_3 (.node o598_3 .nil .nil) .nil) (.node o470_3 .nil .nil))) (.node o118_2 (.node o182_2 (.node o310_3 (.node o566_3 .nil .nil) .nil) (.node o438_3 .nil .nil)) (.node o246_2 (.node o374_3 .nil .nil) (.node o502_3 .nil .nil))))) (.node o30_0 (.node o46_2 (.node o78_2 (.node o142_2 (.node o270_2 (.node o526_3 .nil .nil) .nil) (.node o398_3 .nil .nil)) (.node o206_2 (.node o334_3 (.node o590_3 .nil .nil) .nil) (.node o462_3 .nil .nil))) (.node o110_2 (.node o174_2 (.node o302_3 (.node (o558_3 P) .nil .nil) .nil) (.node o430_3 .nil .nil)) (.node o238_2 (.node o366_3 .nil .nil) (.node o494_3 .nil .nil)))) (.node o62_2 (.node o94_2 (.node o158_2 (.node o286_2 (.node o542_3 .nil .nil) .nil) (.node o414_3 .nil .nil)) (.node o222_2 (.node o350_3 (.node o606_3 .nil .nil) .nil) (.node o478_3 .nil .nil))) (.node o126_2 (.node o190_2 (.node o318_3 (.node o574_3 .nil .nil) .nil) (.node o446_3 .nil .nil)) (.node o254_2 (.node o382_3 .nil .nil) (.node (o510_3 P) .nil .nil)))))))))
noncomputable def o3_4 (P : Params) : Obj := ⟨.type "dict", none, (.dict ⟨[⟨PyData.keyHash P "__name__", .str "__name__" 165, .str "frametongue.parsing" 1705⟩, ⟨PyData.keyHash P "__doc__", .str "__doc__" 166, .none⟩, ⟨PyData.keyHash P "__package__", .str "__package__" 167, .none⟩, ⟨PyData.keyHash P "__loader__", .str "__loader__" 168, .builtin "__main__.__loader__#opaque"⟩, ⟨PyData.keyHash P "__spec__", .str "__spec__" 169, .none⟩, ⟨PyData.keyHash P "__annotations__", .str "__annotations__" 170, .ref 6⟩, ⟨PyData.keyHash P "__builtins__", .str "__builtins__" 171, .ref 4⟩, ⟨PyData.keyHash P "__file__", .str "__file__" 173, .str "/claim/cut.py" 172⟩, ⟨PyData.keyHash P "__cached__", .str "__cached__" 174, .none⟩, ⟨PyData.keyHash P "comb", .str "comb" 370, .builtin "math.comb"⟩, ⟨PyData.keyHash P "gcd", .str "gcd" 373, .builtin "math.gcd"⟩, ⟨PyData.keyHash P "_wall", .str "_wall" 386, .ref 49⟩, ⟨PyData.keyHash P "FrameError", .str "FrameError" 406, .ref 59⟩, ⟨PyData.keyHash P "InvalidRows", .str "InvalidRows" 433, .ref 81⟩, ⟨PyData.keyHash P "InvalidDeed", .str "InvalidDeed" 460, .ref 102⟩, ⟨PyData.keyHash P "Barred", .str "Barred" 487, .ref 123⟩, ⟨PyData.keyHash P "NothingToUndo", .str "NothingToUndo" 503, .ref 135⟩, ⟨PyData.keyHash P "number_sum", .str "number_sum" 513, .ref 144⟩, ⟨PyData.keyHash P "unknown_sum", .str "unknown_sum" 519, .ref 149⟩, ⟨PyData.keyHash P "terms_of", .str "terms_of" 526, .ref 156⟩, ⟨PyData.keyHash P "sum_by", .str "sum_by" 532, .ref 161⟩, ⟨PyData.keyHash P "without_noughts", .str "without_noughts" 538, .ref 166⟩, ⟨PyData.keyHash P "plus_sums", .str "plus_sums" 549, .ref 173⟩, ⟨PyData.keyHash P "times_number", .str "times_number" 555, .ref 178⟩, ⟨PyData.keyHash P "less_sums", .str "less_sums" 563, .ref 185⟩, ⟨PyData.keyHash P "times_sums", .str "times_sums" 569, .ref 190⟩, ⟨PyData.keyHash P "power_sum", .str "power_sum" 580, .ref 197⟩, ⟨PyData.keyHash P "degree_in", .str "degree_in" 586, .ref 202⟩, ⟨PyData.keyHash P "degree_of", .str "degree_of" 592, .ref 207⟩, ⟨PyData.keyHash P "first_number", .str "first_number" 599, .ref 214⟩, ⟨PyData.keyHash P "share_of_numbers", .str "share_of_numbers" 608, .ref 221⟩, ⟨PyData.keyHash P "with_first_above", .str "with_first_above" 615, .ref 228⟩, ⟨PyData.keyHash P "is_term_part", .str "is_term_part" 621, .ref 233⟩, ⟨PyData.keyHash P "divided_by", .str "divided_by" 627, .ref 238⟩, ⟨PyData.keyHash P "least_powers", .str "least_powers" 633, .ref 243⟩, ⟨PyData.keyHash P "lowered", .str "lowered" 639, .ref 248⟩, ⟨PyData.keyHash P "put_in", .str "put_in" 655, .ref 255⟩, ⟨PyData.keyHash P "left_of", .str "left_of" 661, .ref 260⟩, ⟨PyData.keyHash P "have_common_part", .str "have_common_part" 671, .ref 267⟩, ⟨PyData.keyHash P "does_show", .str "does_show" 683, .ref 274⟩, ⟨PyData.keyHash P "quick_points", .str "quick_points" 689, .ref 279⟩, ⟨PyData.keyHash P "quick_point", .str "quick_point" 700, .ref 286⟩, ⟨PyData.keyHash P "FEW_TRIES", .str "FEW_TRIES" 704, .int 6 703⟩, ⟨PyData.keyHash P "shares_in", .str "shares_in" 716, .ref 293⟩, ⟨PyData.keyHash P "raised_in", .str "raised_in" 722, .ref 298⟩, ⟨PyData.keyHash P "remainder_in", .str "remainder_in" 736, .ref 305⟩, ⟨PyData.keyHash P "common_of_all", .str "common_of_all" 745, .ref 312⟩, ⟨PyData.keyHash P "without_share", .str "without_share" 753, .ref 319⟩, ⟨PyData.keyHash P "common_in", .str "common_in" 765, .ref 326⟩, ⟨PyData.keyHash P "open_unknowns", .str "open_unknowns" 775, .ref 333⟩, ⟨PyData.keyHash P "parts_by", .str "parts_by" 781, .ref 338⟩, ⟨PyData.keyHash P "standing_in", .str "standing_in" 787, .ref 343⟩, ⟨PyData.keyHash P "common_by_remainders", .str "common_by_remainders" 793, .ref 348⟩, ⟨PyData.keyHash P "plain_common", .str "plain_common" 802, .ref 355⟩, ⟨PyData.keyHash P "common_of", .str "common_of" 808, .ref 360⟩, ⟨PyData.keyHash P "plain_of", .str "plain_of" 814, .ref 365⟩, ⟨PyData.keyHash P "without", .str "without" 824, .ref 372⟩, ⟨PyData.keyHash P "turned_up", .str "turned_up" 832, .ref 379⟩, ⟨PyData.keyHash P "times_lowest", .str "times_lowest" 847, .ref 386⟩, ⟨PyData.keyHash P "joined_lowest", .str "joined_lowest" 865, .ref 393⟩, ⟨PyData.keyHash P "lowest_with", .str "lowest_with" 874, .ref 400⟩, ⟨PyData.keyHash P "is_whole", .str "is_whole" 883, .ref 407⟩, ⟨PyData.keyHash P "is_number", .str "is_number" 893, .ref 415⟩, ⟨PyData.keyHash P "is_string", .str "is_string" 900, .ref 422⟩, ⟨PyData.keyHash P "is_row", .str "is_row" 909, .ref 429⟩, ⟨PyData.keyHash P "first_wrong", .str "first_wrong" 919, .ref 436⟩, ⟨PyData.keyHash P "LETTERS", .str "LETTERS" 923, .str "abcdefghijklmnopqrstuvwxyz" 922⟩, ⟨PyData.keyHash P "FIGURES", .str "FIGURES" 925, .str "0123456789" 924⟩, ⟨PyData.keyHash P "OTHERS", .str "OTHERS" 927, .str "+-*/^(),=" 926⟩, ⟨PyData.keyHash P "BLANK", .str "BLANK" 929, .str " " 928⟩, ⟨PyData.keyHash P "MOST_LETTERS", .str "MOST_LETTERS" 931, .int 8 930⟩, ⟨PyData.keyHash P "MOST_FIGURES", .str "MOST_FIGURES" 933, .int 6 932⟩, ⟨PyData.keyHash P "wrong_sign", .str "wrong_sign" 939, .ref 441⟩, ⟨PyData.keyHash P "sort_of", .str "sort_of" 946, .ref 448⟩, ⟨PyData.keyHash P "row_words", .str "row_words" 957, .ref 455⟩, ⟨PyData.keyHash P "is_run_of", .str "is_run_of" 963, .ref 460⟩, ⟨PyData.keyHash P "is_any_name", .str "is_any_name" 970, .ref 467⟩, ⟨PyData.keyHash P "is_name_word", .str "is_name_word" 977, .ref 474⟩, ⟨PyData.keyHash P "is_any_number", .str "is_any_number" 984, .ref 481⟩, ⟨PyData.keyHash P "is_number_word", .str "is_number_word" 991, .ref 488⟩, ⟨PyData.keyHash P "DEEDS", .str "DEEDS" 998, .ref 489⟩, ⟨PyData.keyHash P "MOST_PLACES", .str "MOST_PLACES" 1000, .int 40 999⟩, ⟨PyData.keyHash P "MOST_POWER", .str "MOST_POWER" 1002, .int 4 1001⟩, ⟨PyData.keyHash P "MOST_OWN", .str "MOST_OWN" 1004, .int 3 1003⟩, ⟨PyData.keyHash P "GIVEN_HEADS", .str "GIVEN_HEADS" 1008, .ref 490⟩, ⟨PyData.keyHash P "parts_of", .str "parts_of" 1015, .ref 497⟩, ⟨PyData.keyHash P "with_parts", .str "with_parts" 1023, .ref 504⟩, ⟨PyData.keyHash P "folded", .str "folded" 1029, .ref 509⟩, ⟨PyData.keyHash P "MOST_PUT", .str "MOST_PUT" 1033, .int 200 1032⟩, ⟨PyData.keyHash P "MOST_SPOTS", .str "MOST_SPOTS" 1035, .int 4 1034⟩, ⟨PyData.keyHash P "MOST_OF", .str "MOST_OF" 1048, .ref 510⟩, ⟨PyData.keyHash P "SPOTS", .str "SPOTS" 1051, .ref 511⟩, ⟨PyData.keyHash P "GIVENS", .str "GIVENS" 1055, .ref 512⟩, ⟨PyData.keyHash P "CALLED", .str "CALLED" 1080, .ref 513⟩, ⟨PyData.keyHash P "RESERVED", .str "RESERVED" 1095, .ref 514⟩, ⟨PyData.keyHash P "sorts_by", .str "sorts_by" 1101, .ref 519⟩, ⟨PyData.keyHash P "givens_by", .str "givens_by" 1107, .ref 524⟩, ⟨PyData.keyHash P "tells_by", .str "tells_by" 1113, .ref 529⟩, ⟨PyData.keyHash P "is_too_many", .str "is_too_many" 1119, .ref 534⟩, ⟨PyData.keyHash P "may_be_called", .str "may_be_called" 1128, .ref 541⟩, ⟨PyData.keyHash P "may_be_used", .str "may_be_used" 1137, .ref 548⟩, ⟨PyData.keyHash P "wrong_name", .str "wrong_name" 1152, .ref 555⟩, ⟨PyData.keyHash P "Sizes", .str "Sizes" 1214, .ref 598⟩, ⟨PyData.keyHash P "added", .str "added" 1227, .ref 609⟩, ⟨PyData.keyHash P "size_by", .str "size_by" 1235, .ref 616⟩, ⟨PyData.keyHash P "own_trees", .str "own_trees" 1241, .ref 621⟩, ⟨PyData.keyHash P "stands_for", .str "stands_for" 1251, .ref 628⟩, ⟨PyData.keyHash P "led_on", .str "led_on" 1263, .ref 635⟩, ⟨PyData.keyHash P "put_in_all", .str "put_in_all" 1269, .ref 640⟩, ⟨PyData.keyHash P "put_in_tree", .str "put_in_tree" 1277, .ref 647⟩, ⟨PyData.keyHash P "put_in_by", .str "put_in_by" 1285, .ref 654⟩, ⟨PyData.keyHash P "is_great_put_in", .str "is_great_put_in" 1293, .ref 661⟩, ⟨PyData.keyHash P "MOST_TERMS", .str "MOST_TERMS" 1297, .int 200 1296⟩, ⟨PyData.keyHash P "MOST_DEGREE", .str "MOST_DEGREE" 1299, .int 8 1298⟩, ⟨PyData.keyHash P "NO_FORM", .str "NO_FORM" 1301, .str "none" 1300⟩, ⟨PyData.keyHash P "TOO_GREAT", .str "TOO_GREAT" 1303, .str "great" 1302⟩, ⟨PyData.keyHash P "Unknowns", .str "Unknowns" 1379, .ref 710⟩, ⟨PyData.keyHash P "is_great_sum", .str "is_great_sum" 1385, .ref 719⟩, ⟨PyData.keyHash P "plus_pair", .str "plus_pair" 1393, .ref 726⟩, ⟨PyData.keyHash P "less_pair", .str "less_pair" 1401, .ref 733⟩, ⟨PyData.keyHash P "times_pair", .str "times_pair" 1409, .ref 740⟩, ⟨PyData.keyHash P "over_pair", .str "over_pair" 1417, .ref 747⟩, ⟨PyData.keyHash P "pair_with", .str "pair_with" 1426, .ref 754⟩, ⟨PyData.keyHash P "minus_pair", .str "minus_pair" 1433, .ref 761⟩, ⟨PyData.keyHash P "spread", .str "spread" 1439, .ref 766⟩, ⟨PyData.keyHash P "called", .str "called" 1445, .ref 771⟩, ⟨PyData.keyHash P "made_pairs", .str "made_pairs" 1451, .ref 776⟩, ⟨PyData.keyHash P "pairs_of", .str "pairs_of" 1457, .ref 873⟩, ⟨PyData.keyHash P "pairs_of_formwork", .str "pairs_of_formwork" 1458, .ref 781⟩, ⟨PyData.keyHash P "told_pair", .str "told_pair" 1467, .ref 788⟩, ⟨PyData.keyHash P "BOUND_OF_ONE", .str "BOUND_OF_ONE" 1471, .ref 789⟩, ⟨PyData.keyHash P "BOUND_OF_UNKNOWN", .str "BOUND_OF_UNKNOWN" 1475, .ref 790⟩, ⟨PyData.keyHash P "bound_plus", .str "bound_plus" 1483, .ref 797⟩, ⟨PyData.keyHash P "bound_times", .str "bound_times" 1491, .ref 804⟩, ⟨PyData.keyHash P "pair_bound_plus", .str "pair_bound_plus" 1499, .ref 811⟩, ⟨PyData.keyHash P "pair_bound_times", .str "pair_bound_times" 1507, .ref 818⟩, ⟨PyData.keyHash P "pair_bound_power", .str "pair_bound_power" 1517, .ref 825⟩, ⟨PyData.keyHash P "call_bounds", .str "call_bounds" 1523, .ref 830⟩, ⟨PyData.keyHash P "made_bounds", .str "made_bounds" 1529, .ref 835⟩, ⟨PyData.keyHash P "are_small", .str "are_small" 1535, .ref 840⟩, ⟨PyData.keyHash P "is_surely_small", .str "is_surely_small" 1541, .ref 845⟩, ⟨PyData.keyHash P "tell_is_great", .str "tell_is_great" 1552, .ref 852⟩, ⟨PyData.keyHash P "form_of_tree", .str "form_of_tree" 1561, .ref 859⟩, ⟨PyData.keyHash P "form_by", .str "form_by" 1569, .ref 866⟩, ⟨PyData.keyHash P "pairs_of_freedomwork", .str "pairs_of_freedomwork" 1583, .ref 873⟩, ⟨PyData.keyHash P "lowered_at", .str "lowered_at" 1591, .ref 880⟩, ⟨PyData.keyHash P "slope", .str "slope" 1597, .ref 885⟩, ⟨PyData.keyHash P "is_kept_by_shifts_of", .str "is_kept_by_shifts_of" 1603, .ref 890⟩, ⟨PyData.keyHash P "times_root", .str "times_root" 1614, .ref 897⟩, ⟨PyData.keyHash P "line_of", .str "line_of" 1626, .ref 904⟩, ⟨PyData.keyHash P "spread_at", .str "spread_at" 1642, .ref 911⟩, ⟨PyData.keyHash P "spread_term", .str "spread_term" 1655, .ref 918⟩, ⟨PyData.keyHash P "rooted_sum", .str "rooted_sum" 1661, .ref 923⟩, ⟨PyData.keyHash P "degree_in_pairs", .str "degree_in_pairs" 1667, .ref 928⟩, ⟨PyData.keyHash P "balance_of", .str "balance_of" 1673, .ref 933⟩, ⟨PyData.keyHash P "is_kept_by_turns_of", .str "is_kept_by_turns_of" 1681, .ref 940⟩, ⟨PyData.keyHash P "sums_by", .str "sums_by" 1690, .ref 947⟩, ⟨PyData.keyHash P "are_kept", .str "are_kept" 1696, .ref 952⟩, ⟨PyData.keyHash P "is_free_by", .str "is_free_by" 1704, .ref 959⟩, ⟨PyData.keyHash P "MOST_DEEP", .str "MOST_DEEP" 1708, .int 12 1707⟩, ⟨PyData.keyHash P "SIGN", .str "SIGN" 1710, .str "sign" 1709⟩, ⟨PyData.keyHash P "FORM", .str "FORM" 1712, .str "form" 1711⟩]⟩ 162), ⟨[]⟩⟩
noncomputable def o40_4 : Obj := ⟨.none, none, (.fields ⟨[.int 2 0, .int 0 0, .ref 48, .int 6 0, .int 0 0, .ref 55, .int 8 0, .int 0 0, .ref 69, .int 13 0, .int 0 0, .ref 90, .int 18 0, .int 0 0, .ref 111, .int 23 0, .int 0 0, .ref 131, .int 26 0, .int 0 0, .ref 143, .int 28 0, .int 0 0, .ref 148, .int 30 0, .int 0 0, .ref 155, .int 32 0, .int 0 0, .ref 160, .int 34 0, .int 0 0, .ref 165, .int 36 0, .int 0 0, .ref 172, .int 41 0, .int 0 0, .ref 177, .int 43 0, .int 0 0, .ref 184, .int 45 0, .int 0 0, .ref 189, .int 52 0, .int 0 0, .ref 196, .int 57 0, .int 0 0, .ref 201, .int 59 0, .int 0 0, .ref 206, .int 61 0, .int 0 0, .ref 213, .int 63 0, .int 0 0, .ref 220, .int 68 0, .int 0 0, .ref 227, .int 70 0, .int 0 0, .ref 232, .int 72 0, .int 0 0, .ref 237, .int 82 0, .int 0 0, .ref 242, .int 84 0, .int 0 0, .ref 247, .int 86 0, .int 0 0, .ref 254, .int 97 0, .int 0 0, .ref 259, .int 110 0, .int 0 0, .ref 266, .int 115 0, .int 0 0, .ref 273, .int 120 0, .int 0 0, .ref 278, .int 126 0, .int 0 0, .ref 285, .int 133 0, .int 0 0, .ref 292, .int 139 0, .int 0 0, .ref 297, .int 141 0, .int 0 0, .ref 304, .int 149 0, .int 0 0, .ref 311, .int 154 0, .int 0 0, .ref 318, .int 156 0, .int 0 0, .ref 325, .int 162 0, .int 0 0, .ref 332, .int 169 0, .int 0 0, .ref 337, .int 176 0, .int 0 0, .ref 342, .int 178 0, .int 0 0, .ref 347, .int 184 0, .int 0 0, .ref 354, .int 191 0, .int 0 0, .ref 359, .int 200 0, .int 0 0, .ref 364, .int 204 0, .int 0 0, .ref 371, .int 206 0, .int 0 0, .ref 378, .int 210 0, .int 0 0, .ref 385, .int 217 0, .int 0 0, .ref 392, .int 226 0, .int 0 0, .ref 399, .int 231 0, .int 0 0, .ref 406, .int 233 0, .int 0 0, .ref 414, .int 235 0, .int 0 0, .ref 421, .int 237 0, .int 0 0, .ref 428, .int 239 0, .int 0 0, .ref 435, .int 251 0, .int 0 0, .ref 440, .int 254 0, .int 0 0, .ref 447, .int 258 0, .int 0 0, .ref 454, .int 268 0, .int 0 0, .ref 459, .int 270 0, .int 0 0, .ref 466, .int 272 0, .int 0 0, .ref 473, .int 274 0, .int 0 0, .ref 480, .int 276 0, .int 0 0, .ref 487, .int 284 0, .int 0 0, .ref 496, .int 290 0, .int 0 0, .ref 503, .int 298 0, .int 0 0, .ref 508, .int 317 0, .int 0 0, .ref 518, .int 319 0, .int 0 0, .ref 523, .int 321 0, .int 0 0, .ref 528, .int 323 0, .int 0 0, .ref 533, .int 327 0, .int 0 0, .ref 540, .int 331 0, .int 0 0, .ref 547, .int 335 0, .int 0 0, .ref 554, .int 347 0, .int 0 0, .ref 561, .int 379 0, .int 0 0, .ref 608, .int 386 0, .int 0 0, .ref 615, .int 388 0, .int 0 0, .ref 620, .int 390 0, .int 0 0, .ref 627, .int 398 0, .int 0 0, .ref 634, .int 403 0, .int 0 0, .ref 639, .int 418 0, .int 0 0, .ref 646, .int 420 0, .int 0 0, .ref 653, .int 422 0, .int 0 0, .ref 660, .int 429 0, .int 0 0, .ref 667, .int 459 0, .int 0 0, .ref 718, .int 463 0, .int 0 0, .ref 725, .int 465 0, .int 0 0, .ref 732, .int 467 0, .int 0 0, .ref 739, .int 469 0, .int 0 0, .ref 746, .int 471 0, .int 0 0, .ref 753, .int 475 0, .int 0 0, .ref 760, .int 477 0, .int 0 0, .ref 765, .int 481 0, .int 0 0, .ref 770, .int 494 0, .int 0 0, .ref 775, .int 513 0, .int 0 0, .ref 780, .int 527 0, .int 0 0, .ref 787, .int 532 0, .int 0 0, .ref 796, .int 534 0, .int 0 0, .ref 803, .int 536 0, .int 0 0, .ref 810, .int 538 0, .int 0 0, .ref 817, .int 540 0, .int 0 0, .ref 824, .int 545 0, .int 0 0, .ref 829, .int 559 0, .int 0 0, .ref 834, .int 575 0, .int 0 0, .ref 839, .int 580 0, .int 0 0, .ref 844, .int 595 0, .int 0 0, .ref 851, .int 604 0, .int 0 0, .ref 858, .int 607 0, .int 0 0, .ref 865, .int 610 0, .int 0 0, .ref 872, .int 620 0, .int 0 0, .ref 879, .int 622 0, .int 0 0, .ref 884, .int 630 0, .int 0 0, .ref 889, .int 633 0, .int 0 0, .ref 896, .int 641 0, .int 0 0, .ref 903, .int 648 0, .int 0 0, .ref 910, .int 658 0, .int 0 0, .ref 917, .int 663 0, .int 0 0, .ref 922, .int 673 0, .int 0 0, .ref 927, .int 676 0, .int 0 0, .ref 932, .int 680 0, .int 0 0, .ref 939, .int 682 0, .int 0 0, .ref 946, .int 685 0, .int 0 0, .ref 951, .int 687 0, .int 0 0, .ref 958]⟩), ⟨[]⟩⟩
noncomputable def o610_4 : Obj := ⟨.type "tuple", none, (.seq ⟨[]⟩ 0), ⟨[]⟩⟩
noncomputable def o611_4 : Obj := ⟨.none, none, (.fields ⟨[]⟩), ⟨[]⟩⟩
noncomputable def o612_4 : Obj := ⟨.type "tuple", none, (.seq ⟨[.str "rows" 1231, .str "tree" 1232]⟩ 0), ⟨[]⟩⟩
noncomputable def o613_4 : Obj := ⟨.type "tuple", none, (.seq ⟨[]⟩ 0), ⟨[]⟩⟩
noncomputable def o614_4 : Obj := ⟨.none, none, (.func (fQ (topS 102) "size_by" "size_by" 0 [] (.none) (.none) (.none) (.none) none (.none) (.none) 0)), ⟨[]⟩⟩
noncomputable def o615_4 : Obj := ⟨.type "code", none, (.fields ⟨[.str "size_by" 1228, .str "size_by" 1229, .str "/claim/cut.py" 1230, .int 386 0, .int 2 0, .int 0 0, .int 0 0, .int 3 0, .ref 610, .bool true, .int 374 0, .ref 611, .none, .ref 612, .ref 613, .ref 614, .int 1233 0, .int 386 0, .str "/claim/cut.py" 1234]⟩), ⟨[]⟩⟩
noncomputable def o616_4 : Obj := ⟨.type "function", none, (.func (fQ (topS 102) "size_by" "size_by" 3 [] (.none) (.none) (.none) (.str "frametongue.namework" 1030) none (.ref 615) (.none) 0)), ⟨[]⟩⟩
noncomputable def o617_4 : Obj := ⟨.type "tuple", none, (.seq ⟨[]⟩ 0), ⟨[]⟩⟩
noncomputable def o618_4 : Obj := ⟨.none, none, (.fields ⟨[]⟩), ⟨[]⟩⟩
noncomputable def o619_4 : Obj := ⟨.none, none, (.func (fQ (topS 103) "own_trees" "own_trees" 0 [] (.none) (.none) (.none) (.none) none (.none) (.none) 0)), ⟨[]⟩⟩
noncomputable def o620_4 : Obj := ⟨.type "code", none, (.fields ⟨[.str "own_trees" 1236, .str "own_trees" 1237, .str "/claim/cut.py" 1238, .int 388 0, .int 3 0, .int 0 0, .int 0 0, .int 3 0, .ref 617, .bool true, .int 374 0, .ref 618, .none, .none, .none, .ref 619, .int 1239 0, .int 388 0, .str "/claim/cut.py" 1240]⟩), ⟨[]⟩⟩
noncomputable def o621_4 : Obj := ⟨.type "function", none, (.func (fQ (topS 103) "own_trees" "own_trees" 3 [] (.none) (.none) (.none) (.str "frametongue.namework" 1030) none (.ref 620) (.none) 0)), ⟨[]⟩⟩
noncomputable def o622_4 : Obj := ⟨.type "tuple", none, (.seq ⟨[]⟩ 0), ⟨[]⟩⟩
noncomputable def o623_4 : Obj := ⟨.none, none, (.fields ⟨[]⟩), ⟨[]⟩⟩
noncomputable def o624_4 : Obj := ⟨.type "tuple", none, (.seq ⟨[.str "known" 1245, .str "here" 1246, .str "told" 1247, .str "with_lets" 1248]⟩ 0), ⟨[]⟩⟩
noncomputable def o625_4 : Obj := ⟨.type "tuple", none, (.seq ⟨[]⟩ 0), ⟨[]⟩⟩
noncomputable def o626_4 : Obj := ⟨.none, none, (.func (fQ (topS 104) "stands_for" "stands_for" 0 [] (.none) (.none) (.none) (.none) none (.none) (.none) 0)), ⟨[]⟩⟩
noncomputable def o627_4 : Obj := ⟨.type "code", none, (.fields ⟨[.str "stands_for" 1242, .str "stands_for" 1243, .str "/claim/cut.py" 1244, .int 390 0, .int 4 0, .int 0 0, .int 0 0, .int 3 0, .ref 622, .bool true, .int 374 0, .ref 623, .none, .ref 624, .ref 625, .ref 626, .int 1249 0, .int 390 0, .str "/claim/cut.py" 1250]⟩), ⟨[]⟩⟩
noncomputable def o628_4 : Obj := ⟨.type "function", none, (.func (fQ (topS 104) "stands_for" "stands_for" 3 [] (.none) (.none) (.none) (.str "frametongue.namework" 1030) none (.ref 627) (.none) 0)), ⟨[]⟩⟩
noncomputable def o629_4 : Obj := ⟨.type "tuple", none, (.seq ⟨[]⟩ 0), ⟨[]⟩⟩
noncomputable def o630_4 : Obj := ⟨.none, none, (.fields ⟨[]⟩), ⟨[]⟩⟩
noncomputable def o631_4 : Obj := ⟨.type "tuple", none, (.seq ⟨[.str "known" 1255, .str "tree" 1256, .str "names" 1257, .str "with_lets" 1258, .str "here" 1259, .str "later" 1260]⟩ 0), ⟨[]⟩⟩
noncomputable def o632_4 : Obj := ⟨.type "tuple", none, (.seq ⟨[]⟩ 0), ⟨[]⟩⟩
noncomputable def o633_4 : Obj := ⟨.none, none, (.func (fQ (topS 105) "led_on" "led_on" 0 [] (.none) (.none) (.none) (.none) none (.none) (.none) 0)), ⟨[]⟩⟩
noncomputable def o634_4 : Obj := ⟨.type "code", none, (.fields ⟨[.str "led_on" 1252, .str "led_on" 1253, .str "/claim/cut.py" 1254, .int 398 0, .int 4 0, .int 0 0, .int 0 0, .int 3 0, .ref 629, .bool true, .int 374 0, .ref 630, .none, .ref 631, .ref 632, .ref 633, .int 1261 0, .int 398 0, .str "/claim/cut.py" 1262]⟩), ⟨[]⟩⟩
noncomputable def o635_4 : Obj := ⟨.type "function", none, (.func (fQ (topS 105) "led_on" "led_on" 3 [] (.none) (.none) (.none) (.str "frametongue.namework" 1030) none (.ref 634) (.none) 0)), ⟨[]⟩⟩
noncomputable def o636_4 : Obj := ⟨.type "tuple", none, (.seq ⟨[]⟩ 0), ⟨[]⟩⟩
noncomputable def o637_4 : Obj := ⟨.none, none, (.fields ⟨[]⟩), ⟨[]⟩⟩
noncomputable def o638_4 : Obj := ⟨.none, none, (.func (fQ (topS 106) "put_in_all" "put_in_all" 0 [] (.none) (.none) (.none) (.none) none (.none) (.none) 0)), ⟨[]⟩⟩
noncomputable def o639_4 : Obj := ⟨.type "code", none, (.fields ⟨[.str "put_in_all" 1264, .str "put_in_all" 1265, .str "/claim/cut.py" 1266, .int 403 0, .int 3 0, .int 0 0, .int 0 0, .int 3 0, .ref 636, .bool true, .int 374 0, .ref 637, .none, .none, .none, .ref 638, .int 1267 0, .int 403 0, .str "/claim/cut.py" 1268]⟩), ⟨[]⟩⟩
noncomputable def o640_4 : Obj := ⟨.type "function", none, (.func (fQ (topS 106) "put_in_all" "put_in_all" 3 [] (.none) (.none) (.none) (.str "frametongue.namework" 1030) none (.ref 639) (.none) 0)), ⟨[]⟩⟩
noncomputable def o641_4 : Obj := ⟨.type "tuple", none, (.seq ⟨[]⟩ 0), ⟨[]⟩⟩
noncomputable def o642_4 : Obj := ⟨.none, none, (.fields ⟨[]⟩), ⟨[]⟩⟩
noncomputable def o643_4 : Obj := ⟨.type "tuple", none, (.seq ⟨[.str "rows" 1273, .str "tree" 1274]⟩ 0), ⟨[]⟩⟩
noncomputable def o644_4 : Obj := ⟨.type "tuple", none, (.seq ⟨[]⟩ 0), ⟨[]⟩⟩
noncomputable def o645_4 : Obj := ⟨.none, none, (.func (fQ (topS 107) "put_in_tree" "put_in_tree" 0 [] (.none) (.none) (.none) (.none) none (.none) (.none) 0)), ⟨[]⟩⟩
noncomputable def o646_4 : Obj := ⟨.type "code", none, (.fields ⟨[.str "put_in_tree" 1270, .str "put_in_tree" 1271, .str "/claim/cut.py" 1272, .int 418 0, .int 2 0, .int 0 0, .int 0 0, .int 3 0, .ref 641, .bool true, .int 374 0, .ref 642, .none, .ref 643, .ref 644, .ref 645, .int 1275 0, .int 418 0, .str "/claim/cut.py" 1276]⟩), ⟨[]⟩⟩
noncomputable def o647_4 : Obj := ⟨.type "function", none, (.func (fQ (topS 107) "put_in_tree" "put_in_tree" 3 [] (.none) (.none) (.none) (.str "frametongue.namework" 1030) none (.ref 646) (.none) 0)), ⟨[]⟩⟩
noncomputable def o648_4 : Obj := ⟨.type "tuple", none, (.seq ⟨[]⟩ 0), ⟨[]⟩⟩
noncomputable def o649_4 : Obj := ⟨.none, none, (.fields ⟨[]⟩), ⟨[]⟩⟩
noncomputable def o650_4 : Obj := ⟨.type "tuple", none, (.seq ⟨[.str "rows" 1281, .str "tell" 1282]⟩ 0), ⟨[]⟩⟩
noncomputable def o651_4 : Obj := ⟨.type "tuple", none, (.seq ⟨[]⟩ 0), ⟨[]⟩⟩
noncomputable def o652_4 : Obj := ⟨.none, none, (.func (fQ (topS 108) "put_in_by" "put_in_by" 0 [] (.none) (.none) (.none) (.none) none (.none) (.none) 0)), ⟨[]⟩⟩
noncomputable def o653_4 : Obj := ⟨.type "code", none, (.fields ⟨[.str "put_in_by" 1278, .str "put_in_by" 1279, .str "/claim/cut.py" 1280, .int 420 0, .int 2 0, .int 0 0, .int 0 0, .int 3 0, .ref 648, .bool true, .int 374 0, .ref 649, .none, .ref 650, .ref 651, .ref 652, .int 1283 0, .int 420 0, .str "/claim/cut.py" 1284]⟩), ⟨[]⟩⟩
noncomputable def o654_4 : Obj := ⟨.type "function", none, (.func (fQ (topS 108) "put_in_by" "put_in_by" 3 [] (.none) (.none) (.none) (.str "frametongue.namework" 1030) none (.ref 653) (.none) 0)), ⟨[]⟩⟩
noncomputable def o655_4 : Obj := ⟨.type "tuple", none, (.seq ⟨[]⟩ 0), ⟨[]⟩⟩
noncomputable def o656_4 : Obj := ⟨.none, none, (.fields ⟨[]⟩), ⟨[]⟩⟩
noncomputable def o657_4 : Obj := ⟨.type "tuple", none, (.seq ⟨[.str "rows" 1289, .str "row" 1290]⟩ 0), ⟨[]⟩⟩
noncomputable def o658_4 : Obj := ⟨.type "tuple", none, (.seq ⟨[]⟩ 0), ⟨[]⟩⟩
noncomputable def o659_4 : Obj := ⟨.none, none, (.func (fQ (topS 109) "is_great_put_in" "is_great_put_in" 0 [] (.none) (.none) (.none) (.none) none (.none) (.none) 0)), ⟨[]⟩⟩
noncomputable def o660_4 : Obj := ⟨.type "code", none, (.fields ⟨[.str "is_great_put_in" 1286, .str "is_great_put_in" 1287, .str "/claim/cut.py" 1288, .int 422 0, .int 2 0, .int 0 0, .int 0 0, .int 3 0, .ref 655, .bool true, .int 374 0, .ref 656, .none, .ref 657, .ref 658, .ref 659, .int 1291 0, .int 422 0, .str "/claim/cut.py" 1292]⟩), ⟨[]⟩⟩
noncomputable def o661_4 : Obj := ⟨.type "function", none, (.func (fQ (topS 109) "is_great_put_in" "is_great_put_in" 3 [] (.none) (.none) (.none) (.str "frametongue.namework" 1030) none (.ref 660) (.none) 0)), ⟨[]⟩⟩
noncomputable def o662_4 : Obj := ⟨.type "tuple", none, (.seq ⟨[]⟩ 0), ⟨[]⟩⟩
noncomputable def o663_4 : Obj := ⟨.type "builtin_function_or_method", none, (.fields ⟨[.builtin "type.__prepare__", .type "type"]⟩), ⟨[]⟩⟩
noncomputable def o664_4 (P : Params) : Obj := ⟨.type "dict", none, (.dict ⟨[⟨PyData.keyHash P "__module__", .str "__module__" 1311, .str "frametongue.formwork" 1294⟩, ⟨PyData.keyHash P "__qualname__", .str "__qualname__" 1313, .str "Unknowns" 1312⟩, ⟨PyData.keyHash P "__firstlineno__", .str "__firstlineno__" 1315, .int 429 1314⟩, ⟨PyData.keyHash P "__init__", .str "__init__" 1328, .ref 676⟩, ⟨PyData.keyHash P "number", .str "number" 1336, .ref 683⟩, ⟨PyData.keyHash P "named", .str "named" 1342, .ref 688⟩, ⟨PyData.keyHash P "deed", .str "deed" 1352, .ref 695⟩, ⟨PyData.keyHash P "power", .str "power" 1361, .ref 702⟩, ⟨PyData.keyHash P "looked_at", .str "looked_at" 1367, .ref 707⟩, ⟨PyData.keyHash P "__static_attributes__", .str "__static_attributes__" 1372, .ref 708⟩]⟩ 10), ⟨[]⟩⟩
noncomputable def o665_4 : Obj := ⟨.type "tuple", none, (.seq ⟨[]⟩ 0), ⟨[]⟩⟩
noncomputable def o666_4 : Obj := ⟨.none, none, (.fields ⟨[.int 431 0, .int 4 0, .ref 675, .int 441 0, .int 4 0, .ref 682, .int 444 0, .int 4 0, .ref 687, .int 447 0, .int 4 0, .ref 694, .int 450 0, .int 4 0, .ref 701, .int 455 0, .int 4 0, .ref 706]⟩), ⟨[]⟩⟩
noncomputable def o667_4 : Obj := ⟨.type "code", none, (.fields ⟨[.str "Unknowns" 1306, .str "Unknowns" 1307, .str "/claim/cut.py" 1308, .int 429 0, .int 0 0, .int 0 0, .int 0 0, .int 0 0, .ref 665, .bool false, .int 374 0, .ref 666, .none, .none, .none, .none, .int 1309 0, .int 429 0, .str "/claim/cut.py" 1310]⟩), ⟨[]⟩⟩
noncomputable def o668_4 : Obj := ⟨.type "frame", none, .plain, ⟨[(some (.ref 667)), (some (.ref 3)), (some (.ref 664)), none, (some (.str "frametongue.formwork" 1294)), none, (some (.ref 0))]⟩⟩
noncomputable def o669_4 : Obj := ⟨.type "tuple", none, (.seq ⟨[.bool false]⟩ 0), ⟨[]⟩⟩
noncomputable def o670_4 : Obj := ⟨.type "tuple", none, (.seq ⟨[]⟩ 0), ⟨[]⟩⟩
noncomputable def o671_4 : Obj := ⟨.none, none, (.fields ⟨[]⟩), ⟨[]⟩⟩
noncomputable def o672_4 : Obj := ⟨.type "tuple", none, (.seq ⟨[.str "self" 1319, .str "givens" 1320, .str "is_bounded" 1321, .str "is_lowest" 1322, .str "name" 1323, .str "sort" 1324, .str "wide" 1325]⟩ 0), ⟨[]⟩⟩
noncomputable def o673_4 : Obj := ⟨.type "tuple", none, (.seq ⟨[]⟩ 0), ⟨[]⟩⟩
noncomputable def o674_4 : Obj := ⟨.none, none, (.func (fQ (inClass (topS 115) 0) "__init__" "Unknowns.__init__" 0 [] (.none) (.none) (.none) (.none) none (.none) (.none) 0)), ⟨[]⟩⟩
noncomputable def o675_4 : Obj := ⟨.type "code", none, (.fields ⟨[.str "__init__" 1316, .str "Unknowns.__init__" 1317, .str "/claim/cut.py" 1318, .int 431 0, .int 4 0, .int 0 0, .int 0 0, .int 3 0, .ref 670, .bool true, .int 374 0, .ref 671, .none, .ref 672, .ref 673, .ref 674, .int 1326 0, .int 431 0, .str "/claim/cut.py" 1327]⟩), ⟨[]⟩⟩
noncomputable def o676_4 : Obj := ⟨.type "function", none, (.func (fQ (inClass (topS 115) 0) "__init__" "Unknowns.__init__" 3 [] (.ref 669) (.none) (.none) (.str "frametongue.formwork" 1294) none (.ref 675) (.none) 0)), ⟨[]⟩⟩
noncomputable def o677_4 : Obj := ⟨.type "tuple", none, (.seq ⟨[]⟩ 0), ⟨[]⟩⟩
noncomputable def o678_4 : Obj := ⟨.none, none, (.fields ⟨[]⟩), ⟨[]⟩⟩
noncomputable def o679_4 : Obj := ⟨.type "tuple", none, (.seq ⟨[.str "self" 1332, .str "number" 1333]⟩ 0), ⟨[]⟩⟩
noncomputable def o680_4 : Obj := ⟨.type "tuple", none, (.seq ⟨[]⟩ 0), ⟨[]⟩⟩
noncomputable def o681_4 : Obj := ⟨.none, none, (.func (fQ (inClass (topS 115) 1) "number" "Unknowns.number" 0 [] (.none) (.none) (.none) (.none) none (.none) (.none) 0)), ⟨[]⟩⟩
noncomputable def o682_4 : Obj := ⟨.type "code", none, (.fields ⟨[.str "number" 1329, .str "Unknowns.number" 1330, .str "/claim/cut.py" 1331, .int 441 0, .int 2 0, .int 0 0, .int 0 0, .int 3 0, .ref 677, .bool true, .int 374 0, .ref 678, .none, .ref 679, .ref 680, .ref 681, .int 1334 0, .int 441 0, .str "/claim/cut.py" 1335]⟩), ⟨[]⟩⟩
noncomputable def o683_4 : Obj := ⟨.type "function", none, (.func (fQ (inClass (topS 115) 1) "number" "Unknowns.number" 3 [] (.none) (.none) (.none) (.str "frametongue.formwork" 1294) none (.ref 682) (.none) 0)), ⟨[]⟩⟩
noncomputable def o684_4 : Obj := ⟨.type "tuple", none, (.seq ⟨[]⟩ 0), ⟨[]⟩⟩
noncomputable def o685_4 : Obj := ⟨.none, none, (.fields ⟨[]⟩), ⟨[]⟩⟩
noncomputable def o686_4 : Obj := ⟨.none, none, (.func (fQ (inClass (topS 115) 2) "named" "Unknowns.named" 0 [] (.none) (.none) (.none) (.none) none (.none) (.none) 0)), ⟨[]⟩⟩
noncomputable def o687_4 : Obj := ⟨.type "code", none, (.fields ⟨[.str "named" 1337, .str "Unknowns.named" 1338, .str "/claim/cut.py" 1339, .int 444 0, .int 2 0, .int 0 0, .int 0 0, .int 3 0, .ref 684, .bool true, .int 374 0, .ref 685, .none, .none, .none, .ref 686, .int 1340 0, .int 444 0, .str "/claim/cut.py" 1341]⟩), ⟨[]⟩⟩
noncomputable def o688_4 : Obj := ⟨.type "function", none, (.func (fQ (inClass (topS 115) 2) "named" "Unknowns.named" 3 [] (.none) (.none) (.none) (.str "frametongue.formwork" 1294) none (.ref 687) (.none) 0)), ⟨[]⟩⟩
noncomputable def o689_4 : Obj := ⟨.type "tuple", none, (.seq ⟨[]⟩ 0), ⟨[]⟩⟩
noncomputable def o690_4 : Obj := ⟨.none, none, (.fields ⟨[]⟩), ⟨[]⟩⟩
noncomputable def o691_4 : Obj := ⟨.type "tuple", none, (.seq ⟨[.str "self" 1346, .str "word" 1347, .str "one" 1348, .str "other" 1349]⟩ 0), ⟨[]⟩⟩
noncomputable def o692_4 : Obj := ⟨.type "tuple", none, (.seq ⟨[]⟩ 0), ⟨[]⟩⟩
noncomputable def o693_4 : Obj := ⟨.none, none, (.func (fQ (inClass (topS 115) 3) "deed" "Unknowns.deed" 0 [] (.none) (.none) (.none) (.none) none (.none) (.none) 0)), ⟨[]⟩⟩
noncomputable def o694_4 : Obj := ⟨.type "code", none, (.fields ⟨[.str "deed" 1343, .str "Unknowns.deed" 1344, .str "/claim/cut.py" 1345, .int 447 0, .int 4 0, .int 0 0, .int 0 0, .int 3 0, .ref 689, .bool true, .int 374 0, .ref 690, .none, .ref 691, .ref 692, .ref 693, .int 1350 0, .int 447 0, .str "/claim/cut.py" 1351]⟩), ⟨[]⟩⟩
noncomputable def o695_4 : Obj := ⟨.type "function", none, (.func (fQ (inClass (topS 115) 3) "deed" "Unknowns.deed" 3 [] (.none) (.none) (.none) (.str "frametongue.formwork" 1294) none (.ref 694) (.none) 0)), ⟨[]⟩⟩
noncomputable def o696_4 : Obj := ⟨.type "tuple", none, (.seq ⟨[]⟩ 0), ⟨[]⟩⟩
noncomputable def o697_4 : Obj := ⟨.none, none, (.fields ⟨[]⟩), ⟨[]⟩⟩
noncomputable def o698_4 : Obj := ⟨.type "tuple", none, (.seq ⟨[.str "self" 1356, .str "pair" 1357, .str "exponent" 1358]⟩ 0), ⟨[]⟩⟩
noncomputable def o699_4 : Obj := ⟨.type "tuple", none, (.seq ⟨[]⟩ 0), ⟨[]⟩⟩
noncomputable def o700_4 : Obj := ⟨.none, none, (.func (fQ (inClass (topS 115) 4) "power" "Unknowns.power" 0 [] (.none) (.none) (.none) (.none) none (.none) (.none) 0)), ⟨[]⟩⟩
noncomputable def o701_4 : Obj := ⟨.type "code", none, (.fields ⟨[.str "power" 1353, .str "Unknowns.power" 1354, .str "/claim/cut.py" 1355, .int 450 0, .int 3 0, .int 0 0, .int 0 0, .int 3 0, .ref 696, .bool true, .int 374 0, .ref 697, .none, .ref 698, .ref 699, .ref 700, .int 1359 0, .int 450 0, .str "/claim/cut.py" 1360]⟩), ⟨[]⟩⟩
noncomputable def o702_4 : Obj := ⟨.type "function", none, (.func (fQ (inClass (topS 115) 4) "power" "Unknowns.power" 3 [] (.none) (.none) (.none) (.str "frametongue.formwork" 1294) none (.ref 701) (.none) 0)), ⟨[]⟩⟩
noncomputable def o703_4 : Obj := ⟨.type "tuple", none, (.seq ⟨[]⟩ 0), ⟨[]⟩⟩
noncomputable def o704_4 : Obj := ⟨.none, none, (.fields ⟨[]⟩), ⟨[]⟩⟩
noncomputable def o705_4 : Obj := ⟨.none, none, (.func (fQ (inClass (topS 115) 5) "looked_at" "Unknowns.looked_at" 0 [] (.none) (.none) (.none) (.none) none (.none) (.none) 0)), ⟨[]⟩⟩
noncomputable def o706_4 : Obj := ⟨.type "code", none, (.fields ⟨[.str "looked_at" 1362, .str "Unknowns.looked_at" 1363, .str "/claim/cut.py" 1364, .int 455 0, .int 2 0, .int 0 0, .int 0 0, .int 3 0, .ref 703, .bool true, .int 374 0, .ref 704, .none, .none, .none, .ref 705, .int 1365 0, .int 455 0, .str "/claim/cut.py" 1366]⟩), ⟨[]⟩⟩
noncomputable def o707_4 : Obj := ⟨.type "function", none, (.func (fQ (inClass (topS 115) 5) "looked_at" "Unknowns.looked_at" 3 [] (.none) (.none) (.none) (.str "frametongue.formwork" 1294) none (.ref 706) (.none) 0)), ⟨[]⟩⟩
noncomputable def o708_4 : Obj := ⟨.type "tuple", none, (.seq ⟨[.str "is_bounded" 1368, .str "is_lowest" 1369, .str "many" 1370, .str "places" 1371]⟩ 0), ⟨[]⟩⟩
noncomputable def o709_4 (P : Params) : Obj := ⟨.type "dict", none, (.dict ⟨[⟨PyData.keyHash P "__module__", .str "__module__" 1311, .str "frametongue.formwork" 1294⟩, ⟨PyData.keyHash P "__firstlineno__", .str "__firstlineno__" 1315, .int 429 1314⟩, ⟨PyData.keyHash P "__init__", .str "__init__" 1328, .ref 676⟩, ⟨PyData.keyHash P "number", .str "number" 1336, .ref 683⟩, ⟨PyData.keyHash P "named", .str "named" 1342, .ref 688⟩, ⟨PyData.keyHash P "deed", .str "deed" 1352, .ref 695⟩, ⟨PyData.keyHash P "power", .str "power" 1361, .ref 702⟩, ⟨PyData.keyHash P "looked_at", .str "looked_at" 1367, .ref 707⟩, ⟨PyData.keyHash P "__static_attributes__", .str "__static_attributes__" 1372, .ref 708⟩, ⟨PyData.keyHash P "__dict__", .str "__dict__" 1374, .ref 711⟩, ⟨PyData.keyHash P "__weakref__", .str "__weakref__" 1376, .ref 712⟩, ⟨PyData.keyHash P "__doc__", .str "__doc__" 1377, .none⟩]⟩ 4), ⟨[]⟩⟩
noncomputable def o710_4 : Obj := ⟨.type "type", none, (.cls ⟨"Unknowns", [.type "object"], [.ref 710, .type "object"], 709, "Unknowns", true, [], [], false, none, false⟩), ⟨[none, none, (some (.str "Unknowns" 1304)), (some (.str "Unknowns" 1312)), (some (.builtin "object.__new__")), (some (.bool true))]⟩⟩
noncomputable def o711_4 : Obj := ⟨.type "getset_descriptor", none, (.fields ⟨[.str "__dict__" 1373, .ref 710, .builtin "function.__dict__", .builtin "function.__dict__#set"]⟩), ⟨[]⟩⟩
noncomputable def o712_4 : Obj := ⟨.type "getset_descriptor", none, (.fields ⟨[.str "__weakref__" 1375, .ref 710, .builtin "ExceptionGroup.__weakref__", .none]⟩), ⟨[]⟩⟩
noncomputable def o713_4 : Obj := ⟨.type "super", none, (.fields ⟨[.ref 710, .ref 710, .ref 710]⟩), ⟨[]⟩⟩
noncomputable def o714_4 : Obj := ⟨.type "builtin_function_or_method", none, (.fields ⟨[.builtin "object.__init_subclass__", .ref 710]⟩), ⟨[]⟩⟩
noncomputable def o715_4 : Obj := ⟨.type "tuple", none, (.seq ⟨[]⟩ 0), ⟨[]⟩⟩
noncomputable def o716_4 : Obj := ⟨.none, none, (.fields ⟨[]⟩), ⟨[]⟩⟩
noncomputable def o717_4 : Obj := ⟨.none, none, (.func (fQ (topS 116) "is_great_sum" "is_great_sum" 0 [] (.none) (.none) (.none) (.none) none (.none) (.none) 0)), ⟨[]⟩⟩
noncomputable def o718_4 : Obj := ⟨.type "code", none, (.fields ⟨[.str "is_great_sum" 1380, .str "is_great_sum" 1381, .str "/claim/cut.py" 1382, .int 459 0, .int 1 0, .int 0 0, .int 0 0, .int 3 0, .ref 715, .bool true, .int 374 0, .ref 716, .none, .none, .none, .ref 717, .int 1383 0, .int 459 0, .str "/claim/cut.py" 1384]⟩), ⟨[]⟩⟩
noncomputable def o719_4 : Obj := ⟨.type "function", none, (.func (fQ (topS 116) "is_great_sum" "is_great_sum" 3 [] (.none) (.none) (.none) (.str "frametongue.formwork" 1294) none (.ref 718) (.none) 0)), ⟨[]⟩⟩
noncomputable def o720_4 : Obj := ⟨.type "tuple", none, (.seq ⟨[]⟩ 0), ⟨[]⟩⟩
noncomputable def o721_4 : Obj := ⟨.none, none, (.fields ⟨[]⟩), ⟨[]⟩⟩
noncomputable def o722_4 : Obj := ⟨.type "tuple", none, (.seq ⟨[.str "one" 1389, .str "other" 1390]⟩ 0), ⟨[]⟩⟩
noncomputable def o723_4 : Obj := ⟨.type "tuple", none, (.seq ⟨[]⟩ 0), ⟨[]⟩⟩
noncomputable def o724_4 : Obj := ⟨.none, none, (.func (fQ (topS 117) "plus_pair" "plus_pair" 0 [] (.none) (.none) (.none) (.none) none (.none) (.none) 0)), ⟨[]⟩⟩
noncomputable def o725_4 : Obj := ⟨.type "code", none, (.fields ⟨[.str "plus_pair" 1386, .str "plus_pair" 1387, .str "/claim/cut.py" 1388, .int 463 0, .int 2 0, .int 0 0, .int 0 0, .int 3 0, .ref 720, .bool true, .int 374 0, .ref 721, .none, .ref 722, .ref 723, .ref 724, .int 1391 0, .int 463 0, .str "/claim/cut.py" 1392]⟩), ⟨[]⟩⟩
noncomputable def o726_4 : Obj := ⟨.type "function", none, (.func (fQ (topS 117) "plus_pair" "plus_pair" 3 [] (.none) (.none) (.none) (.str "frametongue.formwork" 1294) none (.ref 725) (.none) 0)), ⟨[]⟩⟩
noncomputable def o727_4 : Obj := ⟨.type "tuple", none, (.seq ⟨[]⟩ 0), ⟨[]⟩⟩
noncomputable def o728_4 : Obj := ⟨.none, none, (.fields ⟨[]⟩), ⟨[]⟩⟩
noncomputable def o729_4 : Obj := ⟨.type "tuple", none, (.seq ⟨[.str "one" 1397, .str "other" 1398]⟩ 0), ⟨[]⟩⟩
noncomputable def o730_4 : Obj := ⟨.type "tuple", none, (.seq ⟨[]⟩ 0), ⟨[]⟩⟩
noncomputable def o731_4 : Obj := ⟨.none, none, (.func (fQ (topS 118) "less_pair" "less_pair" 0 [] (.none) (.none) (.none) (.none) none (.none) (.none) 0)), ⟨[]⟩⟩
noncomputable def o732_4 : Obj := ⟨.type "code", none, (.fields ⟨[.str "less_pair" 1394, .str "less_pair" 1395, .str "/claim/cut.py" 1396, .int 465 0, .int 2 0, .int 0 0, .int 0 0, .int 3 0, .ref 727, .bool true, .int 374 0, .ref 728, .none, .ref 729, .ref 730, .ref 731, .int 1399 0, .int 465 0, .str "/claim/cut.py" 1400]⟩), ⟨[]⟩⟩
noncomputable def o733_4 : Obj := ⟨.type "function", none, (.func (fQ (topS 118) "less_pair" "less_pair" 3 [] (.none) (.none) (.none) (.str "frametongue.formwork" 1294) none (.ref 732) (.none) 0)), ⟨[]⟩⟩
noncomputable def o734_4 : Obj := ⟨.type "tuple", none, (.seq ⟨[]⟩ 0), ⟨[]⟩⟩
noncomputable def o735_4 : Obj := ⟨.none, none, (.fields ⟨[]⟩), ⟨[]⟩⟩
noncomputable def o736_4 : Obj := ⟨.type "tuple", none, (.seq ⟨[.str "one" 1405, .str "other" 1406]⟩ 0), ⟨[]⟩⟩
noncomputable def o737_4 : Obj := ⟨.type "tuple", none, (.seq ⟨[]⟩ 0), ⟨[]⟩⟩
noncomputable def o738_4 : Obj := ⟨.none, none, (.func (fQ (topS 119) "times_pair" "times_pair" 0 [] (.none) (.none) (.none) (.none) none (.none) (.none) 0)), ⟨[]⟩⟩
noncomputable def o739_4 : Obj := ⟨.type "code", none, (.fields ⟨[.str "times_pair" 1402, .str "times_pair" 1403, .str "/claim/cut.py" 1404, .int 467 0, .int 2 0, .int 0 0, .int 0 0, .int 3 0, .ref 734, .bool true, .int 374 0, .ref 735, .none, .ref 736, .ref 737, .ref 738, .int 1407 0, .int 467 0, .str "/claim/cut.py" 1408]⟩), ⟨[]⟩⟩
noncomputable def o740_4 : Obj := ⟨.type "function", none, (.func (fQ (topS 119) "times_pair" "times_pair" 3 [] (.none) (.none) (.none) (.str "frametongue.formwork" 1294) none (.ref 739) (.none) 0)), ⟨[]⟩⟩
noncomputable def o741_4 : Obj := ⟨.type "tuple", none, (.seq ⟨[]⟩ 0), ⟨[]⟩⟩
noncomputable def o742_4 : Obj := ⟨.none, none, (.fields ⟨[]⟩), ⟨[]⟩⟩
noncomputable def o743_4 : Obj := ⟨.type "tuple", none, (.seq ⟨[.str "one" 1413, .str "other" 1414]⟩ 0), ⟨[]⟩⟩
noncomputable def o744_4 : Obj := ⟨.type "tuple", none, (.seq ⟨[]⟩ 0), ⟨[]⟩⟩
noncomputable def o745_4 : Obj := ⟨.none, none, (.func (fQ (topS 120) "over_pair" "over_pair" 0 [] (.none) (.none) (.none) (.none) none (.none) (.none) 0)), ⟨[]⟩⟩
noncomputable def o746_4 : Obj := ⟨.type "code", none, (.fields ⟨[.str "over_pair" 1410, .str "over_pair" 1411, .str "/claim/cut.py" 1412, .int 469 0, .int 2 0, .int 0 0, .int 0 0, .int 3 0, .ref 741, .bool true, .int 374 0, .ref 742, .none, .ref 743, .ref 744, .ref 745, .int 1415 0, .int 469 0, .str "/claim/cut.py" 1416]⟩), ⟨[]⟩⟩
noncomputable def o747_4 : Obj := ⟨.type "function", none, (.func (fQ (topS 120) "over_pair" "over_pair" 3 [] (.none) (.none) (.none) (.str "frametongue.formwork" 1294) none (.ref 746) (.none) 0)), ⟨[]⟩⟩
noncomputable def o748_4 : Obj := ⟨.type "tuple", none, (.seq ⟨[]⟩ 0), ⟨[]⟩⟩
noncomputable def o749_4 : Obj := ⟨.none, none, (.fields ⟨[]⟩), ⟨[]⟩⟩
noncomputable def o750_4 : Obj := ⟨.type "tuple", none, (.seq ⟨[.str "word" 1421, .str "one" 1422, .str "other" 1423]⟩ 0), ⟨[]⟩⟩
noncomputable def o751_4 : Obj := ⟨.type "tuple", none, (.seq ⟨[]⟩ 0), ⟨[]⟩⟩
noncomputable def o752_4 : Obj := ⟨.none, none, (.func (fQ (topS 121) "pair_with" "pair_with" 0 [] (.none) (.none) (.none) (.none) none (.none) (.none) 0)), ⟨[]⟩⟩
noncomputable def o753_4 : Obj := ⟨.type "code", none, (.fields ⟨[.str "pair_with" 1418, .str "pair_with" 1419, .str "/claim/cut.py" 1420, .int 471 0, .int 3 0, .int 0 0, .int 0 0, .int 3 0, .ref 748, .bool true, .int 374 0, .ref 749, .none, .ref 750, .ref 751, .ref 752, .int 1424 0, .int 471 0, .str "/claim/cut.py" 1425]⟩), ⟨[]⟩⟩
noncomputable def o754_4 : Obj := ⟨.type "function", none, (.func (fQ (topS 121) "pair_with" "pair_with" 3 [] (.none) (.none) (.none) (.str "frametongue.formwork" 1294) none (.ref 753) (.none) 0)), ⟨[]⟩⟩
noncomputable def o755_4 : Obj := ⟨.type "tuple", none, (.seq ⟨[]⟩ 0), ⟨[]⟩⟩
noncomputable def o756_4 : Obj := ⟨.none, none, (.fields ⟨[]⟩), ⟨[]⟩⟩
noncomputable def o757_4 : Obj := ⟨.type "tuple", none, (.seq ⟨[.str "pair" 1430]⟩ 0), ⟨[]⟩⟩
noncomputable def o758_4 : Obj := ⟨.type "tuple", none, (.seq ⟨[]⟩ 0), ⟨[]⟩⟩
noncomputable def o759_4 : Obj := ⟨.none, none, (.func (fQ (topS 122) "minus_pair" "minus_pair" 0 [] (.none) (.none) (.none) (.none) none (.none) (.none) 0)), ⟨[]⟩⟩
noncomputable def o760_4 : Obj := ⟨.type "code", none, (.fields ⟨[.str "minus_pair" 1427, .str "minus_pair" 1428, .str "/claim/cut.py" 1429, .int 475 0, .int 1 0, .int 0 0, .int 0 0, .int 3 0, .ref 755, .bool true, .int 374 0, .ref 756, .none, .ref 757, .ref 758, .ref 759, .int 1431 0, .int 475 0, .str "/claim/cut.py" 1432]⟩), ⟨[]⟩⟩
noncomputable def o761_4 : Obj := ⟨.type "function", none, (.func (fQ (topS 122) "minus_pair" "minus_pair" 3 [] (.none) (.none) (.none) (.str "frametongue.formwork" 1294) none (.ref 760) (.none) 0)), ⟨[]⟩⟩
noncomputable def o762_4 : Obj := ⟨.type "tuple", none, (.seq ⟨[]⟩ 0), ⟨[]⟩⟩
noncomputable def o763_4 : Obj := ⟨.none, none, (.fields ⟨[]⟩), ⟨[]⟩⟩
noncomputable def o764_4 : Obj := ⟨.none, none, (.func (fQ (topS 123) "spread" "spread" 0 [] (.none) (.none) (.none) (.none) none (.none) (.none) 0)), ⟨[]⟩⟩
noncomputable def o765_4 : Obj := ⟨.type "code", none, (.fields ⟨[.str "spread" 1434, .str "spread" 1435, .str "/claim/cut.py" 1436, .int 477 0, .int 4 0, .int 0 0, .int 0 0, .int 3 0, .ref 762, .bool true, .int 374 0, .ref 763, .none, .none, .none, .ref 764, .int 1437 0, .int 477 0, .str "/claim/cut.py" 1438]⟩), ⟨[]⟩⟩
noncomputable def o766_4 : Obj := ⟨.type "function", none, (.func (fQ (topS 123) "spread" "spread" 3 [] (.none) (.none) (.none) (.str "frametongue.formwork" 1294) none (.ref 765) (.none) 0)), ⟨[]⟩⟩
noncomputable def o767_4 : Obj := ⟨.type "tuple", none, (.seq ⟨[]⟩ 0), ⟨[]⟩⟩
noncomputable def o768_4 : Obj := ⟨.none, none, (.fields ⟨[]⟩), ⟨[]⟩⟩
noncomputable def o769_4 : Obj := ⟨.none, none, (.func (fQ (topS 124) "called" "called" 0 [] (.none) (.none) (.none) (.none) none (.none) (.none) 0)), ⟨[]⟩⟩
noncomputable def o770_4 : Obj := ⟨.type "code", none, (.fields ⟨[.str "called" 1440, .str "called" 1441, .str "/claim/cut.py" 1442, .int 481 0, .int 3 0, .int 0 0, .int 0 0, .int 3 0, .ref 767, .bool true, .int 374 0, .ref 768, .none, .none, .none, .ref 769, .int 1443 0, .int 481 0, .str "/claim/cut.py" 1444]⟩), ⟨[]⟩⟩
noncomputable def o771_4 : Obj := ⟨.type "function", none, (.func (fQ (topS 124) "called" "called" 3 [] (.none) (.none) (.none) (.str "frametongue.formwork" 1294) none (.ref 770) (.none) 0)), ⟨[]⟩⟩
noncomputable def o772_4 : Obj := ⟨.type "tuple", none, (.seq ⟨[]⟩ 0), ⟨[]⟩⟩
noncomputable def o773_4 : Obj := ⟨.none, none, (.fields ⟨[]⟩), ⟨[]⟩⟩
noncomputable def o774_4 : Obj := ⟨.none, none, (.func (fQ (topS 125) "made_pairs" "made_pairs" 0 [] (.none) (.none) (.none) (.none) none (.none) (.none) 0)), ⟨[]⟩⟩
noncomputable def o775_4 : Obj := ⟨.type "code", none, (.fields ⟨[.str "made_pairs" 1446, .str "made_pairs" 1447, .str "/claim/cut.py" 1448, .int 494 0, .int 3 0, .int 0 0, .int 0 0, .int 3 0, .ref 772, .bool true, .int 374 0, .ref 773, .none, .none, .none, .ref 774, .int 1449 0, .int 494 0, .str "/claim/cut.py" 1450]⟩), ⟨[]⟩⟩
noncomputable def o776_4 : Obj := ⟨.type "function", none, (.func (fQ (topS 125) "made_pairs" "made_pairs" 3 [] (.none) (.none) (.none) (.str "frametongue.formwork" 1294) none (.ref 775) (.none) 0)), ⟨[]⟩⟩
noncomputable def o777_4 : Obj := ⟨.type "tuple", none, (.seq ⟨[]⟩ 0), ⟨[]⟩⟩
noncomputable def o778_4 : Obj := ⟨.none, none, (.fields ⟨[]⟩), ⟨[]⟩⟩
noncomputable def o779_4 : Obj := ⟨.none, none, (.func (fQ (topS 126) "pairs_of" "pairs_of" 0 [] (.none) (.none) (.none) (.none) none (.none) (.none) 0)), ⟨[]⟩⟩
noncomputable def o780_4 : Obj := ⟨.type "code", none, (.fields ⟨[.str "pairs_of" 1452, .str "pairs_of" 1453, .str "/claim/cut.py" 1454, .int 513 0, .int 2 0, .int 0 0, .int 0 0, .int 3 0, .ref 777, .bool true, .int 374 0, .ref 778, .none, .none, .none, .ref 779, .int 1455 0, .int 513 0, .str "/claim/cut.py" 1456]⟩), ⟨[]⟩⟩
noncomputable def o781_4 : Obj := ⟨.type "function", none, (.func (fQ (topS 126) "pairs_of" "pairs_of" 3 [] (.none) (.none) (.none) (.str "frametongue.formwork" 1294) none (.ref 780) (.none) 0)), ⟨[]⟩⟩
noncomputable def o782_4 : Obj := ⟨.type "tuple", none, (.seq ⟨[]⟩ 0), ⟨[]⟩⟩
noncomputable def o783_4 : Obj := ⟨.none, none, (.fields ⟨[]⟩), ⟨[]⟩⟩
noncomputable def o784_4 : Obj := ⟨.type "tuple", none, (.seq ⟨[.str "unknowns" 1462, .str "tree" 1463, .str "pairs" 1464]⟩ 0), ⟨[]⟩⟩
noncomputable def o785_4 : Obj := ⟨.type "tuple", none, (.seq ⟨[]⟩ 0), ⟨[]⟩⟩
noncomputable def o786_4 : Obj := ⟨.none, none, (.func (fQ (topS 128) "told_pair" "told_pair" 0 [] (.none) (.none) (.none) (.none) none (.none) (.none) 0)), ⟨[]⟩⟩
noncomputable def o787_4 : Obj := ⟨.type "code", none, (.fields ⟨[.str "told_pair" 1459, .str "told_pair" 1460, .str "/claim/cut.py" 1461, .int 527 0, .int 2 0, .int 0 0, .int 0 0, .int 3 0, .ref 782, .bool true, .int 374 0, .ref 783, .none, .ref 784, .ref 785, .ref 786, .int 1465 0, .int 527 0, .str "/claim/cut.py" 1466]⟩), ⟨[]⟩⟩
noncomputable def o788_4 : Obj := ⟨.type "function", none, (.func (fQ (topS 128) "told_pair" "told_pair" 3 [] (.none) (.none) (.none) (.str "frametongue.formwork" 1294) none (.ref 787) (.none) 0)), ⟨[]⟩⟩
noncomputable def o789_4 : Obj := ⟨.type "tuple", none, (.seq ⟨[.int 0 1468, .int 1 1469, .int 1 1470]⟩ 0), ⟨[]⟩⟩
noncomputable def o790_4 : Obj := ⟨.type "tuple", none, (.seq ⟨[.int 1 1472, .int 1 1473, .int 1 1474]⟩ 0), ⟨[]⟩⟩
noncomputable def o791_4 : Obj := ⟨.type "tuple", none, (.seq ⟨[]⟩ 0), ⟨[]⟩⟩
noncomputable def o792_4 : Obj := ⟨.none, none, (.fields ⟨[]⟩), ⟨[]⟩⟩
noncomputable def o793_4 : Obj := ⟨.type "tuple", none, (.seq ⟨[.str "one" 1479, .str "other" 1480]⟩ 0), ⟨[]⟩⟩
noncomputable def o794_4 : Obj := ⟨.type "tuple", none, (.seq ⟨[]⟩ 0), ⟨[]⟩⟩
noncomputable def o795_4 : Obj := ⟨.none, none, (.func (fQ (topS 131) "bound_plus" "bound_plus" 0 [] (.none) (.none) (.none) (.none) none (.none) (.none) 0)), ⟨[]⟩⟩
noncomputable def o796_4 : Obj := ⟨.type "code", none, (.fields ⟨[.str "bound_plus" 1476, .str "bound_plus" 1477, .str "/claim/cut.py" 1478, .int 532 0, .int 2 0, .int 0 0, .int 0 0, .int 3 0, .ref 791, .bool true, .int 374 0, .ref 792, .none, .ref 793, .ref 794, .ref 795, .int 1481 0, .int 532 0, .str "/claim/cut.py" 1482]⟩), ⟨[]⟩⟩
noncomputable def o797_4 : Obj := ⟨.type "function", none, (.func (fQ (topS 131) "bound_plus" "bound_plus" 3 [] (.none) (.none) (.none) (.str "frametongue.formwork" 1294) none (.ref 796) (.none) 0)), ⟨[]⟩⟩
noncomputable def o798_4 : Obj := ⟨.type "tuple", none, (.seq ⟨[]⟩ 0), ⟨[]⟩⟩
noncomputable def o799_4 : Obj := ⟨.none, none, (.fields ⟨[]⟩), ⟨[]⟩⟩
noncomputable def o800_4 : Obj := ⟨.type "tuple", none, (.seq ⟨[.str "one" 1487, .str "other" 1488]⟩ 0), ⟨[]⟩⟩
noncomputable def o801_4 : Obj := ⟨.type "tuple", none, (.seq ⟨[]⟩ 0), ⟨[]⟩⟩
noncomputable def o802_4 : Obj := ⟨.none, none, (.func (fQ (topS 132) "bound_times" "bound_times" 0 [] (.none) (.none) (.none) (.none) none (.none) (.none) 0)), ⟨[]⟩⟩
noncomputable def o803_4 : Obj := ⟨.type "code", none, (.fields ⟨[.str "bound_times" 1484, .str "bound_times" 1485, .str "/claim/cut.py" 1486, .int 534 0, .int 2 0, .int 0 0, .int 0 0, .int 3 0, .ref 798, .bool true, .int 374 0, .ref 799, .none, .ref 800, .ref 801, .ref 802, .int 1489 0, .int 534 0, .str "/claim/cut.py" 1490]⟩), ⟨[]⟩⟩
noncomputable def o804_4 : Obj := ⟨.type "function", none, (.func (fQ (topS 132) "bound_times" "bound_times" 3 [] (.none) (.none) (.none) (.str "frametongue.formwork" 1294) none (.ref 803) (.none) 0)), ⟨[]⟩⟩
noncomputable def o805_4 : Obj := ⟨.type "tuple", none, (.seq ⟨[]⟩ 0), ⟨[]⟩⟩
noncomputable def o806_4 : Obj := ⟨.none, none, (.fields ⟨[]⟩), ⟨[]⟩⟩
noncomputable def o807_4 : Obj := ⟨.type "tuple", none, (.seq ⟨[.str "one" 1495, .str "other" 1496]⟩ 0), ⟨[]⟩⟩
noncomputable def o808_4 : Obj := ⟨.type "tuple", none, (.seq ⟨[]⟩ 0), ⟨[]⟩⟩
noncomputable def o809_4 : Obj := ⟨.none, none, (.func (fQ (topS 133) "pair_bound_plus" "pair_bound_plus" 0 [] (.none) (.none) (.none) (.none) none (.none) (.none) 0)), ⟨[]⟩⟩
noncomputable def o810_4 : Obj := ⟨.type "code", none, (.fields ⟨[.str "pair_bound_plus" 1492, .str "pair_bound_plus" 1493, .str "/claim/cut.py" 1494, .int 536 0, .int 2 0, .int 0 0, .int 0 0, .int 3 0, .ref 805, .bool true, .int 374 0, .ref 806, .none, .ref 807, .ref 808, .ref 809, .int 1497 0, .int 536 0, .str "/claim/cut.py" 1498]⟩), ⟨[]⟩⟩
noncomputable def o811_4 : Obj := ⟨.type "function", none, (.func (fQ (topS 133) "pair_bound_plus" "pair_bound_plus" 3 [] (.none) (.none) (.none) (.str "frametongue.formwork" 1294) none (.ref 810) (.none) 0)), ⟨[]⟩⟩
noncomputable def o812_4 : Obj := ⟨.type "tuple", none, (.seq ⟨[]⟩ 0), ⟨[]⟩⟩
noncomputable def o813_4 : Obj := ⟨.none, none, (.fields ⟨[]⟩), ⟨[]⟩⟩
noncomputable def o814_4 : Obj := ⟨.type "tuple", none, (.seq ⟨[.str "one" 1503, .str "other" 1504]⟩ 0), ⟨[]⟩⟩
noncomputable def o815_4 : Obj := ⟨.type "tuple", none, (.seq ⟨[]⟩ 0), ⟨[]⟩⟩
noncomputable def o816_4 : Obj := ⟨.none, none, (.func (fQ (topS 134) "pair_bound_times" "pair_bound_times" 0 [] (.none) (.none) (.none) (.none) none (.none) (.none) 0)), ⟨[]⟩⟩
noncomputable def o817_4 : Obj := ⟨.type "code", none, (.fields ⟨[.str "pair_bound_times" 1500, .str "pair_bound_times" 1501, .str "/claim/cut.py" 1502, .int 538 0, .int 2 0, .int 0 0, .int 0 0, .int 3 0, .ref 812, .bool true, .int 374 0, .ref 813, .none, .ref 814, .ref 815, .ref 816, .int 1505 0, .int 538 0, .str "/claim/cut.py" 1506]⟩), ⟨[]⟩⟩
noncomputable def o818_4 : Obj := ⟨.type "function", none, (.func (fQ (topS 134) "pair_bound_times" "pair_bound_times" 3 [] (.none) (.none) (.none) (.str "frametongue.formwork" 1294) none (.ref 817) (.none) 0)), ⟨[]⟩⟩
noncomputable def o819_4 : Obj := ⟨.type "tuple", none, (.seq ⟨[]⟩ 0), ⟨[]⟩⟩
noncomputable def o820_4 : Obj := ⟨.none, none, (.fields ⟨[]⟩), ⟨[]⟩⟩
noncomputable def o821_4 : Obj := ⟨.type "tuple", none, (.seq ⟨[.str "pair" 1511, .str "many" 1512, .str "found" 1513, .str "turn" 1514]⟩ 0), ⟨[]⟩⟩
noncomputable def o822_4 : Obj := ⟨.type "tuple", none, (.seq ⟨[]⟩ 0), ⟨[]⟩⟩
noncomputable def o823_4 : Obj := ⟨.none, none, (.func (fQ (topS 135) "pair_bound_power" "pair_bound_power" 0 [] (.none) (.none) (.none) (.none) none (.none) (.none) 0)), ⟨[]⟩⟩
noncomputable def o824_4 : Obj := ⟨.type "code", none, (.fields ⟨[.str "pair_bound_power" 1508, .str "pair_bound_power" 1509, .str "/claim/cut.py" 1510, .int 540 0, .int 2 0, .int 0 0, .int 0 0, .int 3 0, .ref 819, .bool true, .int 374 0, .ref 820, .none, .ref 821, .ref 822, .ref 823, .int 1515 0, .int 540 0, .str "/claim/cut.py" 1516]⟩), ⟨[]⟩⟩
noncomputable def o825_4 : Obj := ⟨.type "function", none, (.func (fQ (topS 135) "pair_bound_power" "pair_bound_power" 3 [] (.none) (.none) (.none) (.str "frametongue.formwork" 1294) none (.ref 824) (.none) 0)), ⟨[]⟩⟩
noncomputable def o826_4 : Obj := ⟨.type "tuple", none, (.seq ⟨[]⟩ 0), ⟨[]⟩⟩
noncomputable def o827_4 : Obj := ⟨.none, none, (.fields ⟨[]⟩), ⟨[]⟩⟩
noncomputable def o828_4 : Obj := ⟨.none, none, (.func (fQ (topS 136) "call_bounds" "call_bounds" 0 [] (.none) (.none) (.none) (.none) none (.none) (.none) 0)), ⟨[]⟩⟩
noncomputable def o829_4 : Obj := ⟨.type "code", none, (.fields ⟨[.str "call_bounds" 1518, .str "call_bounds" 1519, .str "/claim/cut.py" 1520, .int 545 0, .int 2 0, .int 0 0, .int 0 0, .int 3 0, .ref 826, .bool true, .int 374 0, .ref 827, .none, .none, .none, .ref 828, .int 1521 0, .int 545 0, .str "/claim/cut.py" 1522]⟩), ⟨[]⟩⟩
noncomputable def o830_4 : Obj := ⟨.type "function", none, (.func (fQ (topS 136) "call_bounds" "call_bounds" 3 [] (.none) (.none) (.none) (.str "frametongue.formwork" 1294) none (.ref 829) (.none) 0)), ⟨[]⟩⟩
noncomputable def o831_4 : Obj := ⟨.type "tuple", none, (.seq ⟨[]⟩ 0), ⟨[]⟩⟩
noncomputable def o832_4 : Obj := ⟨.none, none, (.fields ⟨[]⟩), ⟨[]⟩⟩
noncomputable def o833_4 : Obj := ⟨.none, none, (.func (fQ (topS 137) "made_bounds" "made_bounds" 0 [] (.none) (.none) (.none) (.none) none (.none) (.none) 0)), ⟨[]⟩⟩
noncomputable def o834_4 : Obj := ⟨.type "code", none, (.fields ⟨[.str "made_bounds" 1524, .str "made_bounds" 1525, .str "/claim/cut.py" 1526, .int 559 0, .int 3 0, .int 0 0, .int 0 0, .int 3 0, .ref 831, .bool true, .int 374 0, .ref 832, .none, .none, .none, .ref 833, .int 1527 0, .int 559 0, .str "/claim/cut.py" 1528]⟩), ⟨[]⟩⟩
noncomputable def o835_4 : Obj := ⟨.type "function", none, (.func (fQ (topS 137) "made_bounds" "made_bounds" 3 [] (.none) (.none) (.none) (.str "frametongue.formwork" 1294) none (.ref 834) (.none) 0)), ⟨[]⟩⟩
noncomputable def o836_4 : Obj := ⟨.type "tuple", none, (.seq ⟨[]⟩ 0), ⟨[]⟩⟩
noncomputable def o837_4 : Obj := ⟨.none, none, (.fields ⟨[]⟩), ⟨[]⟩⟩
noncomputable def o838_4 : Obj := ⟨.none, none, (.func (fQ (topS 138) "are_small" "are_small" 0 [] (.none) (.none) (.none) (.none) none (.none) (.none) 0)), ⟨[]⟩⟩
noncomputable def o839_4 : Obj := ⟨.type "code", none, (.fields ⟨[.str "are_small" 1530, .str "are_small" 1531, .str "/claim/cut.py" 1532, .int 575 0, .int 1 0, .int 0 0, .int 0 0, .int 3 0, .ref 836, .bool true, .int 374 0, .ref 837, .none, .none, .none, .ref 838, .int 1533 0, .int 575 0, .str "/claim/cut.py" 1534]⟩), ⟨[]⟩⟩
noncomputable def o840_4 : Obj := ⟨.type "function", none, (.func (fQ (topS 138) "are_small" "are_small" 3 [] (.none) (.none) (.none) (.str "frametongue.formwork" 1294) none (.ref 839) (.none) 0)), ⟨[]⟩⟩
noncomputable def o841_4 : Obj := ⟨.type "tuple", none, (.seq ⟨[]⟩ 0), ⟨[]⟩⟩
noncomputable def o842_4 : Obj := ⟨.none, none, (.fields ⟨[]⟩), ⟨[]⟩⟩
noncomputable def o843_4 : Obj := ⟨.none, none, (.func (fQ (topS 139) "is_surely_small" "is_surely_small" 0 [] (.none) (.none) (.none) (.none) none (.none) (.none) 0)), ⟨[]⟩⟩
noncomputable def o844_4 : Obj := ⟨.type "code", none, (.fields ⟨[.str "is_surely_small" 1536, .str "is_surely_small" 1537, .str "/claim/cut.py" 1538, .int 580 0, .int 2 0, .int 0 0, .int 0 0, .int 3 0, .ref 841, .bool true, .int 374 0, .ref 842, .none, .none, .none, .ref 843, .int 1539 0, .int 580 0, .str "/claim/cut.py" 1540]⟩), ⟨[]⟩⟩
noncomputable def o845_4 : Obj := ⟨.type "function", none, (.func (fQ (topS 139) "is_surely_small" "is_surely_small" 3 [] (.none) (.none) (.none) (.str "frametongue.formwork" 1294) none (.ref 844) (.none) 0)), ⟨[]⟩⟩
noncomputable def o846_4 : Obj := ⟨.type "tuple", none, (.seq ⟨[]⟩ 0), ⟨[]⟩⟩
noncomputable def o847_4 : Obj := ⟨.none, none, (.fields ⟨[]⟩), ⟨[]⟩⟩
noncomputable def o848_4 : Obj := ⟨.type "tuple", none, (.seq ⟨[.str "rows" 1545, .str "row" 1546, .str "program" 1547, .str "tree" 1548, .str "givens" 1549]⟩ 0), ⟨[]⟩⟩
noncomputable def o849_4 : Obj := ⟨.type "tuple", none, (.seq ⟨[]⟩ 0), ⟨[]⟩⟩
noncomputable def o850_4 : Obj := ⟨.none, none, (.func (fQ (topS 140) "tell_is_great" "tell_is_great" 0 [] (.none) (.none) (.none) (.none) none (.none) (.none) 0)), ⟨[]⟩⟩
noncomputable def o851_4 : Obj := ⟨.type "code", none, (.fields ⟨[.str "tell_is_great" 1542, .str "tell_is_great" 1543, .str "/claim/cut.py" 1544, .int 595 0, .int 2 0, .int 0 0, .int 0 0, .int 3 0, .ref 846, .bool true, .int 374 0, .ref 847, .none, .ref 848, .ref 849, .ref 850, .int 1550 0, .int 595 0, .str "/claim/cut.py" 1551]⟩), ⟨[]⟩⟩
noncomputable def o852_4 : Obj := ⟨.type "function", none, (.func (fQ (topS 140) "tell_is_great" "tell_is_great" 3 [] (.none) (.none) (.none) (.str "frametongue.formwork" 1294) none (.ref 851) (.none) 0)), ⟨[]⟩⟩
noncomputable def o853_4 : Obj := ⟨.type "tuple", none, (.seq ⟨[]⟩ 0), ⟨[]⟩⟩
noncomputable def o854_4 : Obj := ⟨.none, none, (.fields ⟨[]⟩), ⟨[]⟩⟩
noncomputable def o855_4 : Obj := ⟨.type "tuple", none, (.seq ⟨[.str "givens" 1556, .str "tree" 1557, .str "pair" 1558]⟩ 0), ⟨[]⟩⟩
noncomputable def o856_4 : Obj := ⟨.type "tuple", none, (.seq ⟨[]⟩ 0), ⟨[]⟩⟩
noncomputable def o857_4 : Obj := ⟨.none, none, (.func (fQ (topS 141) "form_of_tree" "form_of_tree" 0 [] (.none) (.none) (.none) (.none) none (.none) (.none) 0)), ⟨[]⟩⟩
noncomputable def o858_4 : Obj := ⟨.type "code", none, (.fields ⟨[.str "form_of_tree" 1553, .str "form_of_tree" 1554, .str "/claim/cut.py" 1555, .int 604 0, .int 2 0, .int 0 0, .int 0 0, .int 3 0, .ref 853, .bool true, .int 374 0, .ref 854, .none, .ref 855, .ref 856, .ref 857, .int 1559 0, .int 604 0, .str "/claim/cut.py" 1560]⟩), ⟨[]⟩⟩
noncomputable def o859_4 : Obj := ⟨.type "function", none, (.func (fQ (topS 141) "form_of_tree" "form_of_tree" 3 [] (.none) (.none) (.none) (.str "frametongue.formwork" 1294) none (.ref 858) (.none) 0)), ⟨[]⟩⟩
noncomputable def o860_4 : Obj := ⟨.type "tuple", none, (.seq ⟨[]⟩ 0), ⟨[]⟩⟩
noncomputable def o861_4 : Obj := ⟨.none, none, (.fields ⟨[]⟩), ⟨[]⟩⟩
noncomputable def o862_4 : Obj := ⟨.type "tuple", none, (.seq ⟨[.str "program" 1565, .str "tell" 1566]⟩ 0), ⟨[]⟩⟩
noncomputable def o863_4 : Obj := ⟨.type "tuple", none, (.seq ⟨[]⟩ 0), ⟨[]⟩⟩
noncomputable def o864_4 : Obj := ⟨.none, none, (.func (fQ (topS 142) "form_by" "form_by" 0 [] (.none) (.none) (.none) (.none) none (.none) (.none) 0)), ⟨[]⟩⟩
noncomputable def o865_4 : Obj := ⟨.type "code", none, (.fields ⟨[.str "form_by" 1562, .str "form_by" 1563, .str "/claim/cut.py" 1564, .int 607 0, .int 2 0, .int 0 0, .int 0 0, .int 3 0, .ref 860, .bool true, .int 374 0, .ref 861, .none, .ref 862, .ref 863, .ref 864, .int 1567 0, .int 607 0, .str "/claim/cut.py" 1568]⟩), ⟨[]⟩⟩
noncomputable def o866_4 : Obj := ⟨.type "function", none, (.func (fQ (topS 142) "form_by" "form_by" 3 [] (.none) (.none) (.none) (.str "frametongue.formwork" 1294) none (.ref 865) (.none) 0)), ⟨[]⟩⟩
noncomputable def o867_4 : Obj := ⟨.type "tuple", none, (.seq ⟨[]⟩ 0), ⟨[]⟩⟩
noncomputable def o868_4 : Obj := ⟨.none, none, (.fields ⟨[]⟩), ⟨[]⟩⟩
noncomputable def o869_4 : Obj := ⟨.type "tuple", none, (.seq ⟨[.str "givens" 1575, .str "found" 1576, .str "at" 1577, .str "name" 1578, .str "sort" 1579]⟩ 0), ⟨[]⟩⟩
noncomputable def o870_4 : Obj := ⟨.type "tuple", none, (.seq ⟨[]⟩ 0), ⟨[]⟩⟩
noncomputable def o871_4 : Obj := ⟨.none, none, (.func (fQ (topS 144) "pairs_of" "pairs_of" 0 [] (.none) (.none) (.none) (.none) none (.none) (.none) 0)), ⟨[]⟩⟩
noncomputable def o872_4 : Obj := ⟨.type "code", none, (.fields ⟨[.str "pairs_of" 1572, .str "pairs_of" 1573, .str "/claim/cut.py" 1574, .int 610 0, .int 1 0, .int 0 0, .int 0 0, .int 3 0, .ref 867, .bool true, .int 374 0, .ref 868, .none, .ref 869, .ref 870, .ref 871, .int 1580 0, .int 610 0, .str "/claim/cut.py" 1581]⟩), ⟨[]⟩⟩
noncomputable def o873_4 : Obj := ⟨.type "function", none, (.func (fQ (topS 144) "pairs_of" "pairs_of" 3 [] (.none) (.none) (.none) (.str "frametongue.freedomwork" 1570) none (.ref 872) (.none) 0)), ⟨[]⟩⟩
noncomputable def o874_4 : Obj := ⟨.type "tuple", none, (.seq ⟨[]⟩ 0), ⟨[]⟩⟩
noncomputable def o875_4 : Obj := ⟨.none, none, (.fields ⟨[]⟩), ⟨[]⟩⟩
noncomputable def o876_4 : Obj := ⟨.type "tuple", none, (.seq ⟨[.str "powers" 1587, .str "at" 1588]⟩ 0), ⟨[]⟩⟩
noncomputable def o877_4 : Obj := ⟨.type "tuple", none, (.seq ⟨[]⟩ 0), ⟨[]⟩⟩
noncomputable def o878_4 : Obj := ⟨.none, none, (.func (fQ (topS 146) "lowered_at" "lowered_at" 0 [] (.none) (.none) (.none) (.none) none (.none) (.none) 0)), ⟨[]⟩⟩
noncomputable def o879_4 : Obj := ⟨.type "code", none, (.fields ⟨[.str "lowered_at" 1584, .str "lowered_at" 1585, .str "/claim/cut.py" 1586, .int 620 0, .int 2 0, .int 0 0, .int 0 0, .int 3 0, .ref 874, .bool true, .int 374 0, .ref 875, .none, .ref 876, .ref 877, .ref 878, .int 1589 0, .int 620 0, .str "/claim/cut.py" 1590]⟩), ⟨[]⟩⟩
noncomputable def o880_4 : Obj := ⟨.type "function", none, (.func (fQ (topS 146) "lowered_at" "lowered_at" 3 [] (.none) (.none) (.none) (.str "frametongue.freedomwork" 1570) none (.ref 879) (.none) 0)), ⟨[]⟩⟩
noncomputable def o881_4 : Obj := ⟨.type "tuple", none, (.seq ⟨[]⟩ 0), ⟨[]⟩⟩
noncomputable def o882_4 : Obj := ⟨.none, none, (.fields ⟨[]⟩), ⟨[]⟩⟩
noncomputable def o883_4 : Obj := ⟨.none, none, (.func (fQ (topS 147) "slope" "slope" 0 [] (.none) (.none) (.none) (.none) none (.none) (.none) 0)), ⟨[]⟩⟩
noncomputable def o884_4 : Obj := ⟨.type "code", none, (.fields ⟨[.str "slope" 1592, .str "slope" 1593, .str "/claim/cut.py" 1594, .int 622 0, .int 2 0, .int 0 0, .int 0 0, .int 3 0, .ref 881, .bool true, .int 374 0, .ref 882, .none, .none, .none, .ref 883, .int 1595 0, .int 622 0, .str "/claim/cut.py" 1596]⟩), ⟨[]⟩⟩
noncomputable def o885_4 : Obj := ⟨.type "function", none, (.func (fQ (topS 147) "slope" "slope" 3 [] (.none) (.none) (.none) (.str "frametongue.freedomwork" 1570) none (.ref 884) (.none) 0)), ⟨[]⟩⟩
noncomputable def o886_4 : Obj := ⟨.type "tuple", none, (.seq ⟨[]⟩ 0), ⟨[]⟩⟩
noncomputable def o887_4 : Obj := ⟨.none, none, (.fields ⟨[]⟩), ⟨[]⟩⟩
noncomputable def o888_4 : Obj := ⟨.none, none, (.func (fQ (topS 148) "is_kept_by_shifts_of" "is_kept_by_shifts_of" 0 [] (.none) (.none) (.none) (.none) none (.none) (.none) 0)), ⟨[]⟩⟩
noncomputable def o889_4 : Obj := ⟨.type "code", none, (.fields ⟨[.str "is_kept_by_shifts_of" 1598, .str "is_kept_by_shifts_of" 1599, .str "/claim/cut.py" 1600, .int 630 0, .int 2 0, .int 0 0, .int 0 0, .int 3 0, .ref 886, .bool true, .int 374 0, .ref 887, .none, .none, .none, .ref 888, .int 1601 0, .int 630 0, .str "/claim/cut.py" 1602]⟩), ⟨[]⟩⟩
noncomputable def o890_4 : Obj := ⟨.type "function", none, (.func (fQ (topS 148) "is_kept_by_shifts_of" "is_kept_by_shifts_of" 3 [] (.none) (.none) (.none) (.str "frametongue.freedomwork" 1570) none (.ref 889) (.none) 0)), ⟨[]⟩⟩
noncomputable def o891_4 : Obj := ⟨.type "tuple", none, (.seq ⟨[]⟩ 0), ⟨[]⟩⟩
noncomputable def o892_4 : Obj := ⟨.none, none, (.fields ⟨[]⟩), ⟨[]⟩⟩
noncomputable def o893_4 : Obj := ⟨.type "tuple", none, (.seq ⟨[.str "pair" 1607, .str "times" 1608, .str "real" 1609, .str "other" 1610, .str "turns" 1611]⟩ 0), ⟨[]⟩⟩
noncomputable def o894_4 : Obj := ⟨.type "tuple", none, (.seq ⟨[]⟩ 0), ⟨[]⟩⟩
noncomputable def o895_4 : Obj := ⟨.none, none, (.func (fQ (topS 149) "times_root" "times_root" 0 [] (.none) (.none) (.none) (.none) none (.none) (.none) 0)), ⟨[]⟩⟩
noncomputable def o896_4 : Obj := ⟨.type "code", none, (.fields ⟨[.str "times_root" 1604, .str "times_root" 1605, .str "/claim/cut.py" 1606, .int 633 0, .int 2 0, .int 0 0, .int 0 0, .int 3 0, .ref 891, .bool true, .int 374 0, .ref 892, .none, .ref 893, .ref 894, .ref 895, .int 1612 0, .int 633 0, .str "/claim/cut.py" 1613]⟩), ⟨[]⟩⟩
noncomputable def o897_4 : Obj := ⟨.type "function", none, (.func (fQ (topS 149) "times_root" "times_root" 3 [] (.none) (.none) (.none) (.str "frametongue.freedomwork" 1570) none (.ref 896) (.none) 0)), ⟨[]⟩⟩
noncomputable def o898_4 : Obj := ⟨.type "tuple", none, (.seq ⟨[]⟩ 0), ⟨[]⟩⟩
noncomputable def o899_4 : Obj := ⟨.none, none, (.fields ⟨[]⟩), ⟨[]⟩⟩
noncomputable def o900_4 : Obj := ⟨.type "tuple", none, (.seq ⟨[.str "first" 1618, .str "second" 1619, .str "found" 1620, .str "up" 1621, .str "down" 1622, .str "sign" 1623]⟩ 0), ⟨[]⟩⟩
noncomputable def o901_4 : Obj := ⟨.type "tuple", none, (.seq ⟨[]⟩ 0), ⟨[]⟩⟩
noncomputable def o902_4 : Obj := ⟨.none, none, (.func (fQ (topS 150) "line_of" "line_of" 0 [] (.none) (.none) (.none) (.none) none (.none) (.none) 0)), ⟨[]⟩⟩
noncomputable def o903_4 : Obj := ⟨.type "code", none, (.fields ⟨[.str "line_of" 1615, .str "line_of" 1616, .str "/claim/cut.py" 1617, .int 641 0, .int 2 0, .int 0 0, .int 0 0, .int 3 0, .ref 898, .bool true, .int 374 0, .ref 899, .none, .ref 900, .ref 901, .ref 902, .int 1624 0, .int 641 0, .str "/claim/cut.py" 1625]⟩), ⟨[]⟩⟩
noncomputable def o904_4 : Obj := ⟨.type "function", none, (.func (fQ (topS 150) "line_of" "line_of" 3 [] (.none) (.none) (.none) (.str "frametongue.freedomwork" 1570) none (.ref 903) (.none) 0)), ⟨[]⟩⟩
noncomputable def o905_4 : Obj := ⟨.type "tuple", none, (.seq ⟨[]⟩ 0), ⟨[]⟩⟩
noncomputable def o906_4 : Obj := ⟨.none, none, (.fields ⟨[]⟩), ⟨[]⟩⟩
noncomputable def o907_4 : Obj := ⟨.type "tuple", none, (.seq ⟨[.str "terms" 1630, .str "at" 1631, .str "other" 1632, .str "found" 1633, .str "powers" 1634, .str "number" 1635, .str "line" 1636, .str "up" 1637, .str "own" 1638, .str "later" 1639]⟩ 0), ⟨[]⟩⟩
noncomputable def o908_4 : Obj := ⟨.type "tuple", none, (.seq ⟨[]⟩ 0), ⟨[]⟩⟩
noncomputable def o909_4 : Obj := ⟨.none, none, (.func (fQ (topS 151) "spread_at" "spread_at" 0 [] (.none) (.none) (.none) (.none) none (.none) (.none) 0)), ⟨[]⟩⟩
noncomputable def o910_4 : Obj := ⟨.type "code", none, (.fields ⟨[.str "spread_at" 1627, .str "spread_at" 1628, .str "/claim/cut.py" 1629, .int 648 0, .int 3 0, .int 0 0, .int 0 0, .int 3 0, .ref 905, .bool true, .int 374 0, .ref 906, .none, .ref 907, .ref 908, .ref 909, .int 1640 0, .int 648 0, .str "/claim/cut.py" 1641]⟩), ⟨[]⟩⟩
noncomputable def o911_4 : Obj := ⟨.type "function", none, (.func (fQ (topS 151) "spread_at" "spread_at" 3 [] (.none) (.none) (.none) (.str "frametongue.freedomwork" 1570) none (.ref 910) (.none) 0)), ⟨[]⟩⟩
noncomputable def o912_4 : Obj := ⟨.type "tuple", none, (.seq ⟨[]⟩ 0), ⟨[]⟩⟩
noncomputable def o913_4 : Obj := ⟨.none, none, (.fields ⟨[]⟩), ⟨[]⟩⟩
noncomputable def o914_4 : Obj := ⟨.type "tuple", none, (.seq ⟨[.str "powers" 1646, .str "number" 1647, .str "pairs" 1648, .str "found" 1649, .str "at" 1650, .str "other" 1651, .str "sort" 1652]⟩ 0), ⟨[]⟩⟩
noncomputable def o915_4 : Obj := ⟨.type "tuple", none, (.seq ⟨[]⟩ 0), ⟨[]⟩⟩
noncomputable def o916_4 : Obj := ⟨.none, none, (.func (fQ (topS 152) "spread_term" "spread_term" 0 [] (.none) (.none) (.none) (.none) none (.none) (.none) 0)), ⟨[]⟩⟩
noncomputable def o917_4 : Obj := ⟨.type "code", none, (.fields ⟨[.str "spread_term" 1643, .str "spread_term" 1644, .str "/claim/cut.py" 1645, .int 658 0, .int 3 0, .int 0 0, .int 0 0, .int 3 0, .ref 912, .bool true, .int 374 0, .ref 913, .none, .ref 914, .ref 915, .ref 916, .int 1653 0, .int 658 0, .str "/claim/cut.py" 1654]⟩), ⟨[]⟩⟩
noncomputable def o918_4 : Obj := ⟨.type "function", none, (.func (fQ (topS 152) "spread_term" "spread_term" 3 [] (.none) (.none) (.none) (.str "frametongue.freedomwork" 1570) none (.ref 917) (.none) 0)), ⟨[]⟩⟩
noncomputable def o919_4 : Obj := ⟨.type "tuple", none, (.seq ⟨[]⟩ 0), ⟨[]⟩⟩
noncomputable def o920_4 : Obj := ⟨.none, none, (.fields ⟨[]⟩), ⟨[]⟩⟩
noncomputable def o921_4 : Obj := ⟨.none, none, (.func (fQ (topS 153) "rooted_sum" "rooted_sum" 0 [] (.none) (.none) (.none) (.none) none (.none) (.none) 0)), ⟨[]⟩⟩
noncomputable def o922_4 : Obj := ⟨.type "code", none, (.fields ⟨[.str "rooted_sum" 1656, .str "rooted_sum" 1657, .str "/claim/cut.py" 1658, .int 663 0, .int 3 0, .int 0 0, .int 0 0, .int 3 0, .ref 919, .bool true, .int 374 0, .ref 920, .none, .none, .none, .ref 921, .int 1659 0, .int 663 0, .str "/claim/cut.py" 1660]⟩), ⟨[]⟩⟩
noncomputable def o923_4 : Obj := ⟨.type "function", none, (.func (fQ (topS 153) "rooted_sum" "rooted_sum" 3 [] (.none) (.none) (.none) (.str "frametongue.freedomwork" 1570) none (.ref 922) (.none) 0)), ⟨[]⟩⟩
noncomputable def o924_4 : Obj := ⟨.type "tuple", none, (.seq ⟨[]⟩ 0), ⟨[]⟩⟩
noncomputable def o925_4 : Obj := ⟨.none, none, (.fields ⟨[]⟩), ⟨[]⟩⟩
noncomputable def o926_4 : Obj := ⟨.none, none, (.func (fQ (topS 154) "degree_in_pairs" "degree_in_pairs" 0 [] (.none) (.none) (.none) (.none) none (.none) (.none) 0)), ⟨[]⟩⟩
noncomputable def o927_4 : Obj := ⟨.type "code", none, (.fields ⟨[.str "degree_in_pairs" 1662, .str "degree_in_pairs" 1663, .str "/claim/cut.py" 1664, .int 673 0, .int 2 0, .int 0 0, .int 0 0, .int 3 0, .ref 924, .bool true, .int 374 0, .ref 925, .none, .none, .none, .ref 926, .int 1665 0, .int 673 0, .str "/claim/cut.py" 1666]⟩), ⟨[]⟩⟩
noncomputable def o928_4 : Obj := ⟨.type "function", none, (.func (fQ (topS 154) "degree_in_pairs" "degree_in_pairs" 3 [] (.none) (.none) (.none) (.str "frametongue.freedomwork" 1570) none (.ref 927) (.none) 0)), ⟨[]⟩⟩
noncomputable def o929_4 : Obj := ⟨.type "tuple", none, (.seq ⟨[]⟩ 0), ⟨[]⟩⟩
noncomputable def o930_4 : Obj := ⟨.none, none, (.fields ⟨[]⟩), ⟨[]⟩⟩
noncomputable def o931_4 : Obj := ⟨.none, none, (.func (fQ (topS 155) "balance_of" "balance_of" 0 [] (.none) (.none) (.none) (.none) none (.none) (.none) 0)), ⟨[]⟩⟩
noncomputable def o932_4 : Obj := ⟨.type "code", none, (.fields ⟨[.str "balance_of" 1668, .str "balance_of" 1669, .str "/claim/cut.py" 1670, .int 676 0, .int 2 0, .int 0 0, .int 0 0, .int 3 0, .ref 929, .bool true, .int 374 0, .ref 930, .none, .none, .none, .ref 931, .int 1671 0, .int 676 0, .str "/claim/cut.py" 1672]⟩), ⟨[]⟩⟩
noncomputable def o933_4 : Obj := ⟨.type "function", none, (.func (fQ (topS 155) "balance_of" "balance_of" 3 [] (.none) (.none) (.none) (.str "frametongue.freedomwork" 1570) none (.ref 932) (.none) 0)), ⟨[]⟩⟩
noncomputable def o934_4 : Obj := ⟨.type "tuple", none, (.seq ⟨[]⟩ 0), ⟨[]⟩⟩
noncomputable def o935_4 : Obj := ⟨.none, none, (.fields ⟨[]⟩), ⟨[]⟩⟩
noncomputable def o936_4 : Obj := ⟨.type "tuple", none, (.seq ⟨[.str "own" 1677, .str "givens" 1678]⟩ 0), ⟨[]⟩⟩
noncomputable def o937_4 : Obj := ⟨.type "tuple", none, (.seq ⟨[]⟩ 0), ⟨[]⟩⟩
noncomputable def o938_4 : Obj := ⟨.none, none, (.func (fQ (topS 156) "is_kept_by_turns_of" "is_kept_by_turns_of" 0 [] (.none) (.none) (.none) (.none) none (.none) (.none) 0)), ⟨[]⟩⟩
noncomputable def o939_4 : Obj := ⟨.type "code", none, (.fields ⟨[.str "is_kept_by_turns_of" 1674, .str "is_kept_by_turns_of" 1675, .str "/claim/cut.py" 1676, .int 680 0, .int 2 0, .int 0 0, .int 0 0, .int 3 0, .ref 934, .bool true, .int 374 0, .ref 935, .none, .ref 936, .ref 937, .ref 938, .int 1679 0, .int 680 0, .str "/claim/cut.py" 1680]⟩), ⟨[]⟩⟩
noncomputable def o940_4 : Obj := ⟨.type "function", none, (.func (fQ (topS 156) "is_kept_by_turns_of" "is_kept_by_turns_of" 3 [] (.none) (.none) (.none) (.str "frametongue.freedomwork" 1570) none (.ref 939) (.none) 0)), ⟨[]⟩⟩
noncomputable def o941_4 : Obj := ⟨.type "tuple", none, (.seq ⟨[]⟩ 0), ⟨[]⟩⟩
noncomputable def o942_4 : Obj := ⟨.none, none, (.fields ⟨[]⟩), ⟨[]⟩⟩
noncomputable def o943_4 : Obj := ⟨.type "tuple", none, (.seq ⟨[.str "program" 1685, .str "tell" 1686, .str "form" 1687]⟩ 0), ⟨[]⟩⟩
noncomputable def o944_4 : Obj := ⟨.type "tuple", none, (.seq ⟨[]⟩ 0), ⟨[]⟩⟩
noncomputable def o945_4 : Obj := ⟨.none, none, (.func (fQ (topS 157) "sums_by" "sums_by" 0 [] (.none) (.none) (.none) (.none) none (.none) (.none) 0)), ⟨[]⟩⟩
noncomputable def o946_4 : Obj := ⟨.type "code", none, (.fields ⟨[.str "sums_by" 1682, .str "sums_by" 1683, .str "/claim/cut.py" 1684, .int 682 0, .int 2 0, .int 0 0, .int 0 0, .int 3 0, .ref 941, .bool true, .int 374 0, .ref 942, .none, .ref 943, .ref 944, .ref 945, .int 1688 0, .int 682 0, .str "/claim/cut.py" 1689]⟩), ⟨[]⟩⟩
noncomputable def o947_4 : Obj := ⟨.type "function", none, (.func (fQ (topS 157) "sums_by" "sums_by" 3 [] (.none) (.none) (.none) (.str "frametongue.freedomwork" 1570) none (.ref 946) (.none) 0)), ⟨[]⟩⟩
noncomputable def o948_4 : Obj := ⟨.type "tuple", none, (.seq ⟨[]⟩ 0), ⟨[]⟩⟩
noncomputable def o949_4 : Obj := ⟨.none, none, (.fields ⟨[]⟩), ⟨[]⟩⟩
noncomputable def o950_4 : Obj := ⟨.none, none, (.func (fQ (topS 158) "are_kept" "are_kept" 0 [] (.none) (.none) (.none) (.none) none (.none) (.none) 0)), ⟨[]⟩⟩
noncomputable def o951_4 : Obj := ⟨.type "code", none, (.fields ⟨[.str "are_kept" 1691, .str "are_kept" 1692, .str "/claim/cut.py" 1693, .int 685 0, .int 2 0, .int 0 0, .int 0 0, .int 3 0, .ref 948, .bool true, .int 374 0, .ref 949, .none, .none, .none, .ref 950, .int 1694 0, .int 685 0, .str "/claim/cut.py" 1695]⟩), ⟨[]⟩⟩
noncomputable def o952_4 : Obj := ⟨.type "function", none, (.func (fQ (topS 158) "are_kept" "are_kept" 3 [] (.none) (.none) (.none) (.str "frametongue.freedomwork" 1570) none (.ref 951) (.none) 0)), ⟨[]⟩⟩
noncomputable def o953_4 : Obj := ⟨.type "tuple", none, (.seq ⟨[]⟩ 0), ⟨[]⟩⟩
noncomputable def o954_4 : Obj := ⟨.none, none, (.fields ⟨[]⟩), ⟨[]⟩⟩
noncomputable def o955_4 : Obj := ⟨.type "tuple", none, (.seq ⟨[.str "program" 1700, .str "tell" 1701]⟩ 0), ⟨[]⟩⟩
noncomputable def o956_4 : Obj := ⟨.type "tuple", none, (.seq ⟨[]⟩ 0), ⟨[]⟩⟩
noncomputable def o957_4 : Obj := ⟨.none, none, (.func (fQ (topS 159) "is_free_by" "is_free_by" 0 [] (.none) (.none) (.none) (.none) none (.none) (.none) 0)), ⟨[]⟩⟩
noncomputable def o958_4 : Obj := ⟨.type "code", none, (.fields ⟨[.str "is_free_by" 1697, .str "is_free_by" 1698, .str "/claim/cut.py" 1699, .int 687 0, .int 2 0, .int 0 0, .int 0 0, .int 3 0, .ref 953, .bool true, .int 374 0, .ref 954, .none, .ref 955, .ref 956, .ref 957, .int 1702 0, .int 687 0, .str "/claim/cut.py" 1703]⟩), ⟨[]⟩⟩
noncomputable def o959_4 : Obj := ⟨.type "function", none, (.func (fQ (topS 159) "is_free_by" "is_free_by" 3 [] (.none) (.none) (.none) (.str "frametongue.freedomwork" 1570) none (.ref 958) (.none) 0)), ⟨[]⟩⟩
noncomputable def t4 (P : Params) : BT := (.node (o0_0 P) (.node (o1_0 P) (.node (o3_4 P) (.node o7_0 (.node (o15_0 P) (.node (o31_0 P) (.node o63_2 (.node o127_2 (.node o255_2 (.node o511_3 .nil .nil) (.node o767_4 .nil .nil)) (.node o383_3 (.node o639_4 .nil .nil) (.node o895_4 .nil .nil))) (.node o191_2 (.node o319_3 (.node o575_3 .nil .nil) (.node o831_4 .nil .nil)) (.node o447_3 (.node o703_4 .nil .nil) (.node o959_4 .nil .nil)))) (.node o95_2 (.node o159_2 (.node o287_2 (.node o543_3 .nil .nil) (.node o799_4 .nil .nil)) (.node o415_3 (.node o671_4 .nil .nil) (.node o927_4 .nil .nil))) (.node o223_2 (.node o351_3 (.node o607_3 .nil .nil) (.node o863_4 .nil .nil)) (.node o479_3 (.node o735_4 .nil .nil) .nil)))) (.node o47_2 (.node o79_2 (.node o143_2 (.node o271_2 (.node o527_3 .nil .nil) (.node o783_4 .nil .nil)) (.node o399_3 (.node o655_4 .nil .nil) (.node o911_4 .nil .nil))) (.node o207_2 (.node o335_3 (.node o591_3 .nil .nil) (.node o847_4 .nil .nil)) (.node o463_3 (.node o719_4 .nil .nil) .nil))) (.node o111_2 (.node o175_2 (.node o303_3 (.node o559_3 .nil .nil) (.node o815_4 .nil .nil)) (.node o431_3 (.node o687_4 .nil .nil) (.node o943_4 .nil .nil))) (.node o239_2 (.node o367_3 (.node o623_4 .nil .nil) (.node o879_4 .nil .nil)) (.node o495_3 (.node o751_4 .nil .nil) .nil))))) (.node o23_0 (.node o39_1 (.node o71_2 (.node o135_2 (.node o263_2 (.node o519_3 .nil .nil) (.node o775_4 .nil .nil)) (.node o391_3 (.node o647_4 .nil .nil) (.node o903_4 .nil .nil))) (.node o199_2 (.node o327_3 (.node o583_3 .nil .nil) (.node o839_4 .nil .nil)) (.node o455_3 (.node o711_4 .nil .nil) .nil))) (.node o103_2 (.node o167_2 (.node o295_3 (.node o551_3 .nil .nil) (.node o807_4 .nil .nil)) (.node o423_3 (.node o679_4 .nil .nil) (.node o935_4 .nil .nil))) (.node o231_2 (.node o359_3 (.node o615_4 .nil .nil) (.node o871_4 .nil .nil)) (.node o487_3 (.node o743_4 .nil .nil) .nil)))) (.node o55_2 (.node o87_2 (.node o151_2 (.node o279_2 (.node o535_3 .nil .nil) (.node o791_4 .nil .nil)) (.node o407_3 (.node o663_4 .nil .nil) (.node o919_4 .nil .nil))) (.node o215_2 (.node o343_3 (.node o599_3 .nil .nil) (.node o855_4 .nil .nil)) (.node o471_3 (.node o727_4 .nil .nil) .nil))) (.node o119_2 (.node o183_2 (.node o311_3 (.node o567_3 .nil .nil) (.node o823_4 .nil .nil)) (.node o439_3 (.node o695_4 .nil .nil) (.node o951_4 .nil .nil))) (.node o247_2 (.node o375_3 (.node o631_4 .nil .nil) (.node o887_4 .nil .nil)) (.node o503_3 (.node o759_4 .nil .nil) .nil)))))) (.node o11_0 (.node o19_0 (.node o35_0 (.node o67_2 (.node o131_2 (.node o259_2 (.node o515_3 .nil .nil) (.node o771_4 .nil .nil)) (.node o387_3 (.node o643_4 .nil .nil) (.node o899_4 .nil .nil))) (.node o195_2 (.node o323_3 (.node o579_3 .nil .nil) (.node o835_4 .nil .nil)) (.node o451_3 (.node o707_4 .nil .nil) .nil))) (.node o99_2 (.node o163_2 (.node o291_2 (.node o547_3 .nil .nil) (.node o803_4 .nil .nil)) (.node o419_3 (.node o675_4 .nil .nil) (.node o931_4 .nil .nil))) (.node o227_2 (.node o355_3 (.node o611_4 .nil .nil) (.node o867_4 .nil .nil)) (.node o483_3 (.node o739_4 .nil .nil) .nil)))) (.node o51_2 (.node o83_2 (.node o147_2 (.node o275_2 (.node o531_3 .nil .nil) (.node o787_4 .nil .nil)) (.node o403_3 (.node o659_4 .nil .nil) (.node o915_4 .nil .nil))) (.node o211_2 (.node o339_3 (.node o595_3 .nil .nil) (.node o851_4 .nil .nil)) (.node o467_3 (.node o723_4 .nil .nil) .nil))) (.node o115_2 (.node o179_2 (.node o307_3 (.node o563_3 .nil .nil) (.node o819_4 .nil .nil)) (.node o435_3 (.node o691_4 .nil .nil) (.node o947_4 .nil .nil))) (.node o243_2 (.node o371_3 (.node o627_4 .nil .nil) (.node o883_4 .nil .nil)) (.node o499_3 (.node o755_4 .nil .nil) .nil))))) (.node o27_0 (.node o43_2 (.node o75_2 (.node o139_2 (.node o267_2 (.node o523_3 .nil .nil) (.node o779_4 .nil .nil)) (.node o395_3 (.node o651_4 .nil .nil) (.node o907_4 .nil .nil))) (.node o203_2 (.node o331_3 (.node o587_3 .nil .nil) (.node o843_4 .nil .nil)) (.node o459_3 (.node o715_4 .nil .nil) .nil))) (.node (o107_2 P) (.node o171_2 (.node o299_3 (.node o555_3 .nil .nil) (.node o811_4 .nil .nil)) (.node o427_3 (.node o683_4 .nil .nil) (.node o939_4 .nil .nil))) (.node o235_2 (.node o363_3 (.node o619_4 .nil .nil) (.node o875_4 .nil .nil)) (.node o491_3 (.node o747_4 .nil .nil) .nil)))) (.node o59_2 (.node o91_2 (.node o155_2 (.node o283_2 (.node o539_3 .nil .nil) (.node o795_4 .nil .nil)) (.node o411_3 (.node o667_4 .nil .nil) (.node o923_4 .nil .nil))) (.node o219_2 (.node o347_3 (.node o603_3 .nil .nil) (.node o859_4 .nil .nil)) (.node o475_3 (.node o731_4 .nil .nil) .nil))) (.node o123_2 (.node o187_2 (.node o315_3 (.node o571_3 .nil .nil) (.node o827_4 .nil .nil)) (.node o443_3 (.node o699_4 .nil .nil) (.node o955_4 .nil .nil))) (.node o251_2 (.node o379_3 (.node o635_4 .nil .nil) (.node o891_4 .nil .nil)) (.node o507_3 (.node o763_4 .nil .nil) .nil))))))) (.node o5_0 (.node o9_0 (.node o17_0 (.node o33_0 (.node (o65_2 P) (.node o129_2 (.node o257_2 (.node (o513_3 P) .nil .nil) (.node o769_4 .nil .nil)) (.node o385_3 (.node o641_4 .nil .nil) (.node o897_4 .nil .nil))) (.node o193_2 (.node o321_3 (.node o577_3 .nil .nil) (.node o833_4 .nil .nil)) (.node o449_3 (.node o705_4 .nil .nil) .nil))) (.node o97_2 (.node o161_2 (.node o289_2 (.node o545_3 .nil .nil) (.node o801_4 .nil .nil)) (.node o417_3 (.node o673_4 .nil .nil) (.node o929_4 .nil .nil))) (.node o225_2 (.node o353_3 (.node o609_3 .nil .nil) (.node o865_4 .nil .nil)) (.node o481_3 (.node o737_4 .nil .nil) .nil)))) (.node o49_2 (.node o81_2 (.node o145_2 (.node o273_2 (.node o529_3 .nil .nil) (.node o785_4 .nil .nil)) (.node o401_3 (.node o657_4 .nil .nil) (.node o913_4 .nil .nil))) (.node o209_2 (.node o337_3 (.node o593_3 .nil .nil) (.node o849_4 .nil .nil)) (.node o465_3 (.node o721_4 .nil .nil) .nil))) (.node o113_2 (.node o177_2 (.node o305_3 (.node o561_3 .nil .nil) (.node o817_4 .nil .nil)) (.node o433_3 (.node o689_4 .nil .nil) (.node o945_4 .nil .nil))) (.node o241_2 (.node o369_3 (.node o625_4 .nil .nil) (.node o881_4 .nil .nil)) (.node o497_3 (.node o753_4 .nil .nil) .nil))))) (.node o25_0 (.node o41_1 (.node o73_2 (.node o137_2 (.node o265_2 (.node o521_3 .nil .nil) (.node o777_4 .nil .nil)) (.node o393_3 (.node o649_4 .nil .nil) (.node o905_4 .nil .nil))) (.node o201_2 (.node o329_3 (.node o585_3 .nil .nil) (.node o841_4 .nil .nil)) (.node o457_3 (.node o713_4 .nil .nil) .nil))) (.node o105_2 (.node o169_2 (.node o297_3 (.node o553_3 .nil .nil) (.node o809_4 .nil .nil)) (.node o425_3 (.node o681_4 .nil .nil) (.node o937_4 .nil .nil))) (.node o233_2 (.node o361_3 (.node o617_4 .nil .nil) (.node o873_4 .nil .nil)) (.node o489_3 (.node o745_4 .nil .nil) .nil)))) (.node o57_2 (.node o89_2 (.node o153_2 (.node o281_2 (.node o537_3 .nil .nil) (.node o793_4 .nil .nil)) (.node o409_3 (.node o665_4 .nil .nil) (.node o921_4 .nil .nil))) (.node o217_2 (.node o345_3 (.node o601_3 .nil .nil) (.node o857_4 .nil .nil)) (.node o473_3 (.node o729_4 .nil .nil) .nil))) (.node o121_2 (.node o185_2 (.node o313_3 (.node o569_3 .nil .nil) (.node o825_4 .nil .nil)) (.node o441_3 (.node o697_4 .nil .nil) (.node o953_4 .nil .nil))) (.node o249_2 (.node o377_3 (.node o633_4 .nil .nil) (.node o889_4 .nil .nil)) (.node o505_3 (.node o761_4 .nil .nil) .nil)))))) (.node o13_0 (.node (o21_0 P) (.node o37_0 (.node o69_2 (.node o133_2 (.node o261_2 (.node o517_3 .nil .nil) (.node o773_4 .nil .nil)) (.node o389_3 (.node o645_4 .nil .nil) (.node o901_4 .nil .nil))) (.node o197_2 (.node o325_3 (.node o581_3 .nil .nil) (.node o837_4 .nil .nil)) (.node o453_3 (.node (o709_4 P) .nil .nil) .nil))) (.node (o101_2 P) (.node o165_2 (.node o293_2 (.node o549_3 .nil .nil) (.node o805_4 .nil .nil)) (.node o421_3 (.node o677_4 .nil .nil) (.node o933_4 .nil .nil))) (.node o229_2 (.node o357_3 (.node o613_4 .nil .nil) (.node o869_4 .nil .nil)) (.node o485_3 (.node o741_4 .nil .nil) .nil)))) (.node o53_2 (.node o85_2 (.node o149_2 (.node o277_2 (.node o533_3 .nil .nil) (.node o789_4 .nil .nil)) (.node o405_3 (.node o661_4 .nil .nil) (.node o917_4 .nil .nil))) (.node o213_2 (.node o341_3 (.node (o597_3 P) .nil .nil) (.node o853_4 .nil .nil)) (.node o469_3 (.node o725_4 .nil .nil) .nil))) (.node o117_2 (.node o181_2 (.node o309_3 (.node o565_3 .nil .nil) (.node o821_4 .nil .nil)) (.node o437_3 (.node o693_4 .nil .nil) (.node o949_4 .nil .nil))) (.node o245_2 (.node o373_3 (.node o629_4 .nil .nil) (.node o885_4 .nil .nil)) (.node o501_3 (.node o757_4 .nil .nil) .nil))))) (.node o29_0 (.node o45_2 (.node o77_2 (.node o141_2 (.node o269_2 (.node o525_3 .nil .nil) (.node o781_4 .nil .nil)) (.node o397_3 (.node o653_4 .nil .nil) (.node o909_4 .nil .nil))) (.node o205_2 (.node o333_3 (.node o589_3 .nil .nil) (.node o845_4 .nil .nil)) (.node o461_3 (.node o717_4 .nil .nil) .nil))) (.node o109_2 (.node o173_2 (.node o301_3 (.node o557_3 .nil .nil) (.node o813_4 .nil .nil)) (.node o429_3 (.node o685_4 .nil .nil) (.node o941_4 .nil .nil))) (.node o237_2 (.node o365_3 (.node o621_4 .nil .nil) (.node o877_4 .nil .nil)) (.node o493_3 (.node o749_4 .nil .nil) .nil)))) (.node o61_2 (.node o93_2 (.node o157_2 (.node o285_2 (.node o541_3 .nil .nil) (.node o797_4 .nil .nil)) (.node o413_3 (.node o669_4 .nil .nil) (.node o925_4 .nil .nil))) (.node o221_2 (.node o349_3 (.node o605_3 .nil .nil) (.node o861_4 .nil .nil)) (.node o477_3 (.node o733_4 .nil .nil) .nil))) (.node o125_2 (.node o189_2 (.node o317_3 (.node o573_3 .nil .nil) (.node o829_4 .nil .nil)) (.node o445_3 (.node o701_4 .nil .nil) (.node o957_4 .nil .nil))) (.node o253_2 (.node o381_3 (.node o637_4 .nil .nil) (.node o893_4 .nil .nil)) (.node o509_3 (.node o765_4 .nil .nil) .nil)))))))) (.node (o2_0 P) (.node o4_0 (.node o8_0 (.node o16_0 (.node (o32_0 P) (.node o64_2 (.node (o128_2 P) (.node o256_2 (.node o512_3 .nil .nil) (.node o768_4 .nil .nil)) (.node o384_3 (.node o640_4 .nil .nil) (.node o896_4 .nil .nil))) (.node o192_2 (.node o320_3 (.node o576_3 .nil .nil) (.node o832_4 .nil .nil)) (.node o448_3 (.node o704_4 .nil .nil) .nil))) (.node o96_2 (.node o160_2 (.node o288_2 (.node o544_3 .nil .nil) (.node o800_4 .nil .nil)) (.node o416_3 (.node o672_4 .nil .nil) (.node o928_4 .nil .nil))) (.node o224_2 (.node o352_3 (.node o608_3 .nil .nil) (.node o864_4 .nil .nil)) (.node o480_3 (.node o736_4 .nil .nil) .nil)))) (.node o48_2 (.node (o80_2 P) (.node o144_2 (.node o272_2 (.node o528_3 .nil .nil) (.node o784_4 .nil .nil)) (.node o400_3 (.node o656_4 .nil .nil) (.node o912_4 .nil .nil))) (.node o208_2 (.node o336_3 (.node o592_3 .nil .nil) (.node o848_4 .nil .nil)) (.node o464_3 (.node o720_4 .nil .nil) .nil))) (.node o112_2 (.node o176_2 (.node o304_3 (.node o560_3 .nil .nil) (.node o816_4 .nil .nil)) (.node o432_3 (.node o688_4 .nil .nil) (.node o944_4 .nil .nil))) (.node o240_2 (.node o368_3 (.node o624_4 .nil .nil) (.node o880_4 .nil .nil)) (.node o496_3 (.node o752_4 .nil .nil) .nil))))) (.node o24_0 (.node o40_4 (.node o72_2 (.node o136_2 (.node o264_2 (.node o520_3 .nil .nil) (.node o776_4 .nil .nil)) (.node o392_3 (.node o648_4 .nil .nil) (.node o904_4 .nil .nil))) (.node o200_2 (.node o328_3 (.node o584_3 .nil .nil) (.node o840_4 .nil .nil)) (.node o456_3 (.node o712_4 .nil .nil) .nil))) (.node o104_2 (.node o168_2 (.node o296_3 (.node o552_3 .nil .nil) (.node o808_4 .nil .nil)) (.node o424_3 (.node o680_4 .nil .nil) (.node o936_4 .nil .nil))) (.node o232_2 (.node o360_3 (.node o616_4 .nil .nil) (.node o872_4 .nil .nil)) (.node o488_3 (.node o744_4 .nil .nil) .nil)))) (.node o56_2 (.node o88_2 (.node o152_2 (.node o280_2 (.node o536_3 .nil .nil) (.node o792_4 .nil .nil)) (.node o408_3 (.node (o664_4 P) .nil .nil) (.node o920_4 .nil .nil))) (.node o216_2 (.node o344_3 (.node o600_3 .nil .nil) (.node o856_4 .nil .nil)) (.node o472_3 (.node o728_4 .nil .nil) .nil))) (.node o120_2 (.node o184_2 (.node o312_3 (.node o568_3 .nil .nil) (.node o824_4 .nil .nil)) (.node o440_3 (.node o696_4 .nil .nil) (.node o952_4 .nil .nil))) (.node o248_2 (.node o376_3 (.node o632_4 .nil .nil) (.node o888_4 .nil .nil)) (.node o504_3 (.node o760_4 .nil .nil) .nil)))))) (.node (o12_0 P) (.node o20_0 (.node o36_0 (.node o68_2 (.node o132_2 (.node o260_2 (.node o516_3 .nil .nil) (.node o772_4 .nil .nil)) (.node o388_3 (.node o644_4 .nil .nil) (.node o900_4 .nil .nil))) (.node o196_2 (.node o324_3 (.node o580_3 .nil .nil) (.node o836_4 .nil .nil)) (.node o452_3 (.node o708_4 .nil .nil) .nil))) (.node o100_2 (.node o164_2 (.node o292_2 (.node o548_3 .nil .nil) (.node o804_4 .nil .nil)) (.node o420_3 (.node o676_4 .nil .nil) (.node o932_4 .nil .nil))) (.node o228_2 (.node o356_3 (.node o612_4 .nil .nil) (.node o868_4 .nil .nil)) (.node o484_3 (.node o740_4 .nil .nil) .nil)))) (.node (o52_2 P) (.node o84_2 (.node o148_2 (.node o276_2 (.node o532_3 .nil .nil) (.node o788_4 .nil .nil)) (.node o404_3 (.node o660_4 .nil .nil) (.node o916_4 .nil .nil))) (.node o212_2 (.node o340_3 (.node o596_3 .nil .nil) (.node o852_4 .nil .nil)) (.node o468_3 (.node o724_4 .nil .nil) .nil))) (.node o116_2 (.node o180_2 (.node o308_3 (.node o564_3 .nil .nil) (.node o820_4 .nil .nil)) (.node o436_3 (.node o692_4 .nil .nil) (.node o948_4 .nil .nil))) (.node o244_2 (.node o372_3 (.node o628_4 .nil .nil) (.node o884_4 .nil .nil)) (.node o500_3 (.node o756_4 .nil .nil) .nil))))) (.node o28_0 (.node o44_2 (.node o76_2 (.node o140_2 (.node o268_2 (.node o524_3 .nil .nil) (.node o780_4 .nil .nil)) (.node o396_3 (.node o652_4 .nil .nil) (.node o908_4 .nil .nil))) (.node o204_2 (.node o332_3 (.node o588_3 .nil .nil) (.node o844_4 .nil .nil)) (.node o460_3 (.node o716_4 .nil .nil) .nil))) (.node o108_2 (.node o172_2 (.node o300_3 (.node o556_3 .nil .nil) (.node o812_4 .nil .nil)) (.node o428_3 (.node o684_4 .nil .nil) (.node o940_4 .nil .nil))) (.node o236_2 (.node o364_3 (.node o620_4 .nil .nil) (.node o876_4 .nil .nil)) (.node o492_3 (.node o748_4 .nil .nil) .nil)))) (.node o60_2 (.node o92_2 (.node o156_2 (.node o284_2 (.node o540_3 .nil .nil) (.node o796_4 .nil .nil)) (.node o412_3 (.node o668_4 .nil .nil) (.node o924_4 .nil .nil))) (.node o220_2 (.node o348_3 (.node o604_3 .nil .nil) (.node o860_4 .nil .nil)) (.node o476_3 (.node o732_4 .nil .nil) .nil))) (.node o124_2 (.node o188_2 (.node o316_3 (.node o572_3 .nil .nil) (.node o828_4 .nil .nil)) (.node o444_3 (.node o700_4 .nil .nil) (.node o956_4 .nil .nil))) (.node o252_2 (.node o380_3 (.node o636_4 .nil .nil) (.node o892_4 .nil .nil)) (.node o508_3 (.node o764_4 .nil .nil) .nil))))))) (.node o6_0 (.node o10_0 (.node o18_0 (.node o34_0 (.node o66_2 (.node o130_2 (.node o258_2 (.node o514_3 .nil .nil) (.node o770_4 .nil .nil)) (.node o386_3 (.node o642_4 .nil .nil) (.node o898_4 .nil .nil))) (.node o194_2 (.node o322_3 (.node o578_3 .nil .nil) (.node o834_4 .nil .nil)) (.node o450_3 (.node o706_4 .nil .nil) .nil))) (.node o98_2 (.node o162_2 (.node o290_2 (.node o546_3 .nil .nil) (.node o802_4 .nil .nil)) (.node o418_3 (.node o674_4 .nil .nil) (.node o930_4 .nil .nil))) (.node o226_2 (.node o354_3 (.node o610_4 .nil .nil) (.node o866_4 .nil .nil)) (.node o482_3 (.node o738_4 .nil .nil) .nil)))) (.node o50_2 (.node o82_2 (.node o146_2 (.node o274_2 (.node o530_3 .nil .nil) (.node o786_4 .nil .nil)) (.node o402_3 (.node o658_4 .nil .nil) (.node o914_4 .nil .nil))) (.node o210_2 (.node o338_3 (.node o594_3 .nil .nil) (.node o850_4 .nil .nil)) (.node o466_3 (.node o722_4 .nil .nil) .nil))) (.node o114_2 (.node o178_2 (.node o306_3 (.node o562_3 .nil .nil) (.node o818_4 .nil .nil)) (.node o434_3 (.node o690_4 .nil .nil) (.node o946_4 .nil .nil))) (.node o242_2 (.node o370_3 (.node o626_4 .nil .nil) (.node o882_4 .nil .nil)) (.node o498_3 (.node o754_4 .nil .nil) .nil))))) (.node (o26_0 P) (.node o42_1 (.node o74_2 (.node o138_2 (.node o266_2 (.node o522_3 .nil .nil) (.node o778_4 .nil .nil)) (.node o394_3 (.node o650_4 .nil .nil) (.node o906_4 .nil .nil))) (.node o202_2 (.node o330_3 (.node o586_3 .nil .nil) (.node o842_4 .nil .nil)) (.node o458_3 (.node o714_4 .nil .nil) .nil))) (.node o106_2 (.node o170_2 (.node o298_3 (.node o554_3 .nil .nil) (.node o810_4 .nil .nil)) (.node o426_3 (.node o682_4 .nil .nil) (.node o938_4 .nil .nil))) (.node o234_2 (.node o362_3 (.node o618_4 .nil .nil) (.node o874_4 .nil .nil)) (.node o490_3 (.node o746_4 .nil .nil) .nil)))) (.node (o58_2 P) (.node o90_2 (.node o154_2 (.node o282_2 (.node o538_3 .nil .nil) (.node o794_4 .nil .nil)) (.node o410_3 (.node o666_4 .nil .nil) (.node o922_4 .nil .nil))) (.node o218_2 (.node o346_3 (.node o602_3 .nil .nil) (.node o858_4 .nil .nil)) (.node o474_3 (.node o730_4 .nil .nil) .nil))) (.node (o122_2 P) (.node o186_2 (.node o314_3 (.node o570_3 .nil .nil) (.node o826_4 .nil .nil)) (.node o442_3 (.node o698_4 .nil .nil) (.node o954_4 .nil .nil))) (.node o250_2 (.node o378_3 (.node o634_4 .nil .nil) (.node o890_4 .nil .nil)) (.node o506_3 (.node o762_4 .nil .nil) .nil)))))) (.node (o14_0 P) (.node o22_0 (.node o38_0 (.node o70_2 (.node (o134_2 P) (.node o262_2 (.node o518_3 .nil .nil) (.node o774_4 .nil .nil)) (.node o390_3 (.node o646_4 .nil .nil) (.node o902_4 .nil .nil))) (.node o198_2 (.node o326_3 (.node o582_3 .nil .nil) (.node o838_4 .nil .nil)) (.node o454_3 (.node o710_4 .nil .nil) .nil))) (.node o102_2 (.node o166_2 (.node o294_3 (.node o550_3 .nil .nil) (.node o806_4 .nil .nil)) (.node o422_3 (.node o678_4 .nil .nil) (.node o934_4 .nil .nil))) (.node o230_2 (.node o358_3 (.node o614_4 .nil .nil) (.node o870_4 .nil .nil)) (.node o486_3 (.node o742_4 .nil .nil) .nil)))) (.node o54_2 (.node (o86_2 P) (.node o150_2 (.node o278_2 (.node o534_3 .nil .nil) (.node o790_4 .nil .nil)) (.node o406_3 (.node o662_4 .nil .nil) (.node o918_4 .nil .nil))) (.node o214_2 (.node o342_3 (.node o598_3 .nil .nil) (.node o854_4 .nil .nil)) (.node o470_3 (.node o726_4 .nil .nil) .nil))) (.node o118_2 (.node o182_2 (.node o310_3 (.node o566_3 .nil .nil) (.node o822_4 .nil .nil)) (.node o438_3 (.node o694_4 .nil .nil) (.node o950_4 .nil .nil))) (.node o246_2 (.node o374_3 (.node o630_4 .nil .nil) (.node o886_4 .nil .nil)) (.node o502_3 (.node o758_4 .nil .nil) .nil))))) (.node o30_0 (.node o46_2 (.node o78_2 (.node o142_2 (.node o270_2 (.node o526_3 .nil .nil) (.node o782_4 .nil .nil)) (.node o398_3 (.node o654_4 .nil .nil) (.node o910_4 .nil .nil))) (.node o206_2 (.node o334_3 (.node o590_3 .nil .nil) (.node o846_4 .nil .nil)) (.node o462_3 (.node o718_4 .nil .nil) .nil))) (.node o110_2 (.node o174_2 (.node o302_3 (.node (o558_3 P) .nil .nil) (.node o814_4 .nil .nil)) (.node o430_3 (.node o686_4 .nil .nil) (.node o942_4 .nil .nil))) (.node o238_2 (.node o366_3 (.node o622_4 .nil .nil) (.node o878_4 .nil .nil)) (.node o494_3 (.node o750_4 .nil .nil) .nil)))) (.node o62_2 (.node o94_2 (.node o158_2 (.node o286_2 (.node o542_3 .nil .nil) (.node o798_4 .nil .nil)) (.node o414_3 (.node o670_4 .nil .nil) (.node o926_4 .nil .nil))) (.node o222_2 (.node o350_3 (.node o606_3 .nil .nil) (.node o862_4 .nil .nil)) (.node o478_3 (.node o734_4 .nil .nil) .nil))) (.node o126_2 (.node o190_2 (.node o318_3 (.node o574_3 .nil .nil) (.node o830_4 .nil .nil)) (.node o446_3 (.node o702_4 .nil .nil) (.node o958_4 .nil .nil))) (.node o254_2 (.node o382_3 (.node o638_4 .nil .nil) (.node o894_4 .nil .nil)) (.node (o510_3 P) (.node o766_4 .nil .nil) .nil)))))))))
noncomputable def o3_5 (P : Params) : Obj := ⟨.type "dict", none, (.dict ⟨[⟨PyData.keyHash P "__name__", .str "__name__" 165, .str "frametongue.reader" 2159⟩, ⟨PyData.keyHash P "__doc__", .str "__doc__" 166, .none⟩, ⟨PyData.keyHash P "__package__", .str "__package__" 167, .none⟩, ⟨PyData.keyHash P "__loader__", .str "__loader__" 168, .builtin "__main__.__loader__#opaque"⟩, ⟨PyData.keyHash P "__spec__", .str "__spec__" 169, .none⟩, ⟨PyData.keyHash P "__annotations__", .str "__annotations__" 170, .ref 6⟩, ⟨PyData.keyHash P "__builtins__", .str "__builtins__" 171, .ref 4⟩, ⟨PyData.keyHash P "__file__", .str "__file__" 173, .str "/claim/cut.py" 172⟩, ⟨PyData.keyHash P "__cached__", .str "__cached__" 174, .none⟩, ⟨PyData.keyHash P "comb", .str "comb" 370, .builtin "math.comb"⟩, ⟨PyData.keyHash P "gcd", .str "gcd" 373, .builtin "math.gcd"⟩, ⟨PyData.keyHash P "_wall", .str "_wall" 386, .ref 49⟩, ⟨PyData.keyHash P "FrameError", .str "FrameError" 406, .ref 59⟩, ⟨PyData.keyHash P "InvalidRows", .str "InvalidRows" 433, .ref 81⟩, ⟨PyData.keyHash P "InvalidDeed", .str "InvalidDeed" 460, .ref 102⟩, ⟨PyData.keyHash P "Barred", .str "Barred" 487, .ref 123⟩, ⟨PyData.keyHash P "NothingToUndo", .str "NothingToUndo" 503, .ref 135⟩, ⟨PyData.keyHash P "number_sum", .str "number_sum" 513, .ref 144⟩, ⟨PyData.keyHash P "unknown_sum", .str "unknown_sum" 519, .ref 149⟩, ⟨PyData.keyHash P "terms_of", .str "terms_of" 526, .ref 156⟩, ⟨PyData.keyHash P "sum_by", .str "sum_by" 532, .ref 161⟩, ⟨PyData.keyHash P "without_noughts", .str "without_noughts" 538, .ref 166⟩, ⟨PyData.keyHash P "plus_sums", .str "plus_sums" 549, .ref 173⟩, ⟨PyData.keyHash P "times_number", .str "times_number" 555, .ref 178⟩, ⟨PyData.keyHash P "less_sums", .str "less_sums" 563, .ref 185⟩, ⟨PyData.keyHash P "times_sums", .str "times_sums" 569, .ref 190⟩, ⟨PyData.keyHash P "power_sum", .str "power_sum" 580, .ref 197⟩, ⟨PyData.keyHash P "degree_in", .str "degree_in" 586, .ref 202⟩, ⟨PyData.keyHash P "degree_of", .str "degree_of" 592, .ref 207⟩, ⟨PyData.keyHash P "first_number", .str "first_number" 599, .ref 214⟩, ⟨PyData.keyHash P "share_of_numbers", .str "share_of_numbers" 608, .ref 221⟩, ⟨PyData.keyHash P "with_first_above", .str "with_first_above" 615, .ref 228⟩, ⟨PyData.keyHash P "is_term_part", .str "is_term_part" 621, .ref 233⟩, ⟨PyData.keyHash P "divided_by", .str "divided_by" 627, .ref 238⟩, ⟨PyData.keyHash P "least_powers", .str "least_powers" 633, .ref 243⟩, ⟨PyData.keyHash P "lowered", .str "lowered" 639, .ref 248⟩, ⟨PyData.keyHash P "put_in", .str "put_in" 655, .ref 255⟩, ⟨PyData.keyHash P "left_of", .str "left_of" 661, .ref 260⟩, ⟨PyData.keyHash P "have_common_part", .str "have_common_part" 671, .ref 267⟩, ⟨PyData.keyHash P "does_show", .str "does_show" 683, .ref 274⟩, ⟨PyData.keyHash P "quick_points", .str "quick_points" 689, .ref 279⟩, ⟨PyData.keyHash P "quick_point", .str "quick_point" 700, .ref 286⟩, ⟨PyData.keyHash P "FEW_TRIES", .str "FEW_TRIES" 704, .int 6 703⟩, ⟨PyData.keyHash P "shares_in", .str "shares_in" 716, .ref 293⟩, ⟨PyData.keyHash P "raised_in", .str "raised_in" 722, .ref 298⟩, ⟨PyData.keyHash P "remainder_in", .str "remainder_in" 736, .ref 305⟩, ⟨PyData.keyHash P "common_of_all", .str "common_of_all" 745, .ref 312⟩, ⟨PyData.keyHash P "without_share", .str "without_share" 753, .ref 319⟩, ⟨PyData.keyHash P "common_in", .str "common_in" 765, .ref 326⟩, ⟨PyData.keyHash P "open_unknowns", .str "open_unknowns" 775, .ref 333⟩, ⟨PyData.keyHash P "parts_by", .str "parts_by" 781, .ref 338⟩, ⟨PyData.keyHash P "standing_in", .str "standing_in" 787, .ref 343⟩, ⟨PyData.keyHash P "common_by_remainders", .str "common_by_remainders" 793, .ref 348⟩, ⟨PyData.keyHash P "plain_common", .str "plain_common" 802, .ref 355⟩, ⟨PyData.keyHash P "common_of", .str "common_of" 808, .ref 360⟩, ⟨PyData.keyHash P "plain_of", .str "plain_of" 814, .ref 365⟩, ⟨PyData.keyHash P "without", .str "without" 824, .ref 372⟩, ⟨PyData.keyHash P "turned_up", .str "turned_up" 832, .ref 379⟩, ⟨PyData.keyHash P "times_lowest", .str "times_lowest" 847, .ref 386⟩, ⟨PyData.keyHash P "joined_lowest", .str "joined_lowest" 865, .ref 393⟩, ⟨PyData.keyHash P "lowest_with", .str "lowest_with" 874, .ref 400⟩, ⟨PyData.keyHash P "is_whole", .str "is_whole" 883, .ref 407⟩, ⟨PyData.keyHash P "is_number", .str "is_number" 893, .ref 415⟩, ⟨PyData.keyHash P "is_string", .str "is_string" 900, .ref 422⟩, ⟨PyData.keyHash P "is_row", .str "is_row" 909, .ref 429⟩, ⟨PyData.keyHash P "first_wrong", .str "first_wrong" 919, .ref 436⟩, ⟨PyData.keyHash P "LETTERS", .str "LETTERS" 923, .str "abcdefghijklmnopqrstuvwxyz" 922⟩, ⟨PyData.keyHash P "FIGURES", .str "FIGURES" 925, .str "0123456789" 924⟩, ⟨PyData.keyHash P "OTHERS", .str "OTHERS" 927, .str "+-*/^(),=" 926⟩, ⟨PyData.keyHash P "BLANK", .str "BLANK" 929, .str " " 928⟩, ⟨PyData.keyHash P "MOST_LETTERS", .str "MOST_LETTERS" 931, .int 8 930⟩, ⟨PyData.keyHash P "MOST_FIGURES", .str "MOST_FIGURES" 933, .int 6 932⟩, ⟨PyData.keyHash P "wrong_sign", .str "wrong_sign" 939, .ref 441⟩, ⟨PyData.keyHash P "sort_of", .str "sort_of" 946, .ref 448⟩, ⟨PyData.keyHash P "row_words", .str "row_words" 957, .ref 455⟩, ⟨PyData.keyHash P "is_run_of", .str "is_run_of" 963, .ref 460⟩, ⟨PyData.keyHash P "is_any_name", .str "is_any_name" 970, .ref 467⟩, ⟨PyData.keyHash P "is_name_word", .str "is_name_word" 977, .ref 474⟩, ⟨PyData.keyHash P "is_any_number", .str "is_any_number" 984, .ref 481⟩, ⟨PyData.keyHash P "is_number_word", .str "is_number_word" 991, .ref 488⟩, ⟨PyData.keyHash P "DEEDS", .str "DEEDS" 998, .ref 489⟩, ⟨PyData.keyHash P "MOST_PLACES", .str "MOST_PLACES" 1000, .int 40 999⟩, ⟨PyData.keyHash P "MOST_POWER", .str "MOST_POWER" 1002, .int 4 1001⟩, ⟨PyData.keyHash P "MOST_OWN", .str "MOST_OWN" 1004, .int 3 1003⟩, ⟨PyData.keyHash P "GIVEN_HEADS", .str "GIVEN_HEADS" 1008, .ref 490⟩, ⟨PyData.keyHash P "parts_of", .str "parts_of" 1015, .ref 497⟩, ⟨PyData.keyHash P "with_parts", .str "with_parts" 1023, .ref 504⟩, ⟨PyData.keyHash P "folded", .str "folded" 1029, .ref 509⟩, ⟨PyData.keyHash P "MOST_PUT", .str "MOST_PUT" 1033, .int 200 1032⟩, ⟨PyData.keyHash P "MOST_SPOTS", .str "MOST_SPOTS" 1035, .int 4 1034⟩, ⟨PyData.keyHash P "MOST_OF", .str "MOST_OF" 1048, .ref 510⟩, ⟨PyData.keyHash P "SPOTS", .str "SPOTS" 1051, .ref 511⟩, ⟨PyData.keyHash P "GIVENS", .str "GIVENS" 1055, .ref 512⟩, ⟨PyData.keyHash P "CALLED", .str "CALLED" 1080, .ref 513⟩, ⟨PyData.keyHash P "RESERVED", .str "RESERVED" 1095, .ref 514⟩, ⟨PyData.keyHash P "sorts_by", .str "sorts_by" 1101, .ref 519⟩, ⟨PyData.keyHash P "givens_by", .str "givens_by" 1107, .ref 524⟩, ⟨PyData.keyHash P "tells_by", .str "tells_by" 1113, .ref 529⟩, ⟨PyData.keyHash P "is_too_many", .str "is_too_many" 1119, .ref 534⟩, ⟨PyData.keyHash P "may_be_called", .str "may_be_called" 1128, .ref 541⟩, ⟨PyData.keyHash P "may_be_used", .str "may_be_used" 1137, .ref 548⟩, ⟨PyData.keyHash P "wrong_name", .str "wrong_name" 1152, .ref 555⟩, ⟨PyData.keyHash P "Sizes", .str "Sizes" 1214, .ref 598⟩, ⟨PyData.keyHash P "added", .str "added" 1227, .ref 609⟩, ⟨PyData.keyHash P "size_by", .str "size_by" 1235, .ref 616⟩, ⟨PyData.keyHash P "own_trees", .str "own_trees" 1241, .ref 621⟩, ⟨PyData.keyHash P "stands_for", .str "stands_for" 1251, .ref 628⟩, ⟨PyData.keyHash P "led_on", .str "led_on" 1263, .ref 635⟩, ⟨PyData.keyHash P "put_in_all", .str "put_in_all" 1269, .ref 640⟩, ⟨PyData.keyHash P "put_in_tree", .str "put_in_tree" 1277, .ref 647⟩, ⟨PyData.keyHash P "put_in_by", .str "put_in_by" 1285, .ref 654⟩, ⟨PyData.keyHash P "is_great_put_in", .str "is_great_put_in" 1293, .ref 661⟩, ⟨PyData.keyHash P "MOST_TERMS", .str "MOST_TERMS" 1297, .int 200 1296⟩, ⟨PyData.keyHash P "MOST_DEGREE", .str "MOST_DEGREE" 1299, .int 8 1298⟩, ⟨PyData.keyHash P "NO_FORM", .str "NO_FORM" 1301, .str "none" 1300⟩, ⟨PyData.keyHash P "TOO_GREAT", .str "TOO_GREAT" 1303, .str "great" 1302⟩, ⟨PyData.keyHash P "Unknowns", .str "Unknowns" 1379, .ref 710⟩, ⟨PyData.keyHash P "is_great_sum", .str "is_great_sum" 1385, .ref 719⟩, ⟨PyData.keyHash P "plus_pair", .str "plus_pair" 1393, .ref 726⟩, ⟨PyData.keyHash P "less_pair", .str "less_pair" 1401, .ref 733⟩, ⟨PyData.keyHash P "times_pair", .str "times_pair" 1409, .ref 740⟩, ⟨PyData.keyHash P "over_pair", .str "over_pair" 1417, .ref 747⟩, ⟨PyData.keyHash P "pair_with", .str "pair_with" 1426, .ref 754⟩, ⟨PyData.keyHash P "minus_pair", .str "minus_pair" 1433, .ref 761⟩, ⟨PyData.keyHash P "spread", .str "spread" 1439, .ref 766⟩, ⟨PyData.keyHash P "called", .str "called" 1445, .ref 771⟩, ⟨PyData.keyHash P "made_pairs", .str "made_pairs" 1451, .ref 776⟩, ⟨PyData.keyHash P "pairs_of", .str "pairs_of" 1457, .ref 873⟩, ⟨PyData.keyHash P "pairs_of_formwork", .str "pairs_of_formwork" 1458, .ref 781⟩, ⟨PyData.keyHash P "told_pair", .str "told_pair" 1467, .ref 788⟩, ⟨PyData.keyHash P "BOUND_OF_ONE", .str "BOUND_OF_ONE" 1471, .ref 789⟩, ⟨PyData.keyHash P "BOUND_OF_UNKNOWN", .str "BOUND_OF_UNKNOWN" 1475, .ref 790⟩, ⟨PyData.keyHash P "bound_plus", .str "bound_plus" 1483, .ref 797⟩, ⟨PyData.keyHash P "bound_times", .str "bound_times" 1491, .ref 804⟩, ⟨PyData.keyHash P "pair_bound_plus", .str "pair_bound_plus" 1499, .ref 811⟩, ⟨PyData.keyHash P "pair_bound_times", .str "pair_bound_times" 1507, .ref 818⟩, ⟨PyData.keyHash P "pair_bound_power", .str "pair_bound_power" 1517, .ref 825⟩, ⟨PyData.keyHash P "call_bounds", .str "call_bounds" 1523, .ref 830⟩, ⟨PyData.keyHash P "made_bounds", .str "made_bounds" 1529, .ref 835⟩, ⟨PyData.keyHash P "are_small", .str "are_small" 1535, .ref 840⟩, ⟨PyData.keyHash P "is_surely_small", .str "is_surely_small" 1541, .ref 845⟩, ⟨PyData.keyHash P "tell_is_great", .str "tell_is_great" 1552, .ref 852⟩, ⟨PyData.keyHash P "form_of_tree", .str "form_of_tree" 1561, .ref 859⟩, ⟨PyData.keyHash P "form_by", .str "form_by" 1569, .ref 866⟩, ⟨PyData.keyHash P "pairs_of_freedomwork", .str "pairs_of_freedomwork" 1583, .ref 873⟩, ⟨PyData.keyHash P "lowered_at", .str "lowered_at" 1591, .ref 880⟩, ⟨PyData.keyHash P "slope", .str "slope" 1597, .ref 885⟩, ⟨PyData.keyHash P "is_kept_by_shifts_of", .str "is_kept_by_shifts_of" 1603, .ref 890⟩, ⟨PyData.keyHash P "times_root", .str "times_root" 1614, .ref 897⟩, ⟨PyData.keyHash P "line_of", .str "line_of" 1626, .ref 904⟩, ⟨PyData.keyHash P "spread_at", .str "spread_at" 1642, .ref 911⟩, ⟨PyData.keyHash P "spread_term", .str "spread_term" 1655, .ref 918⟩, ⟨PyData.keyHash P "rooted_sum", .str "rooted_sum" 1661, .ref 923⟩, ⟨PyData.keyHash P "degree_in_pairs", .str "degree_in_pairs" 1667, .ref 928⟩, ⟨PyData.keyHash P "balance_of", .str "balance_of" 1673, .ref 933⟩, ⟨PyData.keyHash P "is_kept_by_turns_of", .str "is_kept_by_turns_of" 1681, .ref 940⟩, ⟨PyData.keyHash P "sums_by", .str "sums_by" 1690, .ref 947⟩, ⟨PyData.keyHash P "are_kept", .str "are_kept" 1696, .ref 952⟩, ⟨PyData.keyHash P "is_free_by", .str "is_free_by" 1704, .ref 959⟩, ⟨PyData.keyHash P "MOST_DEEP", .str "MOST_DEEP" 1708, .int 12 1707⟩, ⟨PyData.keyHash P "SIGN", .str "SIGN" 1710, .str "sign" 1709⟩, ⟨PyData.keyHash P "FORM", .str "FORM" 1712, .str "form" 1711⟩, ⟨PyData.keyHash P "RowParser", .str "RowParser" 1910, .ref 1101⟩, ⟨PyData.keyHash P "ReadRow", .str "ReadRow" 1948, .ref 1122⟩, ⟨PyData.keyHash P "column_behind", .str "column_behind" 1957, .ref 1133⟩, ⟨PyData.keyHash P "read_by", .str "read_by" 1970, .ref 1140⟩, ⟨PyData.keyHash P "row_by", .str "row_by" 1977, .ref 1147⟩, ⟨PyData.keyHash P "POINT", .str "POINT" 1981, .str "point" 1980⟩, ⟨PyData.keyHash P "ARROW", .str "ARROW" 1983, .str "arrow" 1982⟩, ⟨PyData.keyHash P "NUMBER", .str "NUMBER" 1985, .str "number" 1984⟩, ⟨PyData.keyHash P "AXES", .str "AXES" 1990, .ref 1148⟩, ⟨PyData.keyHash P "sum_sort", .str "sum_sort" 1998, .ref 1155⟩, ⟨PyData.keyHash P "less_sort", .str "less_sort" 2006, .ref 1162⟩, ⟨PyData.keyHash P "times_sort", .str "times_sort" 2014, .ref 1169⟩, ⟨PyData.keyHash P "over_sort", .str "over_sort" 2022, .ref 1176⟩, ⟨PyData.keyHash P "deed_sort", .str "deed_sort" 2031, .ref 1183⟩, ⟨PyData.keyHash P "single_sort", .str "single_sort" 2039, .ref 1190⟩, ⟨PyData.keyHash P "pair_sort", .str "pair_sort" 2047, .ref 1197⟩, ⟨PyData.keyHash P "called_sort", .str "called_sort" 2055, .ref 1204⟩, ⟨PyData.keyHash P "Sorts", .str "Sorts" 2136, .ref 1257⟩, ⟨PyData.keyHash P "sort_in", .str "sort_in" 2144, .ref 1268⟩, ⟨PyData.keyHash P "wrong_sort", .str "wrong_sort" 2152, .ref 1275⟩, ⟨PyData.keyHash P "axis_paths", .str "axis_paths" 2158, .ref 1280⟩, ⟨PyData.keyHash P "NAME", .str "NAME" 2162, .str "name" 2161⟩, ⟨PyData.keyHash P "MANY", .str "MANY" 2164, .str "many" 2163⟩, ⟨PyData.keyHash P "SORT", .str "SORT" 2166, .str "sort" 2165⟩, ⟨PyData.keyHash P "GREAT", .str "GREAT" 2168, .str "great" 2167⟩, ⟨PyData.keyHash P "MOST_ROWS", .str "MOST_ROWS" 2170, .int 20 2169⟩]⟩ 188), ⟨[]⟩⟩
noncomputable def o40_5 : Obj := ⟨.none, none, (.fields ⟨[.int 2 0, .int 0 0, .ref 48, .int 6 0, .int 0 0, .ref 55, .int 8 0, .int 0 0, .ref 69, .int 13 0, .int 0 0, .ref 90, .int 18 0, .int 0 0, .ref 111, .int 23 0, .int 0 0, .ref 131, .int 26 0, .int 0 0, .ref 143, .int 28 0, .int 0 0, .ref 148, .int 30 0, .int 0 0, .ref 155, .int 32 0, .int 0 0, .ref 160, .int 34 0, .int 0 0, .ref 165, .int 36 0, .int 0 0, .ref 172, .int 41 0, .int 0 0, .ref 177, .int 43 0, .int 0 0, .ref 184, .int 45 0, .int 0 0, .ref 189, .int 52 0, .int 0 0, .ref 196, .int 57 0, .int 0 0, .ref 201, .int 59 0, .int 0 0, .ref 206, .int 61 0, .int 0 0, .ref 213, .int 63 0, .int 0 0, .ref 220, .int 68 0, .int 0 0, .ref 227, .int 70 0, .int 0 0, .ref 232, .int 72 0, .int 0 0, .ref 237, .int 82 0, .int 0 0, .ref 242, .int 84 0, .int 0 0, .ref 247, .int 86 0, .int 0 0, .ref 254, .int 97 0, .int 0 0, .ref 259, .int 110 0, .int 0 0, .ref 266, .int 115 0, .int 0 0, .ref 273, .int 120 0, .int 0 0, .ref 278, .int 126 0, .int 0 0, .ref 285, .int 133 0, .int 0 0, .ref 292, .int 139 0, .int 0 0, .ref 297, .int 141 0, .int 0 0, .ref 304, .int 149 0, .int 0 0, .ref 311, .int 154 0, .int 0 0, .ref 318, .int 156 0, .int 0 0, .ref 325, .int 162 0, .int 0 0, .ref 332, .int 169 0, .int 0 0, .ref 337, .int 176 0, .int 0 0, .ref 342, .int 178 0, .int 0 0, .ref 347, .int 184 0, .int 0 0, .ref 354, .int 191 0, .int 0 0, .ref 359, .int 200 0, .int 0 0, .ref 364, .int 204 0, .int 0 0, .ref 371, .int 206 0, .int 0 0, .ref 378, .int 210 0, .int 0 0, .ref 385, .int 217 0, .int 0 0, .ref 392, .int 226 0, .int 0 0, .ref 399, .int 231 0, .int 0 0, .ref 406, .int 233 0, .int 0 0, .ref 414, .int 235 0, .int 0 0, .ref 421, .int 237 0, .int 0 0, .ref 428, .int 239 0, .int 0 0, .ref 435, .int 251 0, .int 0 0, .ref 440, .int 254 0, .int 0 0, .ref 447, .int 258 0, .int 0 0, .ref 454, .int 268 0, .int 0 0, .ref 459, .int 270 0, .int 0 0, .ref 466, .int 272 0, .int 0 0, .ref 473, .int 274 0, .int 0 0, .ref 480, .int 276 0, .int 0 0, .ref 487, .int 284 0, .int 0 0, .ref 496, .int 290 0, .int 0 0, .ref 503, .int 298 0, .int 0 0, .ref 508, .int 317 0, .int 0 0, .ref 518, .int 319 0, .int 0 0, .ref 523, .int 321 0, .int 0 0, .ref 528, .int 323 0, .int 0 0, .ref 533, .int 327 0, .int 0 0, .ref 540, .int 331 0, .int 0 0, .ref 547, .int 335 0, .int 0 0, .ref 554, .int 347 0, .int 0 0, .ref 561, .int 379 0, .int 0 0, .ref 608, .int 386 0, .int 0 0, .ref 615, .int 388 0, .int 0 0, .ref 620, .int 390 0, .int 0 0, .ref 627, .int 398 0, .int 0 0, .ref 634, .int 403 0, .int 0 0, .ref 639, .int 418 0, .int 0 0, .ref 646, .int 420 0, .int 0 0, .ref 653, .int 422 0, .int 0 0, .ref 660, .int 429 0, .int 0 0, .ref 667, .int 459 0, .int 0 0, .ref 718, .int 463 0, .int 0 0, .ref 725, .int 465 0, .int 0 0, .ref 732, .int 467 0, .int 0 0, .ref 739, .int 469 0, .int 0 0, .ref 746, .int 471 0, .int 0 0, .ref 753, .int 475 0, .int 0 0, .ref 760, .int 477 0, .int 0 0, .ref 765, .int 481 0, .int 0 0, .ref 770, .int 494 0, .int 0 0, .ref 775, .int 513 0, .int 0 0, .ref 780, .int 527 0, .int 0 0, .ref 787, .int 532 0, .int 0 0, .ref 796, .int 534 0, .int 0 0, .ref 803, .int 536 0, .int 0 0, .ref 810, .int 538 0, .int 0 0, .ref 817, .int 540 0, .int 0 0, .ref 824, .int 545 0, .int 0 0, .ref 829, .int 559 0, .int 0 0, .ref 834, .int 575 0, .int 0 0, .ref 839, .int 580 0, .int 0 0, .ref 844, .int 595 0, .int 0 0, .ref 851, .int 604 0, .int 0 0, .ref 858, .int 607 0, .int 0 0, .ref 865, .int 610 0, .int 0 0, .ref 872, .int 620 0, .int 0 0, .ref 879, .int 622 0, .int 0 0, .ref 884, .int 630 0, .int 0 0, .ref 889, .int 633 0, .int 0 0, .ref 896, .int 641 0, .int 0 0, .ref 903, .int 648 0, .int 0 0, .ref 910, .int 658 0, .int 0 0, .ref 917, .int 663 0, .int 0 0, .ref 922, .int 673 0, .int 0 0, .ref 927, .int 676 0, .int 0 0, .ref 932, .int 680 0, .int 0 0, .ref 939, .int 682 0, .int 0 0, .ref 946, .int 685 0, .int 0 0, .ref 951, .int 687 0, .int 0 0, .ref 958, .int 693 0, .int 0 0, .ref 965, .int 838 0, .int 0 0, .ref 1111, .int 846 0, .int 0 0, .ref 1132, .int 848 0, .int 0 0, .ref 1139, .int 864 0, .int 0 0, .ref 1146, .int 871 0, .int 0 0, .ref 1154, .int 875 0, .int 0 0, .ref 1161, .int 879 0, .int 0 0, .ref 1168, .int 883 0, .int 0 0, .ref 1175, .int 885 0, .int 0 0, .ref 1182, .int 891 0, .int 0 0, .ref 1189, .int 895 0, .int 0 0, .ref 1196, .int 903 0, .int 0 0, .ref 1203, .int 905 0, .int 0 0, .ref 1210, .int 971 0, .int 0 0, .ref 1267, .int 973 0, .int 0 0, .ref 1274, .int 977 0, .int 0 0, .ref 1279]⟩), ⟨[]⟩⟩
noncomputable def o960_5 : Obj := ⟨.type "tuple", none, (.seq ⟨[]⟩ 0), ⟨[]⟩⟩
noncomputable def o961_5 : Obj := ⟨.type "builtin_function_or_method", none, (.fields ⟨[.builtin "type.__prepare__", .type "type"]⟩), ⟨[]⟩⟩
noncomputable def o962_5 (P : Params) : Obj := ⟨.type "dict", none, (.dict ⟨[⟨PyData.keyHash P "__module__", .str "__module__" 1720, .str "frametongue.parsing" 1705⟩, ⟨PyData.keyHash P "__qualname__", .str "__qualname__" 1722, .str "RowParser" 1721⟩, ⟨PyData.keyHash P "__firstlineno__", .str "__firstlineno__" 1724, .int 693 1723⟩, ⟨PyData.keyHash P "__init__", .str "__init__" 1732, .ref 973⟩, ⟨PyData.keyHash P "word", .str "word" 1739, .ref 980⟩, ⟨PyData.keyHash P "takes", .str "takes" 1747, .ref 987⟩, ⟨PyData.keyHash P "bound", .str "bound" 1755, .ref 994⟩, ⟨PyData.keyHash P "any_name", .str "any_name" 1764, .ref 1001⟩, ⟨PyData.keyHash P "any_number", .str "any_number" 1774, .ref 1009⟩, ⟨PyData.keyHash P "sited", .str "sited" 1784, .ref 1016⟩, ⟨PyData.keyHash P "any_sum", .str "any_sum" 1794, .ref 1023⟩, ⟨PyData.keyHash P "any_term", .str "any_term" 1803, .ref 1030⟩, ⟨PyData.keyHash P "deed", .str "deed" 1815, .ref 1037⟩, ⟨PyData.keyHash P "any_power", .str "any_power" 1825, .ref 1044⟩, ⟨PyData.keyHash P "any_atom", .str "any_atom" 1835, .ref 1051⟩, ⟨PyData.keyHash P "called", .str "called" 1841, .ref 1056⟩, ⟨PyData.keyHash P "bracketed", .str "bracketed" 1850, .ref 1063⟩, ⟨PyData.keyHash P "whole_sum", .str "whole_sum" 1858, .ref 1070⟩, ⟨PyData.keyHash P "any_row", .str "any_row" 1868, .ref 1077⟩, ⟨PyData.keyHash P "ended", .str "ended" 1877, .ref 1084⟩, ⟨PyData.keyHash P "equal", .str "equal" 1887, .ref 1091⟩, ⟨PyData.keyHash P "rule_row", .str "rule_row" 1896, .ref 1098⟩, ⟨PyData.keyHash P "__static_attributes__", .str "__static_attributes__" 1903, .ref 1099⟩]⟩ 23), ⟨[]⟩⟩
noncomputable def o963_5 : Obj := ⟨.type "tuple", none, (.seq ⟨[]⟩ 0), ⟨[]⟩⟩
noncomputable def o964_5 : Obj := ⟨.none, none, (.fields ⟨[.int 695 0, .int 4 0, .ref 972, .int 703 0, .int 4 0, .ref 979, .int 706 0, .int 4 0, .ref 986, .int 712 0, .int 4 0, .ref 993, .int 715 0, .int 4 0, .ref 1000, .int 724 0, .int 4 0, .ref 1008, .int 733 0, .int 4 0, .ref 1015, .int 738 0, .int 4 0, .ref 1022, .int 748 0, .int 4 0, .ref 1029, .int 755 0, .int 4 0, .ref 1036, .int 761 0, .int 4 0, .ref 1043, .int 769 0, .int 4 0, .ref 1050, .int 783 0, .int 4 0, .ref 1055, .int 792 0, .int 4 0, .ref 1062, .int 802 0, .int 4 0, .ref 1069, .int 806 0, .int 4 0, .ref 1076, .int 821 0, .int 4 0, .ref 1083, .int 824 0, .int 4 0, .ref 1090, .int 828 0, .int 4 0, .ref 1097]⟩), ⟨[]⟩⟩
noncomputable def o965_5 : Obj := ⟨.type "code", none, (.fields ⟨[.str "RowParser" 1715, .str "RowParser" 1716, .str "/claim/cut.py" 1717, .int 693 0, .int 0 0, .int 0 0, .int 0 0, .int 0 0, .ref 963, .bool false, .int 374 0, .ref 964, .none, .none, .none, .none, .int 1718 0, .int 693 0, .str "/claim/cut.py" 1719]⟩), ⟨[]⟩⟩
noncomputable def o966_5 : Obj := ⟨.type "frame", none, .plain, ⟨[(some (.ref 965)), (some (.ref 3)), (some (.ref 962)), none, (some (.str "frametongue.parsing" 1705)), none, (some (.ref 0))]⟩⟩
noncomputable def o967_5 : Obj := ⟨.type "tuple", none, (.seq ⟨[]⟩ 0), ⟨[]⟩⟩
noncomputable def o968_5 : Obj := ⟨.none, none, (.fields ⟨[]⟩), ⟨[]⟩⟩
noncomputable def o969_5 : Obj := ⟨.type "tuple", none, (.seq ⟨[.str "self" 1728, .str "words" 1729]⟩ 0), ⟨[]⟩⟩
noncomputable def o970_5 : Obj := ⟨.type "tuple", none, (.seq ⟨[]⟩ 0), ⟨[]⟩⟩
noncomputable def o971_5 : Obj := ⟨.none, none, (.func (fQ (inClass (topS 164) 0) "__init__" "RowParser.__init__" 0 [] (.none) (.none) (.none) (.none) none (.none) (.none) 0)), ⟨[]⟩⟩
noncomputable def o972_5 : Obj := ⟨.type "code", none, (.fields ⟨[.str "__init__" 1725, .str "RowParser.__init__" 1726, .str "/claim/cut.py" 1727, .int 695 0, .int 2 0, .int 0 0, .int 0 0, .int 3 0, .ref 967, .bool true, .int 374 0, .ref 968, .none, .ref 969, .ref 970, .ref 971, .int 1730 0, .int 695 0, .str "/claim/cut.py" 1731]⟩), ⟨[]⟩⟩
noncomputable def o973_5 : Obj := ⟨.type "function", none, (.func (fQ (inClass (topS 164) 0) "__init__" "RowParser.__init__" 3 [] (.none) (.none) (.none) (.str "frametongue.parsing" 1705) none (.ref 972) (.none) 0)), ⟨[]⟩⟩
noncomputable def o974_5 : Obj := ⟨.type "tuple", none, (.seq ⟨[]⟩ 0), ⟨[]⟩⟩
noncomputable def o975_5 : Obj := ⟨.none, none, (.fields ⟨[]⟩), ⟨[]⟩⟩
noncomputable def o976_5 : Obj := ⟨.type "tuple", none, (.seq ⟨[.str "self" 1736]⟩ 0), ⟨[]⟩⟩
noncomputable def o977_5 : Obj := ⟨.type "tuple", none, (.seq ⟨[]⟩ 0), ⟨[]⟩⟩
noncomputable def o978_5 : Obj := ⟨.none, none, (.func (fQ (inClass (topS 164) 1) "word" "RowParser.word" 0 [] (.none) (.none) (.none) (.none) none (.none) (.none) 0)), ⟨[]⟩⟩
noncomputable def o979_5 : Obj := ⟨.type "code", none, (.fields ⟨[.str "word" 1733, .str "RowParser.word" 1734, .str "/claim/cut.py" 1735, .int 703 0, .int 1 0, .int 0 0, .int 0 0, .int 3 0, .ref 974, .bool true, .int 374 0, .ref 975, .none, .ref 976, .ref 977, .ref 978, .int 1737 0, .int 703 0, .str "/claim/cut.py" 1738]⟩), ⟨[]⟩⟩
noncomputable def o980_5 : Obj := ⟨.type "function", none, (.func (fQ (inClass (topS 164) 1) "word" "RowParser.word" 3 [] (.none) (.none) (.none) (.str "frametongue.parsing" 1705) none (.ref 979) (.none) 0)), ⟨[]⟩⟩
noncomputable def o981_5 : Obj := ⟨.type "tuple", none, (.seq ⟨[]⟩ 0), ⟨[]⟩⟩
noncomputable def o982_5 : Obj := ⟨.none, none, (.fields ⟨[]⟩), ⟨[]⟩⟩
noncomputable def o983_5 : Obj := ⟨.type "tuple", none, (.seq ⟨[.str "self" 1743, .str "text" 1744]⟩ 0), ⟨[]⟩⟩
noncomputable def o984_5 : Obj := ⟨.type "tuple", none, (.seq ⟨[]⟩ 0), ⟨[]⟩⟩
noncomputable def o985_5 : Obj := ⟨.none, none, (.func (fQ (inClass (topS 164) 2) "takes" "RowParser.takes" 0 [] (.none) (.none) (.none) (.none) none (.none) (.none) 0)), ⟨[]⟩⟩
noncomputable def o986_5 : Obj := ⟨.type "code", none, (.fields ⟨[.str "takes" 1740, .str "RowParser.takes" 1741, .str "/claim/cut.py" 1742, .int 706 0, .int 2 0, .int 0 0, .int 0 0, .int 3 0, .ref 981, .bool true, .int 374 0, .ref 982, .none, .ref 983, .ref 984, .ref 985, .int 1745 0, .int 706 0, .str "/claim/cut.py" 1746]⟩), ⟨[]⟩⟩
noncomputable def o987_5 : Obj := ⟨.type "function", none, (.func (fQ (inClass (topS 164) 2) "takes" "RowParser.takes" 3 [] (.none) (.none) (.none) (.str "frametongue.parsing" 1705) none (.ref 986) (.none) 0)), ⟨[]⟩⟩
noncomputable def o988_5 : Obj := ⟨.type "tuple", none, (.seq ⟨[]⟩ 0), ⟨[]⟩⟩
noncomputable def o989_5 : Obj := ⟨.none, none, (.fields ⟨[]⟩), ⟨[]⟩⟩
noncomputable def o990_5 : Obj := ⟨.type "tuple", none, (.seq ⟨[.str "self" 1751, .str "is_right" 1752]⟩ 0), ⟨[]⟩⟩
noncomputable def o991_5 : Obj := ⟨.type "tuple", none, (.seq ⟨[]⟩ 0), ⟨[]⟩⟩
noncomputable def o992_5 : Obj := ⟨.none, none, (.func (fQ (inClass (topS 164) 3) "bound" "RowParser.bound" 0 [] (.none) (.none) (.none) (.none) none (.none) (.none) 0)), ⟨[]⟩⟩
noncomputable def o993_5 : Obj := ⟨.type "code", none, (.fields ⟨[.str "bound" 1748, .str "RowParser.bound" 1749, .str "/claim/cut.py" 1750, .int 712 0, .int 2 0, .int 0 0, .int 0 0, .int 3 0, .ref 988, .bool true, .int 374 0, .ref 989, .none, .ref 990, .ref 991, .ref 992, .int 1753 0, .int 712 0, .str "/claim/cut.py" 1754]⟩), ⟨[]⟩⟩
noncomputable def o994_5 : Obj := ⟨.type "function", none, (.func (fQ (inClass (topS 164) 3) "bound" "RowParser.bound" 3 [] (.none) (.none) (.none) (.str "frametongue.parsing" 1705) none (.ref 993) (.none) 0)), ⟨[]⟩⟩
noncomputable def o995_5 : Obj := ⟨.type "tuple", none, (.seq ⟨[]⟩ 0), ⟨[]⟩⟩
noncomputable def o996_5 : Obj := ⟨.none, none, (.fields ⟨[]⟩), ⟨[]⟩⟩
noncomputable def o997_5 : Obj := ⟨.type "tuple", none, (.seq ⟨[.str "self" 1759, .str "does" 1760, .str "text" 1761]⟩ 0), ⟨[]⟩⟩
noncomputable def o998_5 : Obj := ⟨.type "tuple", none, (.seq ⟨[]⟩ 0), ⟨[]⟩⟩
noncomputable def o999_5 : Obj := ⟨.none, none, (.func (fQ (inClass (topS 164) 4) "any_name" "RowParser.any_name" 0 [] (.none) (.none) (.none) (.none) none (.none) (.none) 0)), ⟨[]⟩⟩
noncomputable def o1000_5 : Obj := ⟨.type "code", none, (.fields ⟨[.str "any_name" 1756, .str "RowParser.any_name" 1757, .str "/claim/cut.py" 1758, .int 715 0, .int 2 0, .int 0 0, .int 0 0, .int 3 0, .ref 995, .bool true, .int 374 0, .ref 996, .none, .ref 997, .ref 998, .ref 999, .int 1762 0, .int 715 0, .str "/claim/cut.py" 1763]⟩), ⟨[]⟩⟩
noncomputable def o1001_5 : Obj := ⟨.type "function", none, (.func (fQ (inClass (topS 164) 4) "any_name" "RowParser.any_name" 3 [] (.none) (.none) (.none) (.str "frametongue.parsing" 1705) none (.ref 1000) (.none) 0)), ⟨[]⟩⟩
noncomputable def o1002_5 : Obj := ⟨.type "tuple", none, (.seq ⟨[.none]⟩ 0), ⟨[]⟩⟩
noncomputable def o1003_5 : Obj := ⟨.type "tuple", none, (.seq ⟨[]⟩ 0), ⟨[]⟩⟩
noncomputable def o1004_5 : Obj := ⟨.none, none, (.fields ⟨[]⟩), ⟨[]⟩⟩
noncomputable def o1005_5 : Obj := ⟨.type "tuple", none, (.seq ⟨[.str "self" 1768, .str "most" 1769, .str "text" 1770, .str "found" 1771]⟩ 0), ⟨[]⟩⟩
noncomputable def o1006_5 : Obj := ⟨.type "tuple", none, (.seq ⟨[]⟩ 0), ⟨[]⟩⟩
noncomputable def o1007_5 : Obj := ⟨.none, none, (.func (fQ (inClass (topS 164) 5) "any_number" "RowParser.any_number" 0 [] (.none) (.none) (.none) (.none) none (.none) (.none) 0)), ⟨[]⟩⟩
noncomputable def o1008_5 : Obj := ⟨.type "code", none, (.fields ⟨[.str "any_number" 1765, .str "RowParser.any_number" 1766, .str "/claim/cut.py" 1767, .int 724 0, .int 2 0, .int 0 0, .int 0 0, .int 3 0, .ref 1003, .bool true, .int 374 0, .ref 1004, .none, .ref 1005, .ref 1006, .ref 1007, .int 1772 0, .int 724 0, .str "/claim/cut.py" 1773]⟩), ⟨[]⟩⟩
noncomputable def o1009_5 : Obj := ⟨.type "function", none, (.func (fQ (inClass (topS 164) 5) "any_number" "RowParser.any_number" 3 [] (.ref 1002) (.none) (.none) (.str "frametongue.parsing" 1705) none (.ref 1008) (.none) 0)), ⟨[]⟩⟩
noncomputable def o1010_5 : Obj := ⟨.type "tuple", none, (.seq ⟨[]⟩ 0), ⟨[]⟩⟩
noncomputable def o1011_5 : Obj := ⟨.none, none, (.fields ⟨[]⟩), ⟨[]⟩⟩
noncomputable def o1012_5 : Obj := ⟨.type "tuple", none, (.seq ⟨[.str "self" 1778, .str "tree" 1779, .str "begin" 1780, .str "parts" 1781]⟩ 0), ⟨[]⟩⟩
noncomputable def o1013_5 : Obj := ⟨.type "tuple", none, (.seq ⟨[]⟩ 0), ⟨[]⟩⟩
noncomputable def o1014_5 : Obj := ⟨.none, none, (.func (fQ (inClass (topS 164) 6) "sited" "RowParser.sited" 0 [] (.none) (.none) (.none) (.none) none (.none) (.none) 0)), ⟨[]⟩⟩
noncomputable def o1015_5 : Obj := ⟨.type "code", none, (.fields ⟨[.str "sited" 1775, .str "RowParser.sited" 1776, .str "/claim/cut.py" 1777, .int 733 0, .int 4 0, .int 0 0, .int 0 0, .int 3 0, .ref 1010, .bool true, .int 374 0, .ref 1011, .none, .ref 1012, .ref 1013, .ref 1014, .int 1782 0, .int 733 0, .str "/claim/cut.py" 1783]⟩), ⟨[]⟩⟩
noncomputable def o1016_5 : Obj := ⟨.type "function", none, (.func (fQ (inClass (topS 164) 6) "sited" "RowParser.sited" 3 [] (.none) (.none) (.none) (.str "frametongue.parsing" 1705) none (.ref 1015) (.none) 0)), ⟨[]⟩⟩
noncomputable def o1017_5 : Obj := ⟨.type "tuple", none, (.seq ⟨[]⟩ 0), ⟨[]⟩⟩
noncomputable def o1018_5 : Obj := ⟨.none, none, (.fields ⟨[]⟩), ⟨[]⟩⟩
noncomputable def o1019_5 : Obj := ⟨.type "tuple", none, (.seq ⟨[.str "self" 1788, .str "begin" 1789, .str "is_turned" 1790, .str "found" 1791]⟩ 0), ⟨[]⟩⟩
noncomputable def o1020_5 : Obj := ⟨.type "tuple", none, (.seq ⟨[]⟩ 0), ⟨[]⟩⟩
noncomputable def o1021_5 : Obj := ⟨.none, none, (.func (fQ (inClass (topS 164) 7) "any_sum" "RowParser.any_sum" 0 [] (.none) (.none) (.none) (.none) none (.none) (.none) 0)), ⟨[]⟩⟩
noncomputable def o1022_5 : Obj := ⟨.type "code", none, (.fields ⟨[.str "any_sum" 1785, .str "RowParser.any_sum" 1786, .str "/claim/cut.py" 1787, .int 738 0, .int 1 0, .int 0 0, .int 0 0, .int 3 0, .ref 1017, .bool true, .int 374 0, .ref 1018, .none, .ref 1019, .ref 1020, .ref 1021, .int 1792 0, .int 738 0, .str "/claim/cut.py" 1793]⟩), ⟨[]⟩⟩
noncomputable def o1023_5 : Obj := ⟨.type "function", none, (.func (fQ (inClass (topS 164) 7) "any_sum" "RowParser.any_sum" 3 [] (.none) (.none) (.none) (.str "frametongue.parsing" 1705) none (.ref 1022) (.none) 0)), ⟨[]⟩⟩
noncomputable def o1024_5 : Obj := ⟨.type "tuple", none, (.seq ⟨[]⟩ 0), ⟨[]⟩⟩
noncomputable def o1025_5 : Obj := ⟨.none, none, (.fields ⟨[]⟩), ⟨[]⟩⟩
noncomputable def o1026_5 : Obj := ⟨.type "tuple", none, (.seq ⟨[.str "self" 1798, .str "begin" 1799, .str "found" 1800]⟩ 0), ⟨[]⟩⟩
noncomputable def o1027_5 : Obj := ⟨.type "tuple", none, (.seq ⟨[]⟩ 0), ⟨[]⟩⟩
noncomputable def o1028_5 : Obj := ⟨.none, none, (.func (fQ (inClass (topS 164) 8) "any_term" "RowParser.any_term" 0 [] (.none) (.none) (.none) (.none) none (.none) (.none) 0)), ⟨[]⟩⟩
noncomputable def o1029_5 : Obj := ⟨.type "code", none, (.fields ⟨[.str "any_term" 1795, .str "RowParser.any_term" 1796, .str "/claim/cut.py" 1797, .int 748 0, .int 1 0, .int 0 0, .int 0 0, .int 3 0, .ref 1024, .bool true, .int 374 0, .ref 1025, .none, .ref 1026, .ref 1027, .ref 1028, .int 1801 0, .int 748 0, .str "/claim/cut.py" 1802]⟩), ⟨[]⟩⟩
noncomputable def o1030_5 : Obj := ⟨.type "function", none, (.func (fQ (inClass (topS 164) 8) "any_term" "RowParser.any_term" 3 [] (.none) (.none) (.none) (.str "frametongue.parsing" 1705) none (.ref 1029) (.none) 0)), ⟨[]⟩⟩
noncomputable def o1031_5 : Obj := ⟨.type "tuple", none, (.seq ⟨[]⟩ 0), ⟨[]⟩⟩
noncomputable def o1032_5 : Obj := ⟨.none, none, (.fields ⟨[]⟩), ⟨[]⟩⟩
noncomputable def o1033_5 : Obj := ⟨.type "tuple", none, (.seq ⟨[.str "self" 1807, .str "one" 1808, .str "begin" 1809, .str "read_other" 1810, .str "deed" 1811, .str "other" 1812]⟩ 0), ⟨[]⟩⟩
noncomputable def o1034_5 : Obj := ⟨.type "tuple", none, (.seq ⟨[]⟩ 0), ⟨[]⟩⟩
noncomputable def o1035_5 : Obj := ⟨.none, none, (.func (fQ (inClass (topS 164) 9) "deed" "RowParser.deed" 0 [] (.none) (.none) (.none) (.none) none (.none) (.none) 0)), ⟨[]⟩⟩
noncomputable def o1036_5 : Obj := ⟨.type "code", none, (.fields ⟨[.str "deed" 1804, .str "RowParser.deed" 1805, .str "/claim/cut.py" 1806, .int 755 0, .int 4 0, .int 0 0, .int 0 0, .int 3 0, .ref 1031, .bool true, .int 374 0, .ref 1032, .none, .ref 1033, .ref 1034, .ref 1035, .int 1813 0, .int 755 0, .str "/claim/cut.py" 1814]⟩), ⟨[]⟩⟩
noncomputable def o1037_5 : Obj := ⟨.type "function", none, (.func (fQ (inClass (topS 164) 9) "deed" "RowParser.deed" 3 [] (.none) (.none) (.none) (.str "frametongue.parsing" 1705) none (.ref 1036) (.none) 0)), ⟨[]⟩⟩
noncomputable def o1038_5 : Obj := ⟨.type "tuple", none, (.seq ⟨[]⟩ 0), ⟨[]⟩⟩
noncomputable def o1039_5 : Obj := ⟨.none, none, (.fields ⟨[]⟩), ⟨[]⟩⟩
noncomputable def o1040_5 : Obj := ⟨.type "tuple", none, (.seq ⟨[.str "self" 1819, .str "begin" 1820, .str "found" 1821, .str "many" 1822]⟩ 0), ⟨[]⟩⟩
noncomputable def o1041_5 : Obj := ⟨.type "tuple", none, (.seq ⟨[]⟩ 0), ⟨[]⟩⟩
noncomputable def o1042_5 : Obj := ⟨.none, none, (.func (fQ (inClass (topS 164) 10) "any_power" "RowParser.any_power" 0 [] (.none) (.none) (.none) (.none) none (.none) (.none) 0)), ⟨[]⟩⟩
noncomputable def o1043_5 : Obj := ⟨.type "code", none, (.fields ⟨[.str "any_power" 1816, .str "RowParser.any_power" 1817, .str "/claim/cut.py" 1818, .int 761 0, .int 1 0, .int 0 0, .int 0 0, .int 3 0, .ref 1038, .bool true, .int 374 0, .ref 1039, .none, .ref 1040, .ref 1041, .ref 1042, .int 1823 0, .int 761 0, .str "/claim/cut.py" 1824]⟩), ⟨[]⟩⟩
noncomputable def o1044_5 : Obj := ⟨.type "function", none, (.func (fQ (inClass (topS 164) 10) "any_power" "RowParser.any_power" 3 [] (.none) (.none) (.none) (.str "frametongue.parsing" 1705) none (.ref 1043) (.none) 0)), ⟨[]⟩⟩
noncomputable def o1045_5 : Obj := ⟨.type "tuple", none, (.seq ⟨[]⟩ 0), ⟨[]⟩⟩
noncomputable def o1046_5 : Obj := ⟨.none, none, (.fields ⟨[]⟩), ⟨[]⟩⟩
noncomputable def o1047_5 : Obj := ⟨.type "tuple", none, (.seq ⟨[.str "self" 1829, .str "begin" 1830, .str "found" 1831, .str "name" 1832]⟩ 0), ⟨[]⟩⟩
noncomputable def o1048_5 : Obj := ⟨.type "tuple", none, (.seq ⟨[]⟩ 0), ⟨[]⟩⟩
noncomputable def o1049_5 : Obj := ⟨.none, none, (.func (fQ (inClass (topS 164) 11) "any_atom" "RowParser.any_atom" 0 [] (.none) (.none) (.none) (.none) none (.none) (.none) 0)), ⟨[]⟩⟩
noncomputable def o1050_5 : Obj := ⟨.type "code", none, (.fields ⟨[.str "any_atom" 1826, .str "RowParser.any_atom" 1827, .str "/claim/cut.py" 1828, .int 769 0, .int 1 0, .int 0 0, .int 0 0, .int 3 0, .ref 1045, .bool true, .int 374 0, .ref 1046, .none, .ref 1047, .ref 1048, .ref 1049, .int 1833 0, .int 769 0, .str "/claim/cut.py" 1834]⟩), ⟨[]⟩⟩
noncomputable def o1051_5 : Obj := ⟨.type "function", none, (.func (fQ (inClass (topS 164) 11) "any_atom" "RowParser.any_atom" 3 [] (.none) (.none) (.none) (.str "frametongue.parsing" 1705) none (.ref 1050) (.none) 0)), ⟨[]⟩⟩
noncomputable def o1052_5 : Obj := ⟨.type "tuple", none, (.seq ⟨[]⟩ 0), ⟨[]⟩⟩
noncomputable def o1053_5 : Obj := ⟨.none, none, (.fields ⟨[]⟩), ⟨[]⟩⟩
noncomputable def o1054_5 : Obj := ⟨.none, none, (.func (fQ (inClass (topS 164) 12) "called" "RowParser.called" 0 [] (.none) (.none) (.none) (.none) none (.none) (.none) 0)), ⟨[]⟩⟩
noncomputable def o1055_5 : Obj := ⟨.type "code", none, (.fields ⟨[.str "called" 1836, .str "RowParser.called" 1837, .str "/claim/cut.py" 1838, .int 783 0, .int 3 0, .int 0 0, .int 0 0, .int 3 0, .ref 1052, .bool true, .int 374 0, .ref 1053, .none, .none, .none, .ref 1054, .int 1839 0, .int 783 0, .str "/claim/cut.py" 1840]⟩), ⟨[]⟩⟩
noncomputable def o1056_5 : Obj := ⟨.type "function", none, (.func (fQ (inClass (topS 164) 12) "called" "RowParser.called" 3 [] (.none) (.none) (.none) (.str "frametongue.parsing" 1705) none (.ref 1055) (.none) 0)), ⟨[]⟩⟩
noncomputable def o1057_5 : Obj := ⟨.type "tuple", none, (.seq ⟨[]⟩ 0), ⟨[]⟩⟩
noncomputable def o1058_5 : Obj := ⟨.none, none, (.fields ⟨[]⟩), ⟨[]⟩⟩
noncomputable def o1059_5 : Obj := ⟨.type "tuple", none, (.seq ⟨[.str "self" 1845, .str "may_be_more" 1846, .str "found" 1847]⟩ 0), ⟨[]⟩⟩
noncomputable def o1060_5 : Obj := ⟨.type "tuple", none, (.seq ⟨[]⟩ 0), ⟨[]⟩⟩
noncomputable def o1061_5 : Obj := ⟨.none, none, (.func (fQ (inClass (topS 164) 13) "bracketed" "RowParser.bracketed" 0 [] (.none) (.none) (.none) (.none) none (.none) (.none) 0)), ⟨[]⟩⟩
noncomputable def o1062_5 : Obj := ⟨.type "code", none, (.fields ⟨[.str "bracketed" 1842, .str "RowParser.bracketed" 1843, .str "/claim/cut.py" 1844, .int 792 0, .int 2 0, .int 0 0, .int 0 0, .int 3 0, .ref 1057, .bool true, .int 374 0, .ref 1058, .none, .ref 1059, .ref 1060, .ref 1061, .int 1848 0, .int 792 0, .str "/claim/cut.py" 1849]⟩), ⟨[]⟩⟩
noncomputable def o1063_5 : Obj := ⟨.type "function", none, (.func (fQ (inClass (topS 164) 13) "bracketed" "RowParser.bracketed" 3 [] (.none) (.none) (.none) (.str "frametongue.parsing" 1705) none (.ref 1062) (.none) 0)), ⟨[]⟩⟩
noncomputable def o1064_5 : Obj := ⟨.type "tuple", none, (.seq ⟨[]⟩ 0), ⟨[]⟩⟩
noncomputable def o1065_5 : Obj := ⟨.none, none, (.fields ⟨[]⟩), ⟨[]⟩⟩
noncomputable def o1066_5 : Obj := ⟨.type "tuple", none, (.seq ⟨[.str "self" 1854, .str "found" 1855]⟩ 0), ⟨[]⟩⟩
noncomputable def o1067_5 : Obj := ⟨.type "tuple", none, (.seq ⟨[]⟩ 0), ⟨[]⟩⟩
noncomputable def o1068_5 : Obj := ⟨.none, none, (.func (fQ (inClass (topS 164) 14) "whole_sum" "RowParser.whole_sum" 0 [] (.none) (.none) (.none) (.none) none (.none) (.none) 0)), ⟨[]⟩⟩
noncomputable def o1069_5 : Obj := ⟨.type "code", none, (.fields ⟨[.str "whole_sum" 1851, .str "RowParser.whole_sum" 1852, .str "/claim/cut.py" 1853, .int 802 0, .int 1 0, .int 0 0, .int 0 0, .int 3 0, .ref 1064, .bool true, .int 374 0, .ref 1065, .none, .ref 1066, .ref 1067, .ref 1068, .int 1856 0, .int 802 0, .str "/claim/cut.py" 1857]⟩), ⟨[]⟩⟩
noncomputable def o1070_5 : Obj := ⟨.type "function", none, (.func (fQ (inClass (topS 164) 14) "whole_sum" "RowParser.whole_sum" 3 [] (.none) (.none) (.none) (.str "frametongue.parsing" 1705) none (.ref 1069) (.none) 0)), ⟨[]⟩⟩
noncomputable def o1071_5 : Obj := ⟨.type "tuple", none, (.seq ⟨[]⟩ 0), ⟨[]⟩⟩
noncomputable def o1072_5 : Obj := ⟨.none, none, (.fields ⟨[]⟩), ⟨[]⟩⟩
noncomputable def o1073_5 : Obj := ⟨.type "tuple", none, (.seq ⟨[.str "self" 1862, .str "head" 1863, .str "sited" 1864, .str "name" 1865]⟩ 0), ⟨[]⟩⟩
noncomputable def o1074_5 : Obj := ⟨.type "tuple", none, (.seq ⟨[]⟩ 0), ⟨[]⟩⟩
noncomputable def o1075_5 : Obj := ⟨.none, none, (.func (fQ (inClass (topS 164) 15) "any_row" "RowParser.any_row" 0 [] (.none) (.none) (.none) (.none) none (.none) (.none) 0)), ⟨[]⟩⟩
noncomputable def o1076_5 : Obj := ⟨.type "code", none, (.fields ⟨[.str "any_row" 1859, .str "RowParser.any_row" 1860, .str "/claim/cut.py" 1861, .int 806 0, .int 1 0, .int 0 0, .int 0 0, .int 3 0, .ref 1071, .bool true, .int 374 0, .ref 1072, .none, .ref 1073, .ref 1074, .ref 1075, .int 1866 0, .int 806 0, .str "/claim/cut.py" 1867]⟩), ⟨[]⟩⟩
noncomputable def o1077_5 : Obj := ⟨.type "function", none, (.func (fQ (inClass (topS 164) 15) "any_row" "RowParser.any_row" 3 [] (.none) (.none) (.none) (.str "frametongue.parsing" 1705) none (.ref 1076) (.none) 0)), ⟨[]⟩⟩
noncomputable def o1078_5 : Obj := ⟨.type "tuple", none, (.seq ⟨[]⟩ 0), ⟨[]⟩⟩
noncomputable def o1079_5 : Obj := ⟨.none, none, (.fields ⟨[]⟩), ⟨[]⟩⟩
noncomputable def o1080_5 : Obj := ⟨.type "tuple", none, (.seq ⟨[.str "self" 1872, .str "tree" 1873, .str "sited" 1874]⟩ 0), ⟨[]⟩⟩
noncomputable def o1081_5 : Obj := ⟨.type "tuple", none, (.seq ⟨[]⟩ 0), ⟨[]⟩⟩
noncomputable def o1082_5 : Obj := ⟨.none, none, (.func (fQ (inClass (topS 164) 16) "ended" "RowParser.ended" 0 [] (.none) (.none) (.none) (.none) none (.none) (.none) 0)), ⟨[]⟩⟩
noncomputable def o1083_5 : Obj := ⟨.type "code", none, (.fields ⟨[.str "ended" 1869, .str "RowParser.ended" 1870, .str "/claim/cut.py" 1871, .int 821 0, .int 3 0, .int 0 0, .int 0 0, .int 3 0, .ref 1078, .bool true, .int 374 0, .ref 1079, .none, .ref 1080, .ref 1081, .ref 1082, .int 1875 0, .int 821 0, .str "/claim/cut.py" 1876]⟩), ⟨[]⟩⟩
noncomputable def o1084_5 : Obj := ⟨.type "function", none, (.func (fQ (inClass (topS 164) 16) "ended" "RowParser.ended" 3 [] (.none) (.none) (.none) (.str "frametongue.parsing" 1705) none (.ref 1083) (.none) 0)), ⟨[]⟩⟩
noncomputable def o1085_5 : Obj := ⟨.type "tuple", none, (.seq ⟨[]⟩ 0), ⟨[]⟩⟩
noncomputable def o1086_5 : Obj := ⟨.none, none, (.fields ⟨[]⟩), ⟨[]⟩⟩
noncomputable def o1087_5 : Obj := ⟨.type "tuple", none, (.seq ⟨[.str "self" 1881, .str "head" 1882, .str "begun" 1883, .str "sited" 1884]⟩ 0), ⟨[]⟩⟩
noncomputable def o1088_5 : Obj := ⟨.type "tuple", none, (.seq ⟨[]⟩ 0), ⟨[]⟩⟩
noncomputable def o1089_5 : Obj := ⟨.none, none, (.func (fQ (inClass (topS 164) 17) "equal" "RowParser.equal" 0 [] (.none) (.none) (.none) (.none) none (.none) (.none) 0)), ⟨[]⟩⟩
noncomputable def o1090_5 : Obj := ⟨.type "code", none, (.fields ⟨[.str "equal" 1878, .str "RowParser.equal" 1879, .str "/claim/cut.py" 1880, .int 824 0, .int 3 0, .int 0 0, .int 0 0, .int 3 0, .ref 1085, .bool true, .int 374 0, .ref 1086, .none, .ref 1087, .ref 1088, .ref 1089, .int 1885 0, .int 824 0, .str "/claim/cut.py" 1886]⟩), ⟨[]⟩⟩
noncomputable def o1091_5 : Obj := ⟨.type "function", none, (.func (fQ (inClass (topS 164) 17) "equal" "RowParser.equal" 3 [] (.none) (.none) (.none) (.str "frametongue.parsing" 1705) none (.ref 1090) (.none) 0)), ⟨[]⟩⟩
noncomputable def o1092_5 : Obj := ⟨.type "tuple", none, (.seq ⟨[]⟩ 0), ⟨[]⟩⟩
noncomputable def o1093_5 : Obj := ⟨.none, none, (.fields ⟨[]⟩), ⟨[]⟩⟩
noncomputable def o1094_5 : Obj := ⟨.type "tuple", none, (.seq ⟨[.str "self" 1891, .str "name" 1892, .str "found" 1893]⟩ 0), ⟨[]⟩⟩
noncomputable def o1095_5 : Obj := ⟨.type "tuple", none, (.seq ⟨[]⟩ 0), ⟨[]⟩⟩
noncomputable def o1096_5 : Obj := ⟨.none, none, (.func (fQ (inClass (topS 164) 18) "rule_row" "RowParser.rule_row" 0 [] (.none) (.none) (.none) (.none) none (.none) (.none) 0)), ⟨[]⟩⟩
noncomputable def o1097_5 : Obj := ⟨.type "code", none, (.fields ⟨[.str "rule_row" 1888, .str "RowParser.rule_row" 1889, .str "/claim/cut.py" 1890, .int 828 0, .int 2 0, .int 0 0, .int 0 0, .int 3 0, .ref 1092, .bool true, .int 374 0, .ref 1093, .none, .ref 1094, .ref 1095, .ref 1096, .int 1894 0, .int 828 0, .str "/claim/cut.py" 1895]⟩), ⟨[]⟩⟩
noncomputable def o1098_5 : Obj := ⟨.type "function", none, (.func (fQ (inClass (topS 164) 18) "rule_row" "RowParser.rule_row" 3 [] (.none) (.none) (.none) (.str "frametongue.parsing" 1705) none (.ref 1097) (.none) 0)), ⟨[]⟩⟩
noncomputable def o1099_5 : Obj := ⟨.type "tuple", none, (.seq ⟨[.str "at" 1897, .str "deep" 1898, .str "is_bound" 1899, .str "names" 1900, .str "places" 1901, .str "words" 1902]⟩ 0), ⟨[]⟩⟩
noncomputable def o1100_5 (P : Params) : Obj := ⟨.type "dict", none, (.dict ⟨[⟨PyData.keyHash P "__module__", .str "__module__" 1720, .str "frametongue.parsing" 1705⟩, ⟨PyData.keyHash P "__firstlineno__", .str "__firstlineno__" 1724, .int 693 1723⟩, ⟨PyData.keyHash P "__init__", .str "__init__" 1732, .ref 973⟩, ⟨PyData.keyHash P "word", .str "word" 1739, .ref 980⟩, ⟨PyData.keyHash P "takes", .str "takes" 1747, .ref 987⟩, ⟨PyData.keyHash P "bound", .str "bound" 1755, .ref 994⟩, ⟨PyData.keyHash P "any_name", .str "any_name" 1764, .ref 1001⟩, ⟨PyData.keyHash P "any_number", .str "any_number" 1774, .ref 1009⟩, ⟨PyData.keyHash P "sited", .str "sited" 1784, .ref 1016⟩, ⟨PyData.keyHash P "any_sum", .str "any_sum" 1794, .ref 1023⟩, ⟨PyData.keyHash P "any_term", .str "any_term" 1803, .ref 1030⟩, ⟨PyData.keyHash P "deed", .str "deed" 1815, .ref 1037⟩, ⟨PyData.keyHash P "any_power", .str "any_power" 1825, .ref 1044⟩, ⟨PyData.keyHash P "any_atom", .str "any_atom" 1835, .ref 1051⟩, ⟨PyData.keyHash P "called", .str "called" 1841, .ref 1056⟩, ⟨PyData.keyHash P "bracketed", .str "bracketed" 1850, .ref 1063⟩, ⟨PyData.keyHash P "whole_sum", .str "whole_sum" 1858, .ref 1070⟩, ⟨PyData.keyHash P "any_row", .str "any_row" 1868, .ref 1077⟩, ⟨PyData.keyHash P "ended", .str "ended" 1877, .ref 1084⟩, ⟨PyData.keyHash P "equal", .str "equal" 1887, .ref 1091⟩, ⟨PyData.keyHash P "rule_row", .str "rule_row" 1896, .ref 1098⟩, ⟨PyData.keyHash P "__static_attributes__", .str "__static_attributes__" 1903, .ref 1099⟩, ⟨PyData.keyHash P "__dict__", .str "__dict__" 1905, .ref 1102⟩, ⟨PyData.keyHash P "__weakref__", .str "__weakref__" 1907, .ref 1103⟩, ⟨PyData.keyHash P "__doc__", .str "__doc__" 1908, .none⟩]⟩ 4), ⟨[]⟩⟩
noncomputable def o1101_5 : Obj := ⟨.type "type", none, (.cls ⟨"RowParser", [.type "object"], [.ref 1101, .type "object"], 1100, "RowParser", true, [], [], false, none, false⟩), ⟨[none, none, (some (.str "RowParser" 1713)), (some (.str "RowParser" 1721)), (some (.builtin "object.__new__")), (some (.bool true))]⟩⟩
noncomputable def o1102_5 : Obj := ⟨.type "getset_descriptor", none, (.fields ⟨[.str "__dict__" 1904, .ref 1101, .builtin "function.__dict__", .builtin "function.__dict__#set"]⟩), ⟨[]⟩⟩
noncomputable def o1103_5 : Obj := ⟨.type "getset_descriptor", none, (.fields ⟨[.str "__weakref__" 1906, .ref 1101, .builtin "ExceptionGroup.__weakref__", .none]⟩), ⟨[]⟩⟩
noncomputable def o1104_5 : Obj := ⟨.type "super", none, (.fields ⟨[.ref 1101, .ref 1101, .ref 1101]⟩), ⟨[]⟩⟩
noncomputable def o1105_5 : Obj := ⟨.type "builtin_function_or_method", none, (.fields ⟨[.builtin "object.__init_subclass__", .ref 1101]⟩), ⟨[]⟩⟩
noncomputable def o1106_5 : Obj := ⟨.type "tuple", none, (.seq ⟨[]⟩ 0), ⟨[]⟩⟩
noncomputable def o1107_5 : Obj := ⟨.type "builtin_function_or_method", none, (.fields ⟨[.builtin "type.__prepare__", .type "type"]⟩), ⟨[]⟩⟩
noncomputable def o1108_5 (P : Params) : Obj := ⟨.type "dict", none, (.dict ⟨[⟨PyData.keyHash P "__module__", .str "__module__" 1918, .str "frametongue.parsing" 1705⟩, ⟨PyData.keyHash P "__qualname__", .str "__qualname__" 1920, .str "ReadRow" 1919⟩, ⟨PyData.keyHash P "__firstlineno__", .str "__firstlineno__" 1922, .int 838 1921⟩, ⟨PyData.keyHash P "__init__", .str "__init__" 1934, .ref 1119⟩, ⟨PyData.keyHash P "__static_attributes__", .str "__static_attributes__" 1941, .ref 1120⟩]⟩ 5), ⟨[]⟩⟩
noncomputable def o1109_5 : Obj := ⟨.type "tuple", none, (.seq ⟨[]⟩ 0), ⟨[]⟩⟩
noncomputable def o1110_5 : Obj := ⟨.none, none, (.fields ⟨[.int 840 0, .int 4 0, .ref 1118]⟩), ⟨[]⟩⟩
noncomputable def o1111_5 : Obj := ⟨.type "code", none, (.fields ⟨[.str "ReadRow" 1913, .str "ReadRow" 1914, .str "/claim/cut.py" 1915, .int 838 0, .int 0 0, .int 0 0, .int 0 0, .int 0 0, .ref 1109, .bool false, .int 374 0, .ref 1110, .none, .none, .none, .none, .int 1916 0, .int 838 0, .str "/claim/cut.py" 1917]⟩), ⟨[]⟩⟩
noncomputable def o1112_5 : Obj := ⟨.type "frame", none, .plain, ⟨[(some (.ref 1111)), (some (.ref 3)), (some (.ref 1108)), none, (some (.str "frametongue.parsing" 1705)), none, (some (.ref 0))]⟩⟩
noncomputable def o1113_5 : Obj := ⟨.type "tuple", none, (.seq ⟨[]⟩ 0), ⟨[]⟩⟩
noncomputable def o1114_5 : Obj := ⟨.none, none, (.fields ⟨[]⟩), ⟨[]⟩⟩
noncomputable def o1115_5 : Obj := ⟨.type "tuple", none, (.seq ⟨[.str "self" 1926, .str "word" 1927, .str "column" 1928, .str "told" 1929, .str "words" 1930, .str "names" 1931]⟩ 0), ⟨[]⟩⟩
noncomputable def o1116_5 : Obj := ⟨.type "tuple", none, (.seq ⟨[]⟩ 0), ⟨[]⟩⟩
noncomputable def o1117_5 : Obj := ⟨.none, none, (.func (fQ (inClass (topS 165) 0) "__init__" "ReadRow.__init__" 0 [] (.none) (.none) (.none) (.none) none (.none) (.none) 0)), ⟨[]⟩⟩
noncomputable def o1118_5 : Obj := ⟨.type "code", none, (.fields ⟨[.str "__init__" 1923, .str "ReadRow.__init__" 1924, .str "/claim/cut.py" 1925, .int 840 0, .int 6 0, .int 0 0, .int 0 0, .int 3 0, .ref 1113, .bool true, .int 374 0, .ref 1114, .none, .ref 1115, .ref 1116, .ref 1117, .int 1932 0, .int 840 0, .str "/claim/cut.py" 1933]⟩), ⟨[]⟩⟩
noncomputable def o1119_5 : Obj := ⟨.type "function", none, (.func (fQ (inClass (topS 165) 0) "__init__" "ReadRow.__init__" 3 [] (.none) (.none) (.none) (.str "frametongue.parsing" 1705) none (.ref 1118) (.none) 0)), ⟨[]⟩⟩
noncomputable def o1120_5 : Obj := ⟨.type "tuple", none, (.seq ⟨[.str "column" 1935, .str "names" 1936, .str "sited" 1937, .str "tree" 1938, .str "word" 1939, .str "words" 1940]⟩ 0), ⟨[]⟩⟩
noncomputable def o1121_5 (P : Params) : Obj := ⟨.type "dict", none, (.dict ⟨[⟨PyData.keyHash P "__module__", .str "__module__" 1918, .str "frametongue.parsing" 1705⟩, ⟨PyData.keyHash P "__firstlineno__", .str "__firstlineno__" 1922, .int 838 1921⟩, ⟨PyData.keyHash P "__init__", .str "__init__" 1934, .ref 1119⟩, ⟨PyData.keyHash P "__static_attributes__", .str "__static_attributes__" 1941, .ref 1120⟩, ⟨PyData.keyHash P "__dict__", .str "__dict__" 1943, .ref 1123⟩, ⟨PyData.keyHash P "__weakref__", .str "__weakref__" 1945, .ref 1124⟩, ⟨PyData.keyHash P "__doc__", .str "__doc__" 1946, .none⟩]⟩ 4), ⟨[]⟩⟩
noncomputable def o1122_5 : Obj := ⟨.type "type", none, (.cls ⟨"ReadRow", [.type "object"], [.ref 1122, .type "object"], 1121, "ReadRow", true, [], [], false, none, false⟩), ⟨[none, none, (some (.str "ReadRow" 1911)), (some (.str "ReadRow" 1919)), (some (.builtin "object.__new__")), (some (.bool true))]⟩⟩
noncomputable def o1123_5 : Obj := ⟨.type "getset_descriptor", none, (.fields ⟨[.str "__dict__" 1942, .ref 1122, .builtin "function.__dict__", .builtin "function.__dict__#set"]⟩), ⟨[]⟩⟩
noncomputable def o1124_5 : Obj := ⟨.type "getset_descriptor", none, (.fields ⟨[.str "__weakref__" 1944, .ref 1122, .builtin "ExceptionGroup.__weakref__", .none]⟩), ⟨[]⟩⟩
noncomputable def o1125_5 : Obj := ⟨.type "super", none, (.fields ⟨[.ref 1122, .ref 1122, .ref 1122]⟩), ⟨[]⟩⟩
noncomputable def o1126_5 : Obj := ⟨.type "builtin_function_or_method", none, (.fields ⟨[.builtin "object.__init_subclass__", .ref 1122]⟩), ⟨[]⟩⟩
noncomputable def o1127_5 : Obj := ⟨.type "tuple", none, (.seq ⟨[]⟩ 0), ⟨[]⟩⟩
noncomputable def o1128_5 : Obj := ⟨.none, none, (.fields ⟨[]⟩), ⟨[]⟩⟩
noncomputable def o1129_5 : Obj := ⟨.type "tuple", none, (.seq ⟨[.str "words" 1952, .str "at" 1953, .str "end" 1954]⟩ 0), ⟨[]⟩⟩
noncomputable def o1130_5 : Obj := ⟨.type "tuple", none, (.seq ⟨[]⟩ 0), ⟨[]⟩⟩
noncomputable def o1131_5 : Obj := ⟨.none, none, (.func (fQ (topS 166) "column_behind" "column_behind" 0 [] (.none) (.none) (.none) (.none) none (.none) (.none) 0)), ⟨[]⟩⟩
noncomputable def o1132_5 : Obj := ⟨.type "code", none, (.fields ⟨[.str "column_behind" 1949, .str "column_behind" 1950, .str "/claim/cut.py" 1951, .int 846 0, .int 3 0, .int 0 0, .int 0 0, .int 3 0, .ref 1127, .bool true, .int 374 0, .ref 1128, .none, .ref 1129, .ref 1130, .ref 1131, .int 1955 0, .int 846 0, .str "/claim/cut.py" 1956]⟩), ⟨[]⟩⟩
noncomputable def o1133_5 : Obj := ⟨.type "function", none, (.func (fQ (topS 166) "column_behind" "column_behind" 3 [] (.none) (.none) (.none) (.str "frametongue.parsing" 1705) none (.ref 1132) (.none) 0)), ⟨[]⟩⟩
noncomputable def o1134_5 : Obj := ⟨.type "tuple", none, (.seq ⟨[]⟩ 0), ⟨[]⟩⟩
noncomputable def o1135_5 : Obj := ⟨.none, none, (.fields ⟨[]⟩), ⟨[]⟩⟩
noncomputable def o1136_5 : Obj := ⟨.type "tuple", none, (.seq ⟨[.str "row" 1961, .str "is_sum" 1962, .str "column" 1963, .str "words" 1964, .str "parser" 1965, .str "sited" 1966, .str "told" 1967]⟩ 0), ⟨[]⟩⟩
noncomputable def o1137_5 : Obj := ⟨.type "tuple", none, (.seq ⟨[]⟩ 0), ⟨[]⟩⟩
noncomputable def o1138_5 : Obj := ⟨.none, none, (.func (fQ (topS 167) "read_by" "read_by" 0 [] (.none) (.none) (.none) (.none) none (.none) (.none) 0)), ⟨[]⟩⟩
noncomputable def o1139_5 : Obj := ⟨.type "code", none, (.fields ⟨[.str "read_by" 1958, .str "read_by" 1959, .str "/claim/cut.py" 1960, .int 848 0, .int 2 0, .int 0 0, .int 0 0, .int 3 0, .ref 1134, .bool true, .int 374 0, .ref 1135, .none, .ref 1136, .ref 1137, .ref 1138, .int 1968 0, .int 848 0, .str "/claim/cut.py" 1969]⟩), ⟨[]⟩⟩
noncomputable def o1140_5 : Obj := ⟨.type "function", none, (.func (fQ (topS 167) "read_by" "read_by" 3 [] (.none) (.none) (.none) (.str "frametongue.parsing" 1705) none (.ref 1139) (.none) 0)), ⟨[]⟩⟩
noncomputable def o1141_5 : Obj := ⟨.type "tuple", none, (.seq ⟨[]⟩ 0), ⟨[]⟩⟩
noncomputable def o1142_5 : Obj := ⟨.none, none, (.fields ⟨[]⟩), ⟨[]⟩⟩
noncomputable def o1143_5 : Obj := ⟨.type "tuple", none, (.seq ⟨[.str "row" 1974]⟩ 0), ⟨[]⟩⟩
noncomputable def o1144_5 : Obj := ⟨.type "tuple", none, (.seq ⟨[]⟩ 0), ⟨[]⟩⟩
noncomputable def o1145_5 : Obj := ⟨.none, none, (.func (fQ (topS 168) "row_by" "row_by" 0 [] (.none) (.none) (.none) (.none) none (.none) (.none) 0)), ⟨[]⟩⟩
noncomputable def o1146_5 : Obj := ⟨.type "code", none, (.fields ⟨[.str "row_by" 1971, .str "row_by" 1972, .str "/claim/cut.py" 1973, .int 864 0, .int 1 0, .int 0 0, .int 0 0, .int 3 0, .ref 1141, .bool true, .int 374 0, .ref 1142, .none, .ref 1143, .ref 1144, .ref 1145, .int 1975 0, .int 864 0, .str "/claim/cut.py" 1976]⟩), ⟨[]⟩⟩
noncomputable def o1147_5 : Obj := ⟨.type "function", none, (.func (fQ (topS 168) "row_by" "row_by" 3 [] (.none) (.none) (.none) (.str "frametongue.parsing" 1705) none (.ref 1146) (.none) 0)), ⟨[]⟩⟩
noncomputable def o1148_5 : Obj := ⟨.type "tuple", none, (.seq ⟨[.str "x" 1986, .str "y" 1987, .str "at" 1988, .str "by" 1989]⟩ 0), ⟨[]⟩⟩
noncomputable def o1149_5 : Obj := ⟨.type "tuple", none, (.seq ⟨[]⟩ 0), ⟨[]⟩⟩
noncomputable def o1150_5 : Obj := ⟨.none, none, (.fields ⟨[]⟩), ⟨[]⟩⟩
noncomputable def o1151_5 : Obj := ⟨.type "tuple", none, (.seq ⟨[.str "one" 1994, .str "other" 1995]⟩ 0), ⟨[]⟩⟩
noncomputable def o1152_5 : Obj := ⟨.type "tuple", none, (.seq ⟨[]⟩ 0), ⟨[]⟩⟩
noncomputable def o1153_5 : Obj := ⟨.none, none, (.func (fQ (topS 174) "sum_sort" "sum_sort" 0 [] (.none) (.none) (.none) (.none) none (.none) (.none) 0)), ⟨[]⟩⟩
noncomputable def o1154_5 : Obj := ⟨.type "code", none, (.fields ⟨[.str "sum_sort" 1991, .str "sum_sort" 1992, .str "/claim/cut.py" 1993, .int 871 0, .int 2 0, .int 0 0, .int 0 0, .int 3 0, .ref 1149, .bool true, .int 374 0, .ref 1150, .none, .ref 1151, .ref 1152, .ref 1153, .int 1996 0, .int 871 0, .str "/claim/cut.py" 1997]⟩), ⟨[]⟩⟩
noncomputable def o1155_5 : Obj := ⟨.type "function", none, (.func (fQ (topS 174) "sum_sort" "sum_sort" 3 [] (.none) (.none) (.none) (.str "frametongue.sortwork" 1978) none (.ref 1154) (.none) 0)), ⟨[]⟩⟩
noncomputable def o1156_5 : Obj := ⟨.type "tuple", none, (.seq ⟨[]⟩ 0), ⟨[]⟩⟩
noncomputable def o1157_5 : Obj := ⟨.none, none, (.fields ⟨[]⟩), ⟨[]⟩⟩
noncomputable def o1158_5 : Obj := ⟨.type "tuple", none, (.seq ⟨[.str "one" 2002, .str "other" 2003]⟩ 0), ⟨[]⟩⟩
noncomputable def o1159_5 : Obj := ⟨.type "tuple", none, (.seq ⟨[]⟩ 0), ⟨[]⟩⟩
noncomputable def o1160_5 : Obj := ⟨.none, none, (.func (fQ (topS 175) "less_sort" "less_sort" 0 [] (.none) (.none) (.none) (.none) none (.none) (.none) 0)), ⟨[]⟩⟩
noncomputable def o1161_5 : Obj := ⟨.type "code", none, (.fields ⟨[.str "less_sort" 1999, .str "less_sort" 2000, .str "/claim/cut.py" 2001, .int 875 0, .int 2 0, .int 0 0, .int 0 0, .int 3 0, .ref 1156, .bool true, .int 374 0, .ref 1157, .none, .ref 1158, .ref 1159, .ref 1160, .int 2004 0, .int 875 0, .str "/claim/cut.py" 2005]⟩), ⟨[]⟩⟩
noncomputable def o1162_5 : Obj := ⟨.type "function", none, (.func (fQ (topS 175) "less_sort" "less_sort" 3 [] (.none) (.none) (.none) (.str "frametongue.sortwork" 1978) none (.ref 1161) (.none) 0)), ⟨[]⟩⟩
noncomputable def o1163_5 : Obj := ⟨.type "tuple", none, (.seq ⟨[]⟩ 0), ⟨[]⟩⟩
noncomputable def o1164_5 : Obj := ⟨.none, none, (.fields ⟨[]⟩), ⟨[]⟩⟩
noncomputable def o1165_5 : Obj := ⟨.type "tuple", none, (.seq ⟨[.str "one" 2010, .str "other" 2011]⟩ 0), ⟨[]⟩⟩
noncomputable def o1166_5 : Obj := ⟨.type "tuple", none, (.seq ⟨[]⟩ 0), ⟨[]⟩⟩
noncomputable def o1167_5 : Obj := ⟨.none, none, (.func (fQ (topS 176) "times_sort" "times_sort" 0 [] (.none) (.none) (.none) (.none) none (.none) (.none) 0)), ⟨[]⟩⟩
noncomputable def o1168_5 : Obj := ⟨.type "code", none, (.fields ⟨[.str "times_sort" 2007, .str "times_sort" 2008, .str "/claim/cut.py" 2009, .int 879 0, .int 2 0, .int 0 0, .int 0 0, .int 3 0, .ref 1163, .bool true, .int 374 0, .ref 1164, .none, .ref 1165, .ref 1166, .ref 1167, .int 2012 0, .int 879 0, .str "/claim/cut.py" 2013]⟩), ⟨[]⟩⟩
noncomputable def o1169_5 : Obj := ⟨.type "function", none, (.func (fQ (topS 176) "times_sort" "times_sort" 3 [] (.none) (.none) (.none) (.str "frametongue.sortwork" 1978) none (.ref 1168) (.none) 0)), ⟨[]⟩⟩
noncomputable def o1170_5 : Obj := ⟨.type "tuple", none, (.seq ⟨[]⟩ 0), ⟨[]⟩⟩
noncomputable def o1171_5 : Obj := ⟨.none, none, (.fields ⟨[]⟩), ⟨[]⟩⟩
noncomputable def o1172_5 : Obj := ⟨.type "tuple", none, (.seq ⟨[.str "one" 2018, .str "other" 2019]⟩ 0), ⟨[]⟩⟩
noncomputable def o1173_5 : Obj := ⟨.type "tuple", none, (.seq ⟨[]⟩ 0), ⟨[]⟩⟩
noncomputable def o1174_5 : Obj := ⟨.none, none, (.func (fQ (topS 177) "over_sort" "over_sort" 0 [] (.none) (.none) (.none) (.none) none (.none) (.none) 0)), ⟨[]⟩⟩
noncomputable def o1175_5 : Obj := ⟨.type "code", none, (.fields ⟨[.str "over_sort" 2015, .str "over_sort" 2016, .str "/claim/cut.py" 2017, .int 883 0, .int 2 0, .int 0 0, .int 0 0, .int 3 0, .ref 1170, .bool true, .int 374 0, .ref 1171, .none, .ref 1172, .ref 1173, .ref 1174, .int 2020 0, .int 883 0, .str "/claim/cut.py" 2021]⟩), ⟨[]⟩⟩
noncomputable def o1176_5 : Obj := ⟨.type "function", none, (.func (fQ (topS 177) "over_sort" "over_sort" 3 [] (.none) (.none) (.none) (.str "frametongue.sortwork" 1978) none (.ref 1175) (.none) 0)), ⟨[]⟩⟩
noncomputable def o1177_5 : Obj := ⟨.type "tuple", none, (.seq ⟨[]⟩ 0), ⟨[]⟩⟩
noncomputable def o1178_5 : Obj := ⟨.none, none, (.fields ⟨[]⟩), ⟨[]⟩⟩
noncomputable def o1179_5 : Obj := ⟨.type "tuple", none, (.seq ⟨[.str "word" 2026, .str "one" 2027, .str "other" 2028]⟩ 0), ⟨[]⟩⟩
noncomputable def o1180_5 : Obj := ⟨.type "tuple", none, (.seq ⟨[]⟩ 0), ⟨[]⟩⟩
noncomputable def o1181_5 : Obj := ⟨.none, none, (.func (fQ (topS 178) "deed_sort" "deed_sort" 0 [] (.none) (.none) (.none) (.none) none (.none) (.none) 0)), ⟨[]⟩⟩
noncomputable def o1182_5 : Obj := ⟨.type "code", none, (.fields ⟨[.str "deed_sort" 2023, .str "deed_sort" 2024, .str "/claim/cut.py" 2025, .int 885 0, .int 3 0, .int 0 0, .int 0 0, .int 3 0, .ref 1177, .bool true, .int 374 0, .ref 1178, .none, .ref 1179, .ref 1180, .ref 1181, .int 2029 0, .int 885 0, .str "/claim/cut.py" 2030]⟩), ⟨[]⟩⟩
noncomputable def o1183_5 : Obj := ⟨.type "function", none, (.func (fQ (topS 178) "deed_sort" "deed_sort" 3 [] (.none) (.none) (.none) (.str "frametongue.sortwork" 1978) none (.ref 1182) (.none) 0)), ⟨[]⟩⟩
noncomputable def o1184_5 : Obj := ⟨.type "tuple", none, (.seq ⟨[]⟩ 0), ⟨[]⟩⟩
noncomputable def o1185_5 : Obj := ⟨.none, none, (.fields ⟨[]⟩), ⟨[]⟩⟩
noncomputable def o1186_5 : Obj := ⟨.type "tuple", none, (.seq ⟨[.str "word" 2035, .str "part" 2036]⟩ 0), ⟨[]⟩⟩
noncomputable def o1187_5 : Obj := ⟨.type "tuple", none, (.seq ⟨[]⟩ 0), ⟨[]⟩⟩
noncomputable def o1188_5 : Obj := ⟨.none, none, (.func (fQ (topS 179) "single_sort" "single_sort" 0 [] (.none) (.none) (.none) (.none) none (.none) (.none) 0)), ⟨[]⟩⟩
noncomputable def o1189_5 : Obj := ⟨.type "code", none, (.fields ⟨[.str "single_sort" 2032, .str "single_sort" 2033, .str "/claim/cut.py" 2034, .int 891 0, .int 2 0, .int 0 0, .int 0 0, .int 3 0, .ref 1184, .bool true, .int 374 0, .ref 1185, .none, .ref 1186, .ref 1187, .ref 1188, .int 2037 0, .int 891 0, .str "/claim/cut.py" 2038]⟩), ⟨[]⟩⟩
noncomputable def o1190_5 : Obj := ⟨.type "function", none, (.func (fQ (topS 179) "single_sort" "single_sort" 3 [] (.none) (.none) (.none) (.str "frametongue.sortwork" 1978) none (.ref 1189) (.none) 0)), ⟨[]⟩⟩
noncomputable def o1191_5 : Obj := ⟨.type "tuple", none, (.seq ⟨[]⟩ 0), ⟨[]⟩⟩
noncomputable def o1192_5 : Obj := ⟨.none, none, (.fields ⟨[]⟩), ⟨[]⟩⟩
noncomputable def o1193_5 : Obj := ⟨.type "tuple", none, (.seq ⟨[.str "word" 2043, .str "parts" 2044]⟩ 0), ⟨[]⟩⟩
noncomputable def o1194_5 : Obj := ⟨.type "tuple", none, (.seq ⟨[]⟩ 0), ⟨[]⟩⟩
noncomputable def o1195_5 : Obj := ⟨.none, none, (.func (fQ (topS 180) "pair_sort" "pair_sort" 0 [] (.none) (.none) (.none) (.none) none (.none) (.none) 0)), ⟨[]⟩⟩
noncomputable def o1196_5 : Obj := ⟨.type "code", none, (.fields ⟨[.str "pair_sort" 2040, .str "pair_sort" 2041, .str "/claim/cut.py" 2042, .int 895 0, .int 2 0, .int 0 0, .int 0 0, .int 3 0, .ref 1191, .bool true, .int 374 0, .ref 1192, .none, .ref 1193, .ref 1194, .ref 1195, .int 2045 0, .int 895 0, .str "/claim/cut.py" 2046]⟩), ⟨[]⟩⟩
noncomputable def o1197_5 : Obj := ⟨.type "function", none, (.func (fQ (topS 180) "pair_sort" "pair_sort" 3 [] (.none) (.none) (.none) (.str "frametongue.sortwork" 1978) none (.ref 1196) (.none) 0)), ⟨[]⟩⟩
noncomputable def o1198_5 : Obj := ⟨.type "tuple", none, (.seq ⟨[]⟩ 0), ⟨[]⟩⟩
noncomputable def o1199_5 : Obj := ⟨.none, none, (.fields ⟨[]⟩), ⟨[]⟩⟩
noncomputable def o1200_5 : Obj := ⟨.type "tuple", none, (.seq ⟨[.str "word" 2051, .str "parts" 2052]⟩ 0), ⟨[]⟩⟩
noncomputable def o1201_5 : Obj := ⟨.type "tuple", none, (.seq ⟨[]⟩ 0), ⟨[]⟩⟩
noncomputable def o1202_5 : Obj := ⟨.none, none, (.func (fQ (topS 181) "called_sort" "called_sort" 0 [] (.none) (.none) (.none) (.none) none (.none) (.none) 0)), ⟨[]⟩⟩
noncomputable def o1203_5 : Obj := ⟨.type "code", none, (.fields ⟨[.str "called_sort" 2048, .str "called_sort" 2049, .str "/claim/cut.py" 2050, .int 903 0, .int 2 0, .int 0 0, .int 0 0, .int 3 0, .ref 1198, .bool true, .int 374 0, .ref 1199, .none, .ref 1200, .ref 1201, .ref 1202, .int 2053 0, .int 903 0, .str "/claim/cut.py" 2054]⟩), ⟨[]⟩⟩
noncomputable def o1204_5 : Obj := ⟨.type "function", none, (.func (fQ (topS 181) "called_sort" "called_sort" 3 [] (.none) (.none) (.none) (.str "frametongue.sortwork" 1978) none (.ref 1203) (.none) 0)), ⟨[]⟩⟩
noncomputable def o1205_5 : Obj := ⟨.type "tuple", none, (.seq ⟨[]⟩ 0), ⟨[]⟩⟩
noncomputable def o1206_5 : Obj := ⟨.type "builtin_function_or_method", none, (.fields ⟨[.builtin "type.__prepare__", .type "type"]⟩), ⟨[]⟩⟩
noncomputable def o1207_5 (P : Params) : Obj := ⟨.type "dict", none, (.dict ⟨[⟨PyData.keyHash P "__module__", .str "__module__" 2063, .str "frametongue.sortwork" 1978⟩, ⟨PyData.keyHash P "__qualname__", .str "__qualname__" 2065, .str "Sorts" 2064⟩, ⟨PyData.keyHash P "__firstlineno__", .str "__firstlineno__" 2067, .int 905 2066⟩, ⟨PyData.keyHash P "__init__", .str "__init__" 2075, .ref 1218⟩, ⟨PyData.keyHash P "used_of", .str "used_of" 2081, .ref 1223⟩, ⟨PyData.keyHash P "names_kept", .str "names_kept" 2087, .ref 1228⟩, ⟨PyData.keyHash P "of_rule", .str "of_rule" 2093, .ref 1233⟩, ⟨PyData.keyHash P "of_name", .str "of_name" 2103, .ref 1240⟩, ⟨PyData.keyHash P "made", .str "made" 2113, .ref 1247⟩, ⟨PyData.keyHash P "of_tree", .str "of_tree" 2124, .ref 1254⟩, ⟨PyData.keyHash P "__static_attributes__", .str "__static_attributes__" 2129, .ref 1255⟩]⟩ 11), ⟨[]⟩⟩
noncomputable def o1208_5 : Obj := ⟨.type "tuple", none, (.seq ⟨[]⟩ 0), ⟨[]⟩⟩
noncomputable def o1209_5 : Obj := ⟨.none, none, (.fields ⟨[.int 907 0, .int 4 0, .ref 1217, .int 913 0, .int 4 0, .ref 1222, .int 920 0, .int 4 0, .ref 1227, .int 930 0, .int 4 0, .ref 1232, .int 940 0, .int 4 0, .ref 1239, .int 952 0, .int 4 0, .ref 1246, .int 969 0, .int 4 0, .ref 1253]⟩), ⟨[]⟩⟩
noncomputable def o1210_5 : Obj := ⟨.type "code", none, (.fields ⟨[.str "Sorts" 2058, .str "Sorts" 2059, .str "/claim/cut.py" 2060, .int 905 0, .int 0 0, .int 0 0, .int 0 0, .int 0 0, .ref 1208, .bool false, .int 374 0, .ref 1209, .none, .none, .none, .none, .int 2061 0, .int 905 0, .str "/claim/cut.py" 2062]⟩), ⟨[]⟩⟩
noncomputable def o1211_5 : Obj := ⟨.type "frame", none, .plain, ⟨[(some (.ref 1210)), (some (.ref 3)), (some (.ref 1207)), none, (some (.str "frametongue.sortwork" 1978)), none, (some (.ref 0))]⟩⟩
noncomputable def o1212_5 : Obj := ⟨.type "tuple", none, (.seq ⟨[]⟩ 0), ⟨[]⟩⟩
noncomputable def o1213_5 : Obj := ⟨.none, none, (.fields ⟨[]⟩), ⟨[]⟩⟩
noncomputable def o1214_5 : Obj := ⟨.type "tuple", none, (.seq ⟨[.str "self" 2071, .str "rows" 2072]⟩ 0), ⟨[]⟩⟩
noncomputable def o1215_5 : Obj := ⟨.type "tuple", none, (.seq ⟨[]⟩ 0), ⟨[]⟩⟩
noncomputable def o1216_5 : Obj := ⟨.none, none, (.func (fQ (inClass (topS 182) 0) "__init__" "Sorts.__init__" 0 [] (.none) (.none) (.none) (.none) none (.none) (.none) 0)), ⟨[]⟩⟩
noncomputable def o1217_5 : Obj := ⟨.type "code", none, (.fields ⟨[.str "__init__" 2068, .str "Sorts.__init__" 2069, .str "/claim/cut.py" 2070, .int 907 0, .int 2 0, .int 0 0, .int 0 0, .int 3 0, .ref 1212, .bool true, .int 374 0, .ref 1213, .none, .ref 1214, .ref 1215, .ref 1216, .int 2073 0, .int 907 0, .str "/claim/cut.py" 2074]⟩), ⟨[]⟩⟩
noncomputable def o1218_5 : Obj := ⟨.type "function", none, (.func (fQ (inClass (topS 182) 0) "__init__" "Sorts.__init__" 3 [] (.none) (.none) (.none) (.str "frametongue.sortwork" 1978) none (.ref 1217) (.none) 0)), ⟨[]⟩⟩
noncomputable def o1219_5 : Obj := ⟨.type "tuple", none, (.seq ⟨[]⟩ 0), ⟨[]⟩⟩
noncomputable def o1220_5 : Obj := ⟨.none, none, (.fields ⟨[]⟩), ⟨[]⟩⟩
noncomputable def o1221_5 : Obj := ⟨.none, none, (.func (fQ (inClass (topS 182) 1) "used_of" "Sorts.used_of" 0 [] (.none) (.none) (.none) (.none) none (.none) (.none) 0)), ⟨[]⟩⟩
noncomputable def o1222_5 : Obj := ⟨.type "code", none, (.fields ⟨[.str "used_of" 2076, .str "Sorts.used_of" 2077, .str "/claim/cut.py" 2078, .int 913 0, .int 2 0, .int 0 0, .int 0 0, .int 3 0, .ref 1219, .bool true, .int 374 0, .ref 1220, .none, .none, .none, .ref 1221, .int 2079 0, .int 913 0, .str "/claim/cut.py" 2080]⟩), ⟨[]⟩⟩
noncomputable def o1223_5 : Obj := ⟨.type "function", none, (.func (fQ (inClass (topS 182) 1) "used_of" "Sorts.used_of" 3 [] (.none) (.none) (.none) (.str "frametongue.sortwork" 1978) none (.ref 1222) (.none) 0)), ⟨[]⟩⟩
noncomputable def o1224_5 : Obj := ⟨.type "tuple", none, (.seq ⟨[]⟩ 0), ⟨[]⟩⟩
noncomputable def o1225_5 : Obj := ⟨.none, none, (.fields ⟨[]⟩), ⟨[]⟩⟩
noncomputable def o1226_5 : Obj := ⟨.none, none, (.func (fQ (inClass (topS 182) 2) "names_kept" "Sorts.names_kept" 0 [] (.none) (.none) (.none) (.none) none (.none) (.none) 0)), ⟨[]⟩⟩
noncomputable def o1227_5 : Obj := ⟨.type "code", none, (.fields ⟨[.str "names_kept" 2082, .str "Sorts.names_kept" 2083, .str "/claim/cut.py" 2084, .int 920 0, .int 3 0, .int 0 0, .int 0 0, .int 3 0, .ref 1224, .bool true, .int 374 0, .ref 1225, .none, .none, .none, .ref 1226, .int 2085 0, .int 920 0, .str "/claim/cut.py" 2086]⟩), ⟨[]⟩⟩
noncomputable def o1228_5 : Obj := ⟨.type "function", none, (.func (fQ (inClass (topS 182) 2) "names_kept" "Sorts.names_kept" 3 [] (.none) (.none) (.none) (.str "frametongue.sortwork" 1978) none (.ref 1227) (.none) 0)), ⟨[]⟩⟩
noncomputable def o1229_5 : Obj := ⟨.type "tuple", none, (.seq ⟨[]⟩ 0), ⟨[]⟩⟩
noncomputable def o1230_5 : Obj := ⟨.none, none, (.fields ⟨[]⟩), ⟨[]⟩⟩
noncomputable def o1231_5 : Obj := ⟨.none, none, (.func (fQ (inClass (topS 182) 3) "of_rule" "Sorts.of_rule" 0 [] (.none) (.none) (.none) (.none) none (.none) (.none) 0)), ⟨[]⟩⟩
noncomputable def o1232_5 : Obj := ⟨.type "code", none, (.fields ⟨[.str "of_rule" 2088, .str "Sorts.of_rule" 2089, .str "/claim/cut.py" 2090, .int 930 0, .int 3 0, .int 0 0, .int 0 0, .int 3 0, .ref 1229, .bool true, .int 374 0, .ref 1230, .none, .none, .none, .ref 1231, .int 2091 0, .int 930 0, .str "/claim/cut.py" 2092]⟩), ⟨[]⟩⟩
noncomputable def o1233_5 : Obj := ⟨.type "function", none, (.func (fQ (inClass (topS 182) 3) "of_rule" "Sorts.of_rule" 3 [] (.none) (.none) (.none) (.str "frametongue.sortwork" 1978) none (.ref 1232) (.none) 0)), ⟨[]⟩⟩
noncomputable def o1234_5 : Obj := ⟨.type "tuple", none, (.seq ⟨[]⟩ 0), ⟨[]⟩⟩
noncomputable def o1235_5 : Obj := ⟨.none, none, (.fields ⟨[]⟩), ⟨[]⟩⟩
noncomputable def o1236_5 : Obj := ⟨.type "tuple", none, (.seq ⟨[.str "self" 2097, .str "name" 2098, .str "names" 2099, .str "row" 2100]⟩ 0), ⟨[]⟩⟩
noncomputable def o1237_5 : Obj := ⟨.type "tuple", none, (.seq ⟨[]⟩ 0), ⟨[]⟩⟩
noncomputable def o1238_5 : Obj := ⟨.none, none, (.func (fQ (inClass (topS 182) 4) "of_name" "Sorts.of_name" 0 [] (.none) (.none) (.none) (.none) none (.none) (.none) 0)), ⟨[]⟩⟩
noncomputable def o1239_5 : Obj := ⟨.type "code", none, (.fields ⟨[.str "of_name" 2094, .str "Sorts.of_name" 2095, .str "/claim/cut.py" 2096, .int 940 0, .int 3 0, .int 0 0, .int 0 0, .int 3 0, .ref 1234, .bool true, .int 374 0, .ref 1235, .none, .ref 1236, .ref 1237, .ref 1238, .int 2101 0, .int 940 0, .str "/claim/cut.py" 2102]⟩), ⟨[]⟩⟩
noncomputable def o1240_5 : Obj := ⟨.type "function", none, (.func (fQ (inClass (topS 182) 4) "of_name" "Sorts.of_name" 3 [] (.none) (.none) (.none) (.str "frametongue.sortwork" 1978) none (.ref 1239) (.none) 0)), ⟨[]⟩⟩
noncomputable def o1241_5 : Obj := ⟨.type "tuple", none, (.seq ⟨[]⟩ 0), ⟨[]⟩⟩
noncomputable def o1242_5 : Obj := ⟨.none, none, (.fields ⟨[]⟩), ⟨[]⟩⟩
noncomputable def o1243_5 : Obj := ⟨.type "tuple", none, (.seq ⟨[.str "self" 2107, .str "tree" 2108, .str "parts" 2109, .str "names" 2110]⟩ 0), ⟨[]⟩⟩
noncomputable def o1244_5 : Obj := ⟨.type "tuple", none, (.seq ⟨[]⟩ 0), ⟨[]⟩⟩
noncomputable def o1245_5 : Obj := ⟨.none, none, (.func (fQ (inClass (topS 182) 5) "made" "Sorts.made" 0 [] (.none) (.none) (.none) (.none) none (.none) (.none) 0)), ⟨[]⟩⟩
noncomputable def o1246_5 : Obj := ⟨.type "code", none, (.fields ⟨[.str "made" 2104, .str "Sorts.made" 2105, .str "/claim/cut.py" 2106, .int 952 0, .int 4 0, .int 0 0, .int 0 0, .int 3 0, .ref 1241, .bool true, .int 374 0, .ref 1242, .none, .ref 1243, .ref 1244, .ref 1245, .int 2111 0, .int 952 0, .str "/claim/cut.py" 2112]⟩), ⟨[]⟩⟩
noncomputable def o1247_5 : Obj := ⟨.type "function", none, (.func (fQ (inClass (topS 182) 5) "made" "Sorts.made" 3 [] (.none) (.none) (.none) (.str "frametongue.sortwork" 1978) none (.ref 1246) (.none) 0)), ⟨[]⟩⟩
noncomputable def o1248_5 : Obj := ⟨.type "tuple", none, (.seq ⟨[]⟩ 0), ⟨[]⟩⟩
noncomputable def o1249_5 : Obj := ⟨.none, none, (.fields ⟨[]⟩), ⟨[]⟩⟩
noncomputable def o1250_5 : Obj := ⟨.type "tuple", none, (.seq ⟨[.str "self" 2117, .str "tree" 2118, .str "names" 2119]⟩ 0), ⟨[]⟩⟩
noncomputable def o1251_5 : Obj := ⟨.type "tuple", none, (.seq ⟨[.str "self" 2120, .str "names" 2121]⟩ 0), ⟨[]⟩⟩
noncomputable def o1252_5 : Obj := ⟨.none, none, (.func (fQ (inClass (topS 182) 6) "of_tree" "Sorts.of_tree" 0 [] (.none) (.none) (.none) (.none) none (.none) (.none) 0)), ⟨[]⟩⟩
noncomputable def o1253_5 : Obj := ⟨.type "code", none, (.fields ⟨[.str "of_tree" 2114, .str "Sorts.of_tree" 2115, .str "/claim/cut.py" 2116, .int 969 0, .int 3 0, .int 0 0, .int 0 0, .int 3 0, .ref 1248, .bool true, .int 374 0, .ref 1249, .none, .ref 1250, .ref 1251, .ref 1252, .int 2122 0, .int 969 0, .str "/claim/cut.py" 2123]⟩), ⟨[]⟩⟩
noncomputable def o1254_5 : Obj := ⟨.type "function", none, (.func (fQ (inClass (topS 182) 6) "of_tree" "Sorts.of_tree" 3 [] (.none) (.none) (.none) (.str "frametongue.sortwork" 1978) none (.ref 1253) (.none) 0)), ⟨[]⟩⟩
noncomputable def o1255_5 : Obj := ⟨.type "tuple", none, (.seq ⟨[.str "known" 2125, .str "lets" 2126, .str "rules" 2127, .str "used" 2128]⟩ 0), ⟨[]⟩⟩
noncomputable def o1256_5 (P : Params) : Obj := ⟨.type "dict", none, (.dict ⟨[⟨PyData.keyHash P "__module__", .str "__module__" 2063, .str "frametongue.sortwork" 1978⟩, ⟨PyData.keyHash P "__firstlineno__", .str "__firstlineno__" 2067, .int 905 2066⟩, ⟨PyData.keyHash P "__init__", .str "__init__" 2075, .ref 1218⟩, ⟨PyData.keyHash P "used_of", .str "used_of" 2081, .ref 1223⟩, ⟨PyData.keyHash P "names_kept", .str "names_kept" 2087, .ref 1228⟩, ⟨PyData.keyHash P "of_rule", .str "of_rule" 2093, .ref 1233⟩, ⟨PyData.keyHash P "of_name", .str "of_name" 2103, .ref 1240⟩, ⟨PyData.keyHash P "made", .str "made" 2113, .ref 1247⟩, ⟨PyData.keyHash P "of_tree", .str "of_tree" 2124, .ref 1254⟩, ⟨PyData.keyHash P "__static_attributes__", .str "__static_attributes__" 2129, .ref 1255⟩, ⟨PyData.keyHash P "__dict__", .str "__dict__" 2131, .ref 1258⟩, ⟨PyData.keyHash P "__weakref__", .str "__weakref__" 2133, .ref 1259⟩, ⟨PyData.keyHash P "__doc__", .str "__doc__" 2134, .none⟩]⟩ 4), ⟨[]⟩⟩
noncomputable def o1257_5 : Obj := ⟨.type "type", none, (.cls ⟨"Sorts", [.type "object"], [.ref 1257, .type "object"], 1256, "Sorts", true, [], [], false, none, false⟩), ⟨[none, none, (some (.str "Sorts" 2056)), (some (.str "Sorts" 2064)), (some (.builtin "object.__new__")), (some (.bool true))]⟩⟩
noncomputable def o1258_5 : Obj := ⟨.type "getset_descriptor", none, (.fields ⟨[.str "__dict__" 2130, .ref 1257, .builtin "function.__dict__", .builtin "function.__dict__#set"]⟩), ⟨[]⟩⟩
noncomputable def o1259_5 : Obj := ⟨.type "getset_descriptor", none, (.fields ⟨[.str "__weakref__" 2132, .ref 1257, .builtin "ExceptionGroup.__weakref__", .none]⟩), ⟨[]⟩⟩
noncomputable def o1260_5 : Obj := ⟨.type "super", none, (.fields ⟨[.ref 1257, .ref 1257, .ref 1257]⟩), ⟨[]⟩⟩
noncomputable def o1261_5 : Obj := ⟨.type "builtin_function_or_method", none, (.fields ⟨[.builtin "object.__init_subclass__", .ref 1257]⟩), ⟨[]⟩⟩
noncomputable def o1262_5 : Obj := ⟨.type "tuple", none, (.seq ⟨[]⟩ 0), ⟨[]⟩⟩
noncomputable def o1263_5 : Obj := ⟨.none, none, (.fields ⟨[]⟩), ⟨[]⟩⟩
noncomputable def o1264_5 : Obj := ⟨.type "tuple", none, (.seq ⟨[.str "rows" 2140, .str "tree" 2141]⟩ 0), ⟨[]⟩⟩
noncomputable def o1265_5 : Obj := ⟨.type "tuple", none, (.seq ⟨[]⟩ 0), ⟨[]⟩⟩
noncomputable def o1266_5 : Obj := ⟨.none, none, (.func (fQ (topS 183) "sort_in" "sort_in" 0 [] (.none) (.none) (.none) (.none) none (.none) (.none) 0)), ⟨[]⟩⟩
noncomputable def o1267_5 : Obj := ⟨.type "code", none, (.fields ⟨[.str "sort_in" 2137, .str "sort_in" 2138, .str "/claim/cut.py" 2139, .int 971 0, .int 2 0, .int 0 0, .int 0 0, .int 3 0, .ref 1262, .bool true, .int 374 0, .ref 1263, .none, .ref 1264, .ref 1265, .ref 1266, .int 2142 0, .int 971 0, .str "/claim/cut.py" 2143]⟩), ⟨[]⟩⟩
noncomputable def o1268_5 : Obj := ⟨.type "function", none, (.func (fQ (topS 183) "sort_in" "sort_in" 3 [] (.none) (.none) (.none) (.str "frametongue.sortwork" 1978) none (.ref 1267) (.none) 0)), ⟨[]⟩⟩
noncomputable def o1269_5 : Obj := ⟨.type "tuple", none, (.seq ⟨[]⟩ 0), ⟨[]⟩⟩
noncomputable def o1270_5 : Obj := ⟨.none, none, (.fields ⟨[]⟩), ⟨[]⟩⟩
noncomputable def o1271_5 : Obj := ⟨.type "tuple", none, (.seq ⟨[.str "rows" 2148, .str "row" 2149]⟩ 0), ⟨[]⟩⟩
noncomputable def o1272_5 : Obj := ⟨.type "tuple", none, (.seq ⟨[]⟩ 0), ⟨[]⟩⟩
noncomputable def o1273_5 : Obj := ⟨.none, none, (.func (fQ (topS 184) "wrong_sort" "wrong_sort" 0 [] (.none) (.none) (.none) (.none) none (.none) (.none) 0)), ⟨[]⟩⟩
noncomputable def o1274_5 : Obj := ⟨.type "code", none, (.fields ⟨[.str "wrong_sort" 2145, .str "wrong_sort" 2146, .str "/claim/cut.py" 2147, .int 973 0, .int 2 0, .int 0 0, .int 0 0, .int 3 0, .ref 1269, .bool true, .int 374 0, .ref 1270, .none, .ref 1271, .ref 1272, .ref 1273, .int 2150 0, .int 973 0, .str "/claim/cut.py" 2151]⟩), ⟨[]⟩⟩
noncomputable def o1275_5 : Obj := ⟨.type "function", none, (.func (fQ (topS 184) "wrong_sort" "wrong_sort" 3 [] (.none) (.none) (.none) (.str "frametongue.sortwork" 1978) none (.ref 1274) (.none) 0)), ⟨[]⟩⟩
noncomputable def o1276_5 : Obj := ⟨.type "tuple", none, (.seq ⟨[]⟩ 0), ⟨[]⟩⟩
noncomputable def o1277_5 : Obj := ⟨.none, none, (.fields ⟨[]⟩), ⟨[]⟩⟩
noncomputable def o1278_5 : Obj := ⟨.none, none, (.func (fQ (topS 185) "axis_paths" "axis_paths" 0 [] (.none) (.none) (.none) (.none) none (.none) (.none) 0)), ⟨[]⟩⟩
noncomputable def o1279_5 : Obj := ⟨.type "code", none, (.fields ⟨[.str "axis_paths" 2153, .str "axis_paths" 2154, .str "/claim/cut.py" 2155, .int 977 0, .int 1 0, .int 0 0, .int 0 0, .int 3 0, .ref 1276, .bool true, .int 374 0, .ref 1277, .none, .none, .none, .ref 1278, .int 2156 0, .int 977 0, .str "/claim/cut.py" 2157]⟩), ⟨[]⟩⟩
noncomputable def o1280_5 : Obj := ⟨.type "function", none, (.func (fQ (topS 185) "axis_paths" "axis_paths" 3 [] (.none) (.none) (.none) (.str "frametongue.sortwork" 1978) none (.ref 1279) (.none) 0)), ⟨[]⟩⟩
noncomputable def t5 (P : Params) : BT := (.node (o0_0 P) (.node (o1_0 P) (.node (o3_5 P) (.node o7_0 (.node (o15_0 P) (.node (o31_0 P) (.node o63_2 (.node o127_2 (.node o255_2 (.node o511_3 (.node o1023_5 .nil .nil) .nil) (.node o767_4 (.node o1279_5 .nil .nil) .nil)) (.node o383_3 (.node o639_4 (.node o1151_5 .nil .nil) .nil) (.node o895_4 .nil .nil))) (.node o191_2 (.node o319_3 (.node o575_3 (.node o1087_5 .nil .nil) .nil) (.node o831_4 .nil .nil)) (.node o447_3 (.node o703_4 (.node o1215_5 .nil .nil) .nil) (.node o959_4 .nil .nil)))) (.node o95_2 (.node o159_2 (.node o287_2 (.node o543_3 (.node o1055_5 .nil .nil) .nil) (.node o799_4 .nil .nil)) (.node o415_3 (.node o671_4 (.node o1183_5 .nil .nil) .nil) (.node o927_4 .nil .nil))) (.node o223_2 (.node o351_3 (.node o607_3 (.node o1119_5 .nil .nil) .nil) (.node o863_4 .nil .nil)) (.node o479_3 (.node o735_4 (.node o1247_5 .nil .nil) .nil) (.node o991_5 .nil .nil))))) (.node o47_2 (.node o79_2 (.node o143_2 (.node o271_2 (.node o527_3 (.node o1039_5 .nil .nil) .nil) (.node o783_4 .nil .nil)) (.node o399_3 (.node o655_4 (.node o1167_5 .nil .nil) .nil) (.node o911_4 .nil .nil))) (.node o207_2 (.node o335_3 (.node o591_3 (.node o1103_5 .nil .nil) .nil) (.node o847_4 .nil .nil)) (.node o463_3 (.node o719_4 (.node o1231_5 .nil .nil) .nil) (.node o975_5 .nil .nil)))) (.node o111_2 (.node o175_2 (.node o303_3 (.node o559_3 (.node o1071_5 .nil .nil) .nil) (.node o815_4 .nil .nil)) (.node o431_3 (.node o687_4 (.node o1199_5 .nil .nil) .nil) (.node o943_4 .nil .nil))) (.node o239_2 (.node o367_3 (.node o623_4 (.node o1135_5 .nil .nil) .nil) (.node o879_4 .nil .nil)) (.node o495_3 (.node o751_4 (.node o1263_5 .nil .nil) .nil) (.node o1007_5 .nil .nil)))))) (.node o23_0 (.node o39_1 (.node o71_2 (.node o135_2 (.node o263_2 (.node o519_3 (.node o1031_5 .nil .nil) .nil) (.node o775_4 .nil .nil)) (.node o391_3 (.node o647_4 (.node o1159_5 .nil .nil) .nil) (.node o903_4 .nil .nil))) (.node o199_2 (.node o327_3 (.node o583_3 (.node o1095_5 .nil .nil) .nil) (.node o839_4 .nil .nil)) (.node o455_3 (.node o711_4 (.node o1223_5 .nil .nil) .nil) (.node o967_5 .nil .nil)))) (.node o103_2 (.node o167_2 (.node o295_3 (.node o551_3 (.node o1063_5 .nil .nil) .nil) (.node o807_4 .nil .nil)) (.node o423_3 (.node o679_4 (.node o1191_5 .nil .nil) .nil) (.node o935_4 .nil .nil))) (.node o231_2 (.node o359_3 (.node o615_4 (.node o1127_5 .nil .nil) .nil) (.node o871_4 .nil .nil)) (.node o487_3 (.node o743_4 (.node o1255_5 .nil .nil) .nil) (.node o999_5 .nil .nil))))) (.node o55_2 (.node o87_2 (.node o151_2 (.node o279_2 (.node o535_3 (.node o1047_5 .nil .nil) .nil) (.node o791_4 .nil .nil)) (.node o407_3 (.node o663_4 (.node o1175_5 .nil .nil) .nil) (.node o919_4 .nil .nil))) (.node o215_2 (.node o343_3 (.node o599_3 (.node o1111_5 .nil .nil) .nil) (.node o855_4 .nil .nil)) (.node o471_3 (.node o727_4 (.node o1239_5 .nil .nil) .nil) (.node o983_5 .nil .nil)))) (.node o119_2 (.node o183_2 (.node o311_3 (.node o567_3 (.node o1079_5 .nil .nil) .nil) (.node o823_4 .nil .nil)) (.node o439_3 (.node o695_4 (.node (o1207_5 P) .nil .nil) .nil) (.node o951_4 .nil .nil))) (.node o247_2 (.node o375_3 (.node o631_4 (.node o1143_5 .nil .nil) .nil) (.node o887_4 .nil .nil)) (.node o503_3 (.node o759_4 (.node o1271_5 .nil .nil) .nil) (.node o1015_5 .nil .nil))))))) (.node o11_0 (.node o19_0 (.node o35_0 (.node o67_2 (.node o131_2 (.node o259_2 (.node o515_3 (.node o1027_5 .nil .nil) .nil) (.node o771_4 .nil .nil)) (.node o387_3 (.node o643_4 (.node o1155_5 .nil .nil) .nil) (.node o899_4 .nil .nil))) (.node o195_2 (.node o323_3 (.node o579_3 (.node o1091_5 .nil .nil) .nil) (.node o835_4 .nil .nil)) (.node o451_3 (.node o707_4 (.node o1219_5 .nil .nil) .nil) (.node o963_5 .nil .nil)))) (.node o99_2 (.node o163_2 (.node o291_2 (.node o547_3 (.node o1059_5 .nil .nil) .nil) (.node o803_4 .nil .nil)) (.node o419_3 (.node o675_4 (.node o1187_5 .nil .nil) .nil) (.node o931_4 .nil .nil))) (.node o227_2 (.node o355_3 (.node o611_4 (.node o1123_5 .nil .nil) .nil) (.node o867_4 .nil .nil)) (.node o483_3 (.node o739_4 (.node o1251_5 .nil .nil) .nil) (.node o995_5 .nil .nil))))) (.node o51_2 (.node o83_2 (.node o147_2 (.node o275_2 (.node o531_3 (.node o1043_5 .nil .nil) .nil) (.node o787_4 .nil .nil)) (.node o403_3 (.node o659_4 (.node o1171_5 .nil .nil) .nil) (.node o915_4 .nil .nil))) (.node o211_2 (.node o339_3 (.node o595_3 (.node o1107_5 .nil .nil) .nil) (.node o851_4 .nil .nil)) (.node o467_3 (.node o723_4 (.node o1235_5 .nil .nil) .nil) (.node o979_5 .nil .nil)))) (.node o115_2 (.node o179_2 (.node o307_3 (.node o563_3 (.node o1075_5 .nil .nil) .nil) (.node o819_4 .nil .nil)) (.node o435_3 (.node o691_4 (.node o1203_5 .nil .nil) .nil) (.node o947_4 .nil .nil))) (.node o243_2 (.node o371_3 (.node o627_4 (.node o1139_5 .nil .nil) .nil) (.node o883_4 .nil .nil)) (.node o499_3 (.node o755_4 (.node o1267_5 .nil .nil) .nil) (.node o1011_5 .nil .nil)))))) (.node o27_0 (.node o43_2 (.node o75_2 (.node o139_2 (.node o267_2 (.node o523_3 (.node o1035_5 .nil .nil) .nil) (.node o779_4 .nil .nil)) (.node o395_3 (.node o651_4 (.node o1163_5 .nil .nil) .nil) (.node o907_4 .nil .nil))) (.node o203_2 (.node o331_3 (.node o587_3 (.node o1099_5 .nil .nil) .nil) (.node o843_4 .nil .nil)) (.node o459_3 (.node o715_4 (.node o1227_5 .nil .nil) .nil) (.node o971_5 .nil .nil)))) (.node (o107_2 P) (.node o171_2 (.node o299_3 (.node o555_3 (.node o1067_5 .nil .nil) .nil) (.node o811_4 .nil .nil)) (.node o427_3 (.node o683_4 (.node o1195_5 .nil .nil) .nil) (.node o939_4 .nil .nil))) (.node o235_2 (.node o363_3 (.node o619_4 (.node o1131_5 .nil .nil) .nil) (.node o875_4 .nil .nil)) (.node o491_3 (.node o747_4 (.node o1259_5 .nil .nil) .nil) (.node o1003_5 .nil .nil))))) (.node o59_2 (.node o91_2 (.node o155_2 (.node o283_2 (.node o539_3 (.node o1051_5 .nil .nil) .nil) (.node o795_4 .nil .nil)) (.node o411_3 (.node o667_4 (.node o1179_5 .nil .nil) .nil) (.node o923_4 .nil .nil))) (.node o219_2 (.node o347_3 (.node o603_3 (.node o1115_5 .nil .nil) .nil) (.node o859_4 .nil .nil)) (.node o475_3 (.node o731_4 (.node o1243_5 .nil .nil) .nil) (.node o987_5 .nil .nil)))) (.node o123_2 (.node o187_2 (.node o315_3 (.node o571_3 (.node o1083_5 .nil .nil) .nil) (.node o827_4 .nil .nil)) (.node o443_3 (.node o699_4 (.node o1211_5 .nil .nil) .nil) (.node o955_4 .nil .nil))) (.node o251_2 (.node o379_3 (.node o635_4 (.node o1147_5 .nil .nil) .nil) (.node o891_4 .nil .nil)) (.node o507_3 (.node o763_4 (.node o1275_5 .nil .nil) .nil) (.node o1019_5 .nil .nil)))))))) (.node o5_0 (.node o9_0 (.node o17_0 (.node o33_0 (.node (o65_2 P) (.node o129_2 (.node o257_2 (.node (o513_3 P) (.node o1025_5 .nil .nil) .nil) (.node o769_4 .nil .nil)) (.node o385_3 (.node o641_4 (.node o1153_5 .nil .nil) .nil) (.node o897_4 .nil .nil))) (.node o193_2 (.node o321_3 (.node o577_3 (.node o1089_5 .nil .nil) .nil) (.node o833_4 .nil .nil)) (.node o449_3 (.node o705_4 (.node o1217_5 .nil .nil) .nil) (.node o961_5 .nil .nil)))) (.node o97_2 (.node o161_2 (.node o289_2 (.node o545_3 (.node o1057_5 .nil .nil) .nil) (.node o801_4 .nil .nil)) (.node o417_3 (.node o673_4 (.node o1185_5 .nil .nil) .nil) (.node o929_4 .nil .nil))) (.node o225_2 (.node o353_3 (.node o609_3 (.node (o1121_5 P) .nil .nil) .nil) (.node o865_4 .nil .nil)) (.node o481_3 (.node o737_4 (.node o1249_5 .nil .nil) .nil) (.node o993_5 .nil .nil))))) (.node o49_2 (.node o81_2 (.node o145_2 (.node o273_2 (.node o529_3 (.node o1041_5 .nil .nil) .nil) (.node o785_4 .nil .nil)) (.node o401_3 (.node o657_4 (.node o1169_5 .nil .nil) .nil) (.node o913_4 .nil .nil))) (.node o209_2 (.node o337_3 (.node o593_3 (.node o1105_5 .nil .nil) .nil) (.node o849_4 .nil .nil)) (.node o465_3 (.node o721_4 (.node o1233_5 .nil .nil) .nil) (.node o977_5 .nil .nil)))) (.node o113_2 (.node o177_2 (.node o305_3 (.node o561_3 (.node o1073_5 .nil .nil) .nil) (.node o817_4 .nil .nil)) (.node o433_3 (.node o689_4 (.node o1201_5 .nil .nil) .nil) (.node o945_4 .nil .nil))) (.node o241_2 (.node o369_3 (.node o625_4 (.node o1137_5 .nil .nil) .nil) (.node o881_4 .nil .nil)) (.node o497_3 (.node o753_4 (.node o1265_5 .nil .nil) .nil) (.node o1009_5 .nil .nil)))))) (.node o25_0 (.node o41_1 (.node o73_2 (.node o137_2 (.node o265_2 (.node o521_3 (.node o1033_5 .nil .nil) .nil) (.node o777_4 .nil .nil)) (.node o393_3 (.node o649_4 (.node o1161_5 .nil .nil) .nil) (.node o905_4 .nil .nil))) (.node o201_2 (.node o329_3 (.node o585_3 (.node o1097_5 .nil .nil) .nil) (.node o841_4 .nil .nil)) (.node o457_3 (.node o713_4 (.node o1225_5 .nil .nil) .nil) (.node o969_5 .nil .nil)))) (.node o105_2 (.node o169_2 (.node o297_3 (.node o553_3 (.node o1065_5 .nil .nil) .nil) (.node o809_4 .nil .nil)) (.node o425_3 (.node o681_4 (.node o1193_5 .nil .nil) .nil) (.node o937_4 .nil .nil))) (.node o233_2 (.node o361_3 (.node o617_4 (.node o1129_5 .nil .nil) .nil) (.node o873_4 .nil .nil)) (.node o489_3 (.node o745_4 (.node o1257_5 .nil .nil) .nil) (.node o1001_5 .nil .nil))))) (.node o57_2 (.node o89_2 (.node o153_2 (.node o281_2 (.node o537_3 (.node o1049_5 .nil .nil) .nil) (.node o793_4 .nil .nil)) (.node o409_3 (.node o665_4 (.node o1177_5 .nil .nil) .nil) (.node o921_4 .nil .nil))) (.node o217_2 (.node o345_3 (.node o601_3 (.node o1113_5 .nil .nil) .nil) (.node o857_4 .nil .nil)) (.node o473_3 (.node o729_4 (.node o1241_5 .nil .nil) .nil) (.node o985_5 .nil .nil)))) (.node o121_2 (.node o185_2 (.node o313_3 (.node o569_3 (.node o1081_5 .nil .nil) .nil) (.node o825_4 .nil .nil)) (.node o441_3 (.node o697_4 (.node o1209_5 .nil .nil) .nil) (.node o953_4 .nil .nil))) (.node o249_2 (.node o377_3 (.node o633_4 (.node o1145_5 .nil .nil) .nil) (.node o889_4 .nil .nil)) (.node o505_3 (.node o761_4 (.node o1273_5 .nil .nil) .nil) (.node o1017_5 .nil .nil))))))) (.node o13_0 (.node (o21_0 P) (.node o37_0 (.node o69_2 (.node o133_2 (.node o261_2 (.node o517_3 (.node o1029_5 .nil .nil) .nil) (.node o773_4 .nil .nil)) (.node o389_3 (.node o645_4 (.node o1157_5 .nil .nil) .nil) (.node o901_4 .nil .nil))) (.node o197_2 (.node o325_3 (.node o581_3 (.node o1093_5 .nil .nil) .nil) (.node o837_4 .nil .nil)) (.node o453_3 (.node (o709_4 P) (.node o1221_5 .nil .nil) .nil) (.node o965_5 .nil .nil)))) (.node (o101_2 P) (.node o165_2 (.node o293_2 (.node o549_3 (.node o1061_5 .nil .nil) .nil) (.node o805_4 .nil .nil)) (.node o421_3 (.node o677_4 (.node o1189_5 .nil .nil) .nil) (.node o933_4 .nil .nil))) (.node o229_2 (.node o357_3 (.node o613_4 (.node o1125_5 .nil .nil) .nil) (.node o869_4 .nil .nil)) (.node o485_3 (.node o741_4 (.node o1253_5 .nil .nil) .nil) (.node o997_5 .nil .nil))))) (.node o53_2 (.node o85_2 (.node o149_2 (.node o277_2 (.node o533_3 (.node o1045_5 .nil .nil) .nil) (.node o789_4 .nil .nil)) (.node o405_3 (.node o661_4 (.node o1173_5 .nil .nil) .nil) (.node o917_4 .nil .nil))) (.node o213_2 (.node o341_3 (.node (o597_3 P) (.node o1109_5 .nil .nil) .nil) (.node o853_4 .nil .nil)) (.node o469_3 (.node o725_4 (.node o1237_5 .nil .nil) .nil) (.node o981_5 .nil .nil)))) (.node o117_2 (.node o181_2 (.node o309_3 (.node o565_3 (.node o1077_5 .nil .nil) .nil) (.node o821_4 .nil .nil)) (.node o437_3 (.node o693_4 (.node o1205_5 .nil .nil) .nil) (.node o949_4 .nil .nil))) (.node o245_2 (.node o373_3 (.node o629_4 (.node o1141_5 .nil .nil) .nil) (.node o885_4 .nil .nil)) (.node o501_3 (.node o757_4 (.node o1269_5 .nil .nil) .nil) (.node o1013_5 .nil .nil)))))) (.node o29_0 (.node o45_2 (.node o77_2 (.node o141_2 (.node o269_2 (.node o525_3 (.node o1037_5 .nil .nil) .nil) (.node o781_4 .nil .nil)) (.node o397_3 (.node o653_4 (.node o1165_5 .nil .nil) .nil) (.node o909_4 .nil .nil))) (.node o205_2 (.node o333_3 (.node o589_3 (.node o1101_5 .nil .nil) .nil) (.node o845_4 .nil .nil)) (.node o461_3 (.node o717_4 (.node o1229_5 .nil .nil) .nil) (.node o973_5 .nil .nil)))) (.node o109_2 (.node o173_2 (.node o301_3 (.node o557_3 (.node o1069_5 .nil .nil) .nil) (.node o813_4 .nil .nil)) (.node o429_3 (.node o685_4 (.node o1197_5 .nil .nil) .nil) (.node o941_4 .nil .nil))) (.node o237_2 (.node o365_3 (.node o621_4 (.node o1133_5 .nil .nil) .nil) (.node o877_4 .nil .nil)) (.node o493_3 (.node o749_4 (.node o1261_5 .nil .nil) .nil) (.node o1005_5 .nil .nil))))) (.node o61_2 (.node o93_2 (.node o157_2 (.node o285_2 (.node o541_3 (.node o1053_5 .nil .nil) .nil) (.node o797_4 .nil .nil)) (.node o413_3 (.node o669_4 (.node o1181_5 .nil .nil) .nil) (.node o925_4 .nil .nil))) (.node o221_2 (.node o349_3 (.node o605_3 (.node o1117_5 .nil .nil) .nil) (.node o861_4 .nil .nil)) (.node o477_3 (.node o733_4 (.node o1245_5 .nil .nil) .nil) (.node o989_5 .nil .nil)))) (.node o125_2 (.node o189_2 (.node o317_3 (.node o573_3 (.node o1085_5 .nil .nil) .nil) (.node o829_4 .nil .nil)) (.node o445_3 (.node o701_4 (.node o1213_5 .nil .nil) .nil) (.node o957_4 .nil .nil))) (.node o253_2 (.node o381_3 (.node o637_4 (.node o1149_5 .nil .nil) .nil) (.node o893_4 .nil .nil)) (.node o509_3 (.node o765_4 (.node o1277_5 .nil .nil) .nil) (.node o1021_5 .nil .nil))))))))) (.node (o2_0 P) (.node o4_0 (.node o8_0 (.node o16_0 (.node (o32_0 P) (.node o64_2 (.node (o128_2 P) (.node o256_2 (.node o512_3 (.node o1024_5 .nil .nil) .nil) (.node o768_4 (.node o1280_5 .nil .nil) .nil)) (.node o384_3 (.node o640_4 (.node o1152_5 .nil .nil) .nil) (.node o896_4 .nil .nil))) (.node o192_2 (.node o320_3 (.node o576_3 (.node o1088_5 .nil .nil) .nil) (.node o832_4 .nil .nil)) (.node o448_3 (.node o704_4 (.node o1216_5 .nil .nil) .nil) (.node o960_5 .nil .nil)))) (.node o96_2 (.node o160_2 (.node o288_2 (.node o544_3 (.node o1056_5 .nil .nil) .nil) (.node o800_4 .nil .nil)) (.node o416_3 (.node o672_4 (.node o1184_5 .nil .nil) .nil) (.node o928_4 .nil .nil))) (.node o224_2 (.node o352_3 (.node o608_3 (.node o1120_5 .nil .nil) .nil) (.node o864_4 .nil .nil)) (.node o480_3 (.node o736_4 (.node o1248_5 .nil .nil) .nil) (.node o992_5 .nil .nil))))) (.node o48_2 (.node (o80_2 P) (.node o144_2 (.node o272_2 (.node o528_3 (.node o1040_5 .nil .nil) .nil) (.node o784_4 .nil .nil)) (.node o400_3 (.node o656_4 (.node o1168_5 .nil .nil) .nil) (.node o912_4 .nil .nil))) (.node o208_2 (.node o336_3 (.node o592_3 (.node o1104_5 .nil .nil) .nil) (.node o848_4 .nil .nil)) (.node o464_3 (.node o720_4 (.node o1232_5 .nil .nil) .nil) (.node o976_5 .nil .nil)))) (.node o112_2 (.node o176_2 (.node o304_3 (.node o560_3 (.node o1072_5 .nil .nil) .nil) (.node o816_4 .nil .nil)) (.node o432_3 (.node o688_4 (.node o1200_5 .nil .nil) .nil) (.node o944_4 .nil .nil))) (.node o240_2 (.node o368_3 (.node o624_4 (.node o1136_5 .nil .nil) .nil) (.node o880_4 .nil .nil)) (.node o496_3 (.node o752_4 (.node o1264_5 .nil .nil) .nil) (.node o1008_5 .nil .nil)))))) (.node o24_0 (.node o40_5 (.node o72_2 (.node o136_2 (.node o264_2 (.node o520_3 (.node o1032_5 .nil .nil) .nil) (.node o776_4 .nil .nil)) (.node o392_3 (.node o648_4 (.node o1160_5 .nil .nil) .nil) (.node o904_4 .nil .nil))) (.node o200_2 (.node o328_3 (.node o584_3 (.node o1096_5 .nil .nil) .nil) (.node o840_4 .nil .nil)) (.node o456_3 (.node o712_4 (.node o1224_5 .nil .nil) .nil) (.node o968_5 .nil .nil)))) (.node o104_2 (.node o168_2 (.node o296_3 (.node o552_3 (.node o1064_5 .nil .nil) .nil) (.node o808_4 .nil .nil)) (.node o424_3 (.node o680_4 (.node o1192_5 .nil .nil) .nil) (.node o936_4 .nil .nil))) (.node o232_2 (.node o360_3 (.node o616_4 (.node o1128_5 .nil .nil) .nil) (.node o872_4 .nil .nil)) (.node o488_3 (.node o744_4 (.node (o1256_5 P) .nil .nil) .nil) (.node o1000_5 .nil .nil))))) (.node o56_2 (.node o88_2 (.node o152_2 (.node o280_2 (.node o536_3 (.node o1048_5 .nil .nil) .nil) (.node o792_4 .nil .nil)) (.node o408_3 (.node (o664_4 P) (.node o1176_5 .nil .nil) .nil) (.node o920_4 .nil .nil))) (.node o216_2 (.node o344_3 (.node o600_3 (.node o1112_5 .nil .nil) .nil) (.node o856_4 .nil .nil)) (.node o472_3 (.node o728_4 (.node o1240_5 .nil .nil) .nil) (.node o984_5 .nil .nil)))) (.node o120_2 (.node o184_2 (.node o312_3 (.node o568_3 (.node o1080_5 .nil .nil) .nil) (.node o824_4 .nil .nil)) (.node o440_3 (.node o696_4 (.node o1208_5 .nil .nil) .nil) (.node o952_4 .nil .nil))) (.node o248_2 (.node o376_3 (.node o632_4 (.node o1144_5 .nil .nil) .nil) (.node o888_4 .nil .nil)) (.node o504_3 (.node o760_4 (.node o1272_5 .nil .nil) .nil) (.node o1016_5 .nil .nil))))))) (.node (o12_0 P) (.node o20_0 (.node o36_0 (.node o68_2 (.node o132_2 (.node o260_2 (.node o516_3 (.node o1028_5 .nil .nil) .nil) (.node o772_4 .nil .nil)) (.node o388_3 (.node o644_4 (.node o1156_5 .nil .nil) .nil) (.node o900_4 .nil .nil))) (.node o196_2 (.node o324_3 (.node o580_3 (.node o1092_5 .nil .nil) .nil) (.node o836_4 .nil .nil)) (.node o452_3 (.node o708_4 (.node o1220_5 .nil .nil) .nil) (.node o964_5 .nil .nil)))) (.node o100_2 (.node o164_2 (.node o292_2 (.node o548_3 (.node o1060_5 .nil .nil) .nil) (.node o804_4 .nil .nil)) (.node o420_3 (.node o676_4 (.node o1188_5 .nil .nil) .nil) (.node o932_4 .nil .nil))) (.node o228_2 (.node o356_3 (.node o612_4 (.node o1124_5 .nil .nil) .nil) (.node o868_4 .nil .nil)) (.node o484_3 (.node o740_4 (.node o1252_5 .nil .nil) .nil) (.node o996_5 .nil .nil))))) (.node (o52_2 P) (.node o84_2 (.node o148_2 (.node o276_2 (.node o532_3 (.node o1044_5 .nil .nil) .nil) (.node o788_4 .nil .nil)) (.node o404_3 (.node o660_4 (.node o1172_5 .nil .nil) .nil) (.node o916_4 .nil .nil))) (.node o212_2 (.node o340_3 (.node o596_3 (.node (o1108_5 P) .nil .nil) .nil) (.node o852_4 .nil .nil)) (.node o468_3 (.node o724_4 (.node o1236_5 .nil .nil) .nil) (.node o980_5 .nil .nil)))) (.node o116_2 (.node o180_2 (.node o308_3 (.node o564_3 (.node o1076_5 .nil .nil) .nil) (.node o820_4 .nil .nil)) (.node o436_3 (.node o692_4 (.node o1204_5 .nil .nil) .nil) (.node o948_4 .nil .nil))) (.node o244_2 (.node o372_3 (.node o628_4 (.node o1140_5 .nil .nil) .nil) (.node o884_4 .nil .nil)) (.node o500_3 (.node o756_4 (.node o1268_5 .nil .nil) .nil) (.node o1012_5 .nil .nil)))))) (.node o28_0 (.node o44_2 (.node o76_2 (.node o140_2 (.node o268_2 (.node o524_3 (.node o1036_5 .nil .nil) .nil) (.node o780_4 .nil .nil)) (.node o396_3 (.node o652_4 (.node o1164_5 .nil .nil) .nil) (.node o908_4 .nil .nil))) (.node o204_2 (.node o332_3 (.node o588_3 (.node (o1100_5 P) .nil .nil) .nil) (.node o844_4 .nil .nil)) (.node o460_3 (.node o716_4 (.node o1228_5 .nil .nil) .nil) (.node o972_5 .nil .nil)))) (.node o108_2 (.node o172_2 (.node o300_3 (.node o556_3 (.node o1068_5 .nil .nil) .nil) (.node o812_4 .nil .nil)) (.node o428_3 (.node o684_4 (.node o1196_5 .nil .nil) .nil) (.node o940_4 .nil .nil))) (.node o236_2 (.node o364_3 (.node o620_4 (.node o1132_5 .nil .nil) .nil) (.node o876_4 .nil .nil)) (.node o492_3 (.node o748_4 (.node o1260_5 .nil .nil) .nil) (.node o1004_5 .nil .nil))))) (.node o60_2 (.node o92_2 (.node o156_2 (.node o284_2 (.node o540_3 (.node o1052_5 .nil .nil) .nil) (.node o796_4 .nil .nil)) (.node o412_3 (.node o668_4 (.node o1180_5 .nil .nil) .nil) (.node o924_4 .nil .nil))) (.node o220_2 (.node o348_3 (.node o604_3 (.node o1116_5 .nil .nil) .nil) (.node o860_4 .nil .nil)) (.node o476_3 (.node o732_4 (.node o1244_5 .nil .nil) .nil) (.node o988_5 .nil .nil)))) (.node o124_2 (.node o188_2 (.node o316_3 (.node o572_3 (.node o1084_5 .nil .nil) .nil) (.node o828_4 .nil .nil)) (.node o444_3 (.node o700_4 (.node o1212_5 .nil .nil) .nil) (.node o956_4 .nil .nil))) (.node o252_2 (.node o380_3 (.node o636_4 (.node o1148_5 .nil .nil) .nil) (.node o892_4 .nil .nil)) (.node o508_3 (.node o764_4 (.node o1276_5 .nil .nil) .nil) (.node o1020_5 .nil .nil)))))))) (.node o6_0 (.node o10_0 (.node o18_0 (.node o34_0 (.node o66_2 (.node o130_2 (.node o258_2 (.node o514_3 (.node o1026_5 .nil .nil) .nil) (.node o770_4 .nil .nil)) (.node o386_3 (.node o642_4 (.node o1154_5 .nil .nil) .nil) (.node o898_4 .nil .nil))) (.node o194_2 (.node o322_3 (.node o578_3 (.node o1090_5 .nil .nil) .nil) (.node o834_4 .nil .nil)) (.node o450_3 (.node o706_4 (.node o1218_5 .nil .nil) .nil) (.node (o962_5 P) .nil .nil)))) (.node o98_2 (.node o162_2 (.node o290_2 (.node o546_3 (.node o1058_5 .nil .nil) .nil) (.node o802_4 .nil .nil)) (.node o418_3 (.node o674_4 (.node o1186_5 .nil .nil) .nil) (.node o930_4 .nil .nil))) (.node o226_2 (.node o354_3 (.node o610_4 (.node o1122_5 .nil .nil) .nil) (.node o866_4 .nil .nil)) (.node o482_3 (.node o738_4 (.node o1250_5 .nil .nil) .nil) (.node o994_5 .nil .nil))))) (.node o50_2 (.node o82_2 (.node o146_2 (.node o274_2 (.node o530_3 (.node o1042_5 .nil .nil) .nil) (.node o786_4 .nil .nil)) (.node o402_3 (.node o658_4 (.node o1170_5 .nil .nil) .nil) (.node o914_4 .nil .nil))) (.node o210_2 (.node o338_3 (.node o594_3 (.node o1106_5 .nil .nil) .nil) (.node o850_4 .nil .nil)) (.node o466_3 (.node o722_4 (.node o1234_5 .nil .nil) .nil) (.node o978_5 .nil .nil)))) (.node o114_2 (.node o178_2 (.node o306_3 (.node o562_3 (.node o1074_5 .nil .nil) .nil) (.node o818_4 .nil .nil)) (.node o434_3 (.node o690_4 (.node o1202_5 .nil .nil) .nil) (.node o946_4 .nil .nil))) (.node o242_2 (.node o370_3 (.node o626_4 (.node o1138_5 .nil .nil) .nil) (.node o882_4 .nil .nil)) (.node o498_3 (.node o754_4 (.node o1266_5 .nil .nil) .nil) (.node o1010_5 .nil .nil)))))) (.node (o26_0 P) (.node o42_1 (.node o74_2 (.node o138_2 (.node o266_2 (.node o522_3 (.node o1034_5 .nil .nil) .nil) (.node o778_4 .nil .nil)) (.node o394_3 (.node o650_4 (.node o1162_5 .nil .nil) .nil) (.node o906_4 .nil .nil))) (.node o202_2 (.node o330_3 (.node o586_3 (.node o1098_5 .nil .nil) .nil) (.node o842_4 .nil .nil)) (.node o458_3 (.node o714_4 (.node o1226_5 .nil .nil) .nil) (.node o970_5 .nil .nil)))) (.node o106_2 (.node o170_2 (.node o298_3 (.node o554_3 (.node o1066_5 .nil .nil) .nil) (.node o810_4 .nil .nil)) (.node o426_3 (.node o682_4 (.node o1194_5 .nil .nil) .nil) (.node o938_4 .nil .nil))) (.node o234_2 (.node o362_3 (.node o618_4 (.node o1130_5 .nil .nil) .nil) (.node o874_4 .nil .nil)) (.node o490_3 (.node o746_4 (.node o1258_5 .nil .nil) .nil) (.node o1002_5 .nil .nil))))) (.node (o58_2 P) (.node o90_2 (.node o154_2 (.node o282_2 (.node o538_3 (.node o1050_5 .nil .nil) .nil) (.node o794_4 .nil .nil)) (.node o410_3 (.node o666_4 (.node o1178_5 .nil .nil) .nil) (.node o922_4 .nil .nil))) (.node o218_2 (.node o346_3 (.node o602_3 (.node o1114_5 .nil .nil) .nil) (.node o858_4 .nil .nil)) (.node o474_3 (.node o730_4 (.node o1242_5 .nil .nil) .nil) (.node o986_5 .nil .nil)))) (.node (o122_2 P) (.node o186_2 (.node o314_3 (.node o570_3 (.node o1082_5 .nil .nil) .nil) (.node o826_4 .nil .nil)) (.node o442_3 (.node o698_4 (.node o1210_5 .nil .nil) .nil) (.node o954_4 .nil .nil))) (.node o250_2 (.node o378_3 (.node o634_4 (.node o1146_5 .nil .nil) .nil) (.node o890_4 .nil .nil)) (.node o506_3 (.node o762_4 (.node o1274_5 .nil .nil) .nil) (.node o1018_5 .nil .nil))))))) (.node (o14_0 P) (.node o22_0 (.node o38_0 (.node o70_2 (.node (o134_2 P) (.node o262_2 (.node o518_3 (.node o1030_5 .nil .nil) .nil) (.node o774_4 .nil .nil)) (.node o390_3 (.node o646_4 (.node o1158_5 .nil .nil) .nil) (.node o902_4 .nil .nil))) (.node o198_2 (.node o326_3 (.node o582_3 (.node o1094_5 .nil .nil) .nil) (.node o838_4 .nil .nil)) (.node o454_3 (.node o710_4 (.node o1222_5 .nil .nil) .nil) (.node o966_5 .nil .nil)))) (.node o102_2 (.node o166_2 (.node o294_3 (.node o550_3 (.node o1062_5 .nil .nil) .nil) (.node o806_4 .nil .nil)) (.node o422_3 (.node o678_4 (.node o1190_5 .nil .nil) .nil) (.node o934_4 .nil .nil))) (.node o230_2 (.node o358_3 (.node o614_4 (.node o1126_5 .nil .nil) .nil) (.node o870_4 .nil .nil)) (.node o486_3 (.node o742_4 (.node o1254_5 .nil .nil) .nil) (.node o998_5 .nil .nil))))) (.node o54_2 (.node (o86_2 P) (.node o150_2 (.node o278_2 (.node o534_3 (.node o1046_5 .nil .nil) .nil) (.node o790_4 .nil .nil)) (.node o406_3 (.node o662_4 (.node o1174_5 .nil .nil) .nil) (.node o918_4 .nil .nil))) (.node o214_2 (.node o342_3 (.node o598_3 (.node o1110_5 .nil .nil) .nil) (.node o854_4 .nil .nil)) (.node o470_3 (.node o726_4 (.node o1238_5 .nil .nil) .nil) (.node o982_5 .nil .nil)))) (.node o118_2 (.node o182_2 (.node o310_3 (.node o566_3 (.node o1078_5 .nil .nil) .nil) (.node o822_4 .nil .nil)) (.node o438_3 (.node o694_4 (.node o1206_5 .nil .nil) .nil) (.node o950_4 .nil .nil))) (.node o246_2 (.node o374_3 (.node o630_4 (.node o1142_5 .nil .nil) .nil) (.node o886_4 .nil .nil)) (.node o502_3 (.node o758_4 (.node o1270_5 .nil .nil) .nil) (.node o1014_5 .nil .nil)))))) (.node o30_0 (.node o46_2 (.node o78_2 (.node o142_2 (.node o270_2 (.node o526_3 (.node o1038_5 .nil .nil) .nil) (.node o782_4 .nil .nil)) (.node o398_3 (.node o654_4 (.node o1166_5 .nil .nil) .nil) (.node o910_4 .nil .nil))) (.node o206_2 (.node o334_3 (.node o590_3 (.node o1102_5 .nil .nil) .nil) (.node o846_4 .nil .nil)) (.node o462_3 (.node o718_4 (.node o1230_5 .nil .nil) .nil) (.node o974_5 .nil .nil)))) (.node o110_2 (.node o174_2 (.node o302_3 (.node (o558_3 P) (.node o1070_5 .nil .nil) .nil) (.node o814_4 .nil .nil)) (.node o430_3 (.node o686_4 (.node o1198_5 .nil .nil) .nil) (.node o942_4 .nil .nil))) (.node o238_2 (.node o366_3 (.node o622_4 (.node o1134_5 .nil .nil) .nil) (.node o878_4 .nil .nil)) (.node o494_3 (.node o750_4 (.node o1262_5 .nil .nil) .nil) (.node o1006_5 .nil .nil))))) (.node o62_2 (.node o94_2 (.node o158_2 (.node o286_2 (.node o542_3 (.node o1054_5 .nil .nil) .nil) (.node o798_4 .nil .nil)) (.node o414_3 (.node o670_4 (.node o1182_5 .nil .nil) .nil) (.node o926_4 .nil .nil))) (.node o222_2 (.node o350_3 (.node o606_3 (.node o1118_5 .nil .nil) .nil) (.node o862_4 .nil .nil)) (.node o478_3 (.node o734_4 (.node o1246_5 .nil .nil) .nil) (.node o990_5 .nil .nil)))) (.node o126_2 (.node o190_2 (.node o318_3 (.node o574_3 (.node o1086_5 .nil .nil) .nil) (.node o830_4 .nil .nil)) (.node o446_3 (.node o702_4 (.node o1214_5 .nil .nil) .nil) (.node o958_4 .nil .nil))) (.node o254_2 (.node o382_3 (.node o638_4 (.node o1150_5 .nil .nil) .nil) (.node o894_4 .nil .nil)) (.node (o510_3 P) (.node o766_4 (.node o1278_5 .nil .nil) .nil) (.node o1022_5 .nil .nil))))))))))
noncomputable def o3_6 (P : Params) : Obj := ⟨.type "dict", none, (.dict ⟨[⟨PyData.keyHash P "__name__", .str "__name__" 165, .str "law_frametongue_k11_desks_undone_and_equal" 2468⟩, ⟨PyData.keyHash P "__doc__", .str "__doc__" 166, .none⟩, ⟨PyData.keyHash P "__package__", .str "__package__" 167, .none⟩, ⟨PyData.keyHash P "__loader__", .str "__loader__" 168, .builtin "__main__.__loader__#opaque"⟩, ⟨PyData.keyHash P "__spec__", .str "__spec__" 169, .none⟩, ⟨PyData.keyHash P "__annotations__", .str "__annotations__" 170, .ref 6⟩, ⟨PyData.keyHash P "__builtins__", .str "__builtins__" 171, .ref 4⟩, ⟨PyData.keyHash P "__file__", .str "__file__" 173, .str "/claim/cut.py" 172⟩, ⟨PyData.keyHash P "__cached__", .str "__cached__" 174, .none⟩, ⟨PyData.keyHash P "comb", .str "comb" 370, .builtin "math.comb"⟩, ⟨PyData.keyHash P "gcd", .str "gcd" 373, .builtin "math.gcd"⟩, ⟨PyData.keyHash P "_wall", .str "_wall" 386, .ref 49⟩, ⟨PyData.keyHash P "FrameError", .str "FrameError" 406, .ref 59⟩, ⟨PyData.keyHash P "InvalidRows", .str "InvalidRows" 433, .ref 81⟩, ⟨PyData.keyHash P "InvalidDeed", .str "InvalidDeed" 460, .ref 102⟩, ⟨PyData.keyHash P "Barred", .str "Barred" 487, .ref 123⟩, ⟨PyData.keyHash P "NothingToUndo", .str "NothingToUndo" 503, .ref 135⟩, ⟨PyData.keyHash P "number_sum", .str "number_sum" 513, .ref 144⟩, ⟨PyData.keyHash P "unknown_sum", .str "unknown_sum" 519, .ref 149⟩, ⟨PyData.keyHash P "terms_of", .str "terms_of" 526, .ref 156⟩, ⟨PyData.keyHash P "sum_by", .str "sum_by" 532, .ref 161⟩, ⟨PyData.keyHash P "without_noughts", .str "without_noughts" 538, .ref 166⟩, ⟨PyData.keyHash P "plus_sums", .str "plus_sums" 549, .ref 173⟩, ⟨PyData.keyHash P "times_number", .str "times_number" 555, .ref 178⟩, ⟨PyData.keyHash P "less_sums", .str "less_sums" 563, .ref 185⟩, ⟨PyData.keyHash P "times_sums", .str "times_sums" 569, .ref 190⟩, ⟨PyData.keyHash P "power_sum", .str "power_sum" 580, .ref 197⟩, ⟨PyData.keyHash P "degree_in", .str "degree_in" 586, .ref 202⟩, ⟨PyData.keyHash P "degree_of", .str "degree_of" 592, .ref 207⟩, ⟨PyData.keyHash P "first_number", .str "first_number" 599, .ref 214⟩, ⟨PyData.keyHash P "share_of_numbers", .str "share_of_numbers" 608, .ref 221⟩, ⟨PyData.keyHash P "with_first_above", .str "with_first_above" 615, .ref 228⟩, ⟨PyData.keyHash P "is_term_part", .str "is_term_part" 621, .ref 233⟩, ⟨PyData.keyHash P "divided_by", .str "divided_by" 627, .ref 238⟩, ⟨PyData.keyHash P "least_powers", .str "least_powers" 633, .ref 243⟩, ⟨PyData.keyHash P "lowered", .str "lowered" 639, .ref 248⟩, ⟨PyData.keyHash P "put_in", .str "put_in" 655, .ref 255⟩, ⟨PyData.keyHash P "left_of", .str "left_of" 661, .ref 260⟩, ⟨PyData.keyHash P "have_common_part", .str "have_common_part" 671, .ref 267⟩, ⟨PyData.keyHash P "does_show", .str "does_show" 683, .ref 274⟩, ⟨PyData.keyHash P "quick_points", .str "quick_points" 689, .ref 279⟩, ⟨PyData.keyHash P "quick_point", .str "quick_point" 700, .ref 286⟩, ⟨PyData.keyHash P "FEW_TRIES", .str "FEW_TRIES" 704, .int 6 703⟩, ⟨PyData.keyHash P "shares_in", .str "shares_in" 716, .ref 293⟩, ⟨PyData.keyHash P "raised_in", .str "raised_in" 722, .ref 298⟩, ⟨PyData.keyHash P "remainder_in", .str "remainder_in" 736, .ref 305⟩, ⟨PyData.keyHash P "common_of_all", .str "common_of_all" 745, .ref 312⟩, ⟨PyData.keyHash P "without_share", .str "without_share" 753, .ref 319⟩, ⟨PyData.keyHash P "common_in", .str "common_in" 765, .ref 326⟩, ⟨PyData.keyHash P "open_unknowns", .str "open_unknowns" 775, .ref 333⟩, ⟨PyData.keyHash P "parts_by", .str "parts_by" 781, .ref 338⟩, ⟨PyData.keyHash P "standing_in", .str "standing_in" 787, .ref 343⟩, ⟨PyData.keyHash P "common_by_remainders", .str "common_by_remainders" 793, .ref 348⟩, ⟨PyData.keyHash P "plain_common", .str "plain_common" 802, .ref 355⟩, ⟨PyData.keyHash P "common_of", .str "common_of" 808, .ref 360⟩, ⟨PyData.keyHash P "plain_of", .str "plain_of" 814, .ref 365⟩, ⟨PyData.keyHash P "without", .str "without" 824, .ref 372⟩, ⟨PyData.keyHash P "turned_up", .str "turned_up" 832, .ref 379⟩, ⟨PyData.keyHash P "times_lowest", .str "times_lowest" 847, .ref 386⟩, ⟨PyData.keyHash P "joined_lowest", .str "joined_lowest" 865, .ref 393⟩, ⟨PyData.keyHash P "lowest_with", .str "lowest_with" 874, .ref 400⟩, ⟨PyData.keyHash P "is_whole", .str "is_whole" 883, .ref 407⟩, ⟨PyData.keyHash P "is_number", .str "is_number" 893, .ref 415⟩, ⟨PyData.keyHash P "is_string", .str "is_string" 900, .ref 422⟩, ⟨PyData.keyHash P "is_row", .str "is_row" 909, .ref 429⟩, ⟨PyData.keyHash P "first_wrong", .str "first_wrong" 919, .ref 436⟩, ⟨PyData.keyHash P "LETTERS", .str "LETTERS" 923, .str "abcdefghijklmnopqrstuvwxyz" 922⟩, ⟨PyData.keyHash P "FIGURES", .str "FIGURES" 925, .str "0123456789" 924⟩, ⟨PyData.keyHash P "OTHERS", .str "OTHERS" 927, .str "+-*/^(),=" 926⟩, ⟨PyData.keyHash P "BLANK", .str "BLANK" 929, .str " " 928⟩, ⟨PyData.keyHash P "MOST_LETTERS", .str "MOST_LETTERS" 931, .int 8 930⟩, ⟨PyData.keyHash P "MOST_FIGURES", .str "MOST_FIGURES" 933, .int 6 932⟩, ⟨PyData.keyHash P "wrong_sign", .str "wrong_sign" 939, .ref 441⟩, ⟨PyData.keyHash P "sort_of", .str "sort_of" 946, .ref 448⟩, ⟨PyData.keyHash P "row_words", .str "row_words" 957, .ref 455⟩, ⟨PyData.keyHash P "is_run_of", .str "is_run_of" 963, .ref 460⟩, ⟨PyData.keyHash P "is_any_name", .str "is_any_name" 970, .ref 467⟩, ⟨PyData.keyHash P "is_name_word", .str "is_name_word" 977, .ref 474⟩, ⟨PyData.keyHash P "is_any_number", .str "is_any_number" 984, .ref 481⟩, ⟨PyData.keyHash P "is_number_word", .str "is_number_word" 991, .ref 488⟩, ⟨PyData.keyHash P "DEEDS", .str "DEEDS" 998, .ref 489⟩, ⟨PyData.keyHash P "MOST_PLACES", .str "MOST_PLACES" 1000, .int 40 999⟩, ⟨PyData.keyHash P "MOST_POWER", .str "MOST_POWER" 1002, .int 4 1001⟩, ⟨PyData.keyHash P "MOST_OWN", .str "MOST_OWN" 1004, .int 3 1003⟩, ⟨PyData.keyHash P "GIVEN_HEADS", .str "GIVEN_HEADS" 1008, .ref 490⟩, ⟨PyData.keyHash P "parts_of", .str "parts_of" 1015, .ref 497⟩, ⟨PyData.keyHash P "with_parts", .str "with_parts" 1023, .ref 504⟩, ⟨PyData.keyHash P "folded", .str "folded" 1029, .ref 509⟩, ⟨PyData.keyHash P "MOST_PUT", .str "MOST_PUT" 1033, .int 200 1032⟩, ⟨PyData.keyHash P "MOST_SPOTS", .str "MOST_SPOTS" 1035, .int 4 1034⟩, ⟨PyData.keyHash P "MOST_OF", .str "MOST_OF" 1048, .ref 510⟩, ⟨PyData.keyHash P "SPOTS", .str "SPOTS" 1051, .ref 511⟩, ⟨PyData.keyHash P "GIVENS", .str "GIVENS" 1055, .ref 512⟩, ⟨PyData.keyHash P "CALLED", .str "CALLED" 1080, .ref 513⟩, ⟨PyData.keyHash P "RESERVED", .str "RESERVED" 1095, .ref 514⟩, ⟨PyData.keyHash P "sorts_by", .str "sorts_by" 1101, .ref 519⟩, ⟨PyData.keyHash P "givens_by", .str "givens_by" 1107, .ref 524⟩, ⟨PyData.keyHash P "tells_by", .str "tells_by" 1113, .ref 529⟩, ⟨PyData.keyHash P "is_too_many", .str "is_too_many" 1119, .ref 534⟩, ⟨PyData.keyHash P "may_be_called", .str "may_be_called" 1128, .ref 541⟩, ⟨PyData.keyHash P "may_be_used", .str "may_be_used" 1137, .ref 548⟩, ⟨PyData.keyHash P "wrong_name", .str "wrong_name" 1152, .ref 555⟩, ⟨PyData.keyHash P "Sizes", .str "Sizes" 1214, .ref 598⟩, ⟨PyData.keyHash P "added", .str "added" 1227, .ref 609⟩, ⟨PyData.keyHash P "size_by", .str "size_by" 1235, .ref 616⟩, ⟨PyData.keyHash P "own_trees", .str "own_trees" 1241, .ref 621⟩, ⟨PyData.keyHash P "stands_for", .str "stands_for" 1251, .ref 628⟩, ⟨PyData.keyHash P "led_on", .str "led_on" 1263, .ref 635⟩, ⟨PyData.keyHash P "put_in_all", .str "put_in_all" 1269, .ref 640⟩, ⟨PyData.keyHash P "put_in_tree", .str "put_in_tree" 1277, .ref 647⟩, ⟨PyData.keyHash P "put_in_by", .str "put_in_by" 1285, .ref 654⟩, ⟨PyData.keyHash P "is_great_put_in", .str "is_great_put_in" 1293, .ref 661⟩, ⟨PyData.keyHash P "MOST_TERMS", .str "MOST_TERMS" 1297, .int 200 1296⟩, ⟨PyData.keyHash P "MOST_DEGREE", .str "MOST_DEGREE" 1299, .int 8 1298⟩, ⟨PyData.keyHash P "NO_FORM", .str "NO_FORM" 1301, .str "none" 1300⟩, ⟨PyData.keyHash P "TOO_GREAT", .str "TOO_GREAT" 1303, .str "great" 1302⟩, ⟨PyData.keyHash P "Unknowns", .str "Unknowns" 1379, .ref 710⟩, ⟨PyData.keyHash P "is_great_sum", .str "is_great_sum" 1385, .ref 719⟩, ⟨PyData.keyHash P "plus_pair", .str "plus_pair" 1393, .ref 726⟩, ⟨PyData.keyHash P "less_pair", .str "less_pair" 1401, .ref 733⟩, ⟨PyData.keyHash P "times_pair", .str "times_pair" 1409, .ref 740⟩, ⟨PyData.keyHash P "over_pair", .str "over_pair" 1417, .ref 747⟩, ⟨PyData.keyHash P "pair_with", .str "pair_with" 1426, .ref 754⟩, ⟨PyData.keyHash P "minus_pair", .str "minus_pair" 1433, .ref 761⟩, ⟨PyData.keyHash P "spread", .str "spread" 1439, .ref 766⟩, ⟨PyData.keyHash P "called", .str "called" 1445, .ref 771⟩, ⟨PyData.keyHash P "made_pairs", .str "made_pairs" 1451, .ref 776⟩, ⟨PyData.keyHash P "pairs_of", .str "pairs_of" 1457, .ref 873⟩, ⟨PyData.keyHash P "pairs_of_formwork", .str "pairs_of_formwork" 1458, .ref 781⟩, ⟨PyData.keyHash P "told_pair", .str "told_pair" 1467, .ref 788⟩, ⟨PyData.keyHash P "BOUND_OF_ONE", .str "BOUND_OF_ONE" 1471, .ref 789⟩, ⟨PyData.keyHash P "BOUND_OF_UNKNOWN", .str "BOUND_OF_UNKNOWN" 1475, .ref 790⟩, ⟨PyData.keyHash P "bound_plus", .str "bound_plus" 1483, .ref 797⟩, ⟨PyData.keyHash P "bound_times", .str "bound_times" 1491, .ref 804⟩, ⟨PyData.keyHash P "pair_bound_plus", .str "pair_bound_plus" 1499, .ref 811⟩, ⟨PyData.keyHash P "pair_bound_times", .str "pair_bound_times" 1507, .ref 818⟩, ⟨PyData.keyHash P "pair_bound_power", .str "pair_bound_power" 1517, .ref 825⟩, ⟨PyData.keyHash P "call_bounds", .str "call_bounds" 1523, .ref 830⟩, ⟨PyData.keyHash P "made_bounds", .str "made_bounds" 1529, .ref 835⟩, ⟨PyData.keyHash P "are_small", .str "are_small" 1535, .ref 840⟩, ⟨PyData.keyHash P "is_surely_small", .str "is_surely_small" 1541, .ref 845⟩, ⟨PyData.keyHash P "tell_is_great", .str "tell_is_great" 1552, .ref 852⟩, ⟨PyData.keyHash P "form_of_tree", .str "form_of_tree" 1561, .ref 859⟩, ⟨PyData.keyHash P "form_by", .str "form_by" 1569, .ref 866⟩, ⟨PyData.keyHash P "pairs_of_freedomwork", .str "pairs_of_freedomwork" 1583, .ref 873⟩, ⟨PyData.keyHash P "lowered_at", .str "lowered_at" 1591, .ref 880⟩, ⟨PyData.keyHash P "slope", .str "slope" 1597, .ref 885⟩, ⟨PyData.keyHash P "is_kept_by_shifts_of", .str "is_kept_by_shifts_of" 1603, .ref 890⟩, ⟨PyData.keyHash P "times_root", .str "times_root" 1614, .ref 897⟩, ⟨PyData.keyHash P "line_of", .str "line_of" 1626, .ref 904⟩, ⟨PyData.keyHash P "spread_at", .str "spread_at" 1642, .ref 911⟩, ⟨PyData.keyHash P "spread_term", .str "spread_term" 1655, .ref 918⟩, ⟨PyData.keyHash P "rooted_sum", .str "rooted_sum" 1661, .ref 923⟩, ⟨PyData.keyHash P "degree_in_pairs", .str "degree_in_pairs" 1667, .ref 928⟩, ⟨PyData.keyHash P "balance_of", .str "balance_of" 1673, .ref 933⟩, ⟨PyData.keyHash P "is_kept_by_turns_of", .str "is_kept_by_turns_of" 1681, .ref 940⟩, ⟨PyData.keyHash P "sums_by", .str "sums_by" 1690, .ref 947⟩, ⟨PyData.keyHash P "are_kept", .str "are_kept" 1696, .ref 952⟩, ⟨PyData.keyHash P "is_free_by", .str "is_free_by" 1704, .ref 959⟩, ⟨PyData.keyHash P "MOST_DEEP", .str "MOST_DEEP" 1708, .int 12 1707⟩, ⟨PyData.keyHash P "SIGN", .str "SIGN" 1710, .str "sign" 1709⟩, ⟨PyData.keyHash P "FORM", .str "FORM" 1712, .str "form" 1711⟩, ⟨PyData.keyHash P "RowParser", .str "RowParser" 1910, .ref 1101⟩, ⟨PyData.keyHash P "ReadRow", .str "ReadRow" 1948, .ref 1122⟩, ⟨PyData.keyHash P "column_behind", .str "column_behind" 1957, .ref 1133⟩, ⟨PyData.keyHash P "read_by", .str "read_by" 1970, .ref 1140⟩, ⟨PyData.keyHash P "row_by", .str "row_by" 1977, .ref 1147⟩, ⟨PyData.keyHash P "POINT", .str "POINT" 1981, .str "point" 1980⟩, ⟨PyData.keyHash P "ARROW", .str "ARROW" 1983, .str "arrow" 1982⟩, ⟨PyData.keyHash P "NUMBER", .str "NUMBER" 1985, .str "number" 1984⟩, ⟨PyData.keyHash P "AXES", .str "AXES" 1990, .ref 1148⟩, ⟨PyData.keyHash P "sum_sort", .str "sum_sort" 1998, .ref 1155⟩, ⟨PyData.keyHash P "less_sort", .str "less_sort" 2006, .ref 1162⟩, ⟨PyData.keyHash P "times_sort", .str "times_sort" 2014, .ref 1169⟩, ⟨PyData.keyHash P "over_sort", .str "over_sort" 2022, .ref 1176⟩, ⟨PyData.keyHash P "deed_sort", .str "deed_sort" 2031, .ref 1183⟩, ⟨PyData.keyHash P "single_sort", .str "single_sort" 2039, .ref 1190⟩, ⟨PyData.keyHash P "pair_sort", .str "pair_sort" 2047, .ref 1197⟩, ⟨PyData.keyHash P "called_sort", .str "called_sort" 2055, .ref 1204⟩, ⟨PyData.keyHash P "Sorts", .str "Sorts" 2136, .ref 1257⟩, ⟨PyData.keyHash P "sort_in", .str "sort_in" 2144, .ref 1268⟩, ⟨PyData.keyHash P "wrong_sort", .str "wrong_sort" 2152, .ref 1275⟩, ⟨PyData.keyHash P "axis_paths", .str "axis_paths" 2158, .ref 1280⟩, ⟨PyData.keyHash P "NAME", .str "NAME" 2162, .str "name" 2161⟩, ⟨PyData.keyHash P "MANY", .str "MANY" 2164, .str "many" 2163⟩, ⟨PyData.keyHash P "SORT", .str "SORT" 2166, .str "sort" 2165⟩, ⟨PyData.keyHash P "GREAT", .str "GREAT" 2168, .str "great" 2167⟩, ⟨PyData.keyHash P "MOST_ROWS", .str "MOST_ROWS" 2170, .int 20 2169⟩, ⟨PyData.keyHash P "is_great_row", .str "is_great_row" 2178, .ref 1287⟩, ⟨PyData.keyHash P "wrong_behind", .str "wrong_behind" 2187, .ref 1294⟩, ⟨PyData.keyHash P "wrong_column", .str "wrong_column" 2196, .ref 1301⟩, ⟨PyData.keyHash P "wrong_in", .str "wrong_in" 2206, .ref 1308⟩, ⟨PyData.keyHash P "ReadText", .str "ReadText" 2239, .ref 1325⟩, ⟨PyData.keyHash P "rows_in", .str "rows_in" 2245, .ref 1334⟩, ⟨PyData.keyHash P "read_text", .str "read_text" 2251, .ref 1339⟩, ⟨PyData.keyHash P "fault_by", .str "fault_by" 2259, .ref 1346⟩, ⟨PyData.keyHash P "program_of", .str "program_of" 2267, .ref 1353⟩, ⟨PyData.keyHash P "first_axis_by", .str "first_axis_by" 2278, .ref 1360⟩, ⟨PyData.keyHash P "MOST_DESK", .str "MOST_DESK" 2282, .int 20 2281⟩, ⟨PyData.keyHash P "MOST_SIGNS", .str "MOST_SIGNS" 2284, .int 200 2283⟩, ⟨PyData.keyHash P "SIZES", .str "SIZES" 2294, .ref 1361⟩, ⟨PyData.keyHash P "FULL", .str "FULL" 2296, .str "full" 2295⟩, ⟨PyData.keyHash P "FAR", .str "FAR" 2298, .str "far" 2297⟩, ⟨PyData.keyHash P "NONE", .str "NONE" 2300, .str "none" 2299⟩, ⟨PyData.keyHash P "SAME", .str "SAME" 2302, .str "same" 2301⟩, ⟨PyData.keyHash P "FAULT", .str "FAULT" 2304, .str "fault" 2303⟩, ⟨PyData.keyHash P "BARRED", .str "BARRED" 2306, .str "barred" 2305⟩, ⟨PyData.keyHash P "FREE", .str "FREE" 2308, .str "free" 2307⟩, ⟨PyData.keyHash P "AXISLESS", .str "AXISLESS" 2310, .str "axisless" 2309⟩, ⟨PyData.keyHash P "is_desk_row", .str "is_desk_row" 2317, .ref 1368⟩, ⟨PyData.keyHash P "check_rows", .str "check_rows" 2325, .ref 1375⟩, ⟨PyData.keyHash P "has_form", .str "has_form" 2332, .ref 1382⟩, ⟨PyData.keyHash P "check_deed", .str "check_deed" 2339, .ref 1389⟩, ⟨PyData.keyHash P "reason_against", .str "reason_against" 2347, .ref 1396⟩, ⟨PyData.keyHash P "rows_behind", .str "rows_behind" 2356, .ref 1403⟩, ⟨PyData.keyHash P "text_of_rows", .str "text_of_rows" 2362, .ref 1408⟩, ⟨PyData.keyHash P "word_of", .str "word_of" 2368, .ref 1413⟩, ⟨PyData.keyHash P "Desk", .str "Desk" 2467, .ref 1493⟩, ⟨PyData.keyHash P "_law_purse", .str "_law_purse" 2480, .ref 1504⟩, ⟨PyData.keyHash P "_law_take", .str "_law_take" 2491, .ref 1511⟩, ⟨PyData.keyHash P "_law_pick", .str "_law_pick" 2499, .ref 1518⟩, ⟨PyData.keyHash P "_law_same", .str "_law_same" 2507, .ref 1525⟩, ⟨PyData.keyHash P "_law_move", .str "_law_move" 2515, .ref 1532⟩, ⟨PyData.keyHash P "_law_said", .str "_law_said" 2523, .ref 1539⟩, ⟨PyData.keyHash P "_law_is_so", .str "_law_is_so" 2532, .ref 1546⟩, ⟨PyData.keyHash P "_law_page", .str "_law_page" 2550, .ref 1553⟩, ⟨PyData.keyHash P "_law_deed", .str "_law_deed" 2562, .ref 1560⟩, ⟨PyData.keyHash P "_law_is_empty", .str "_law_is_empty" 2569, .ref 1567⟩, ⟨PyData.keyHash P "_law_run", .str "_law_run" 2585, .ref 1574⟩, ⟨PyData.keyHash P "_law_are_equal", .str "_law_are_equal" 2591, .ref 1579⟩, ⟨PyData.keyHash P "_law_is_refused", .str "_law_is_refused" 2600, .ref 1586⟩, ⟨PyData.keyHash P "_law_right", .str "_law_right" 2606, .ref 1591⟩, ⟨PyData.keyHash P "law", .str "law" 2612, .ref 1596⟩]⟩ 233), ⟨[]⟩⟩
noncomputable def o40_6 : Obj := ⟨.none, none, (.fields ⟨[.int 2 0, .int 0 0, .ref 48, .int 6 0, .int 0 0, .ref 55, .int 8 0, .int 0 0, .ref 69, .int 13 0, .int 0 0, .ref 90, .int 18 0, .int 0 0, .ref 111, .int 23 0, .int 0 0, .ref 131, .int 26 0, .int 0 0, .ref 143, .int 28 0, .int 0 0, .ref 148, .int 30 0, .int 0 0, .ref 155, .int 32 0, .int 0 0, .ref 160, .int 34 0, .int 0 0, .ref 165, .int 36 0, .int 0 0, .ref 172, .int 41 0, .int 0 0, .ref 177, .int 43 0, .int 0 0, .ref 184, .int 45 0, .int 0 0, .ref 189, .int 52 0, .int 0 0, .ref 196, .int 57 0, .int 0 0, .ref 201, .int 59 0, .int 0 0, .ref 206, .int 61 0, .int 0 0, .ref 213, .int 63 0, .int 0 0, .ref 220, .int 68 0, .int 0 0, .ref 227, .int 70 0, .int 0 0, .ref 232, .int 72 0, .int 0 0, .ref 237, .int 82 0, .int 0 0, .ref 242, .int 84 0, .int 0 0, .ref 247, .int 86 0, .int 0 0, .ref 254, .int 97 0, .int 0 0, .ref 259, .int 110 0, .int 0 0, .ref 266, .int 115 0, .int 0 0, .ref 273, .int 120 0, .int 0 0, .ref 278, .int 126 0, .int 0 0, .ref 285, .int 133 0, .int 0 0, .ref 292, .int 139 0, .int 0 0, .ref 297, .int 141 0, .int 0 0, .ref 304, .int 149 0, .int 0 0, .ref 311, .int 154 0, .int 0 0, .ref 318, .int 156 0, .int 0 0, .ref 325, .int 162 0, .int 0 0, .ref 332, .int 169 0, .int 0 0, .ref 337, .int 176 0, .int 0 0, .ref 342, .int 178 0, .int 0 0, .ref 347, .int 184 0, .int 0 0, .ref 354, .int 191 0, .int 0 0, .ref 359, .int 200 0, .int 0 0, .ref 364, .int 204 0, .int 0 0, .ref 371, .int 206 0, .int 0 0, .ref 378, .int 210 0, .int 0 0, .ref 385, .int 217 0, .int 0 0, .ref 392, .int 226 0, .int 0 0, .ref 399, .int 231 0, .int 0 0, .ref 406, .int 233 0, .int 0 0, .ref 414, .int 235 0, .int 0 0, .ref 421, .int 237 0, .int 0 0, .ref 428, .int 239 0, .int 0 0, .ref 435, .int 251 0, .int 0 0, .ref 440, .int 254 0, .int 0 0, .ref 447, .int 258 0, .int 0 0, .ref 454, .int 268 0, .int 0 0, .ref 459, .int 270 0, .int 0 0, .ref 466, .int 272 0, .int 0 0, .ref 473, .int 274 0, .int 0 0, .ref 480, .int 276 0, .int 0 0, .ref 487, .int 284 0, .int 0 0, .ref 496, .int 290 0, .int 0 0, .ref 503, .int 298 0, .int 0 0, .ref 508, .int 317 0, .int 0 0, .ref 518, .int 319 0, .int 0 0, .ref 523, .int 321 0, .int 0 0, .ref 528, .int 323 0, .int 0 0, .ref 533, .int 327 0, .int 0 0, .ref 540, .int 331 0, .int 0 0, .ref 547, .int 335 0, .int 0 0, .ref 554, .int 347 0, .int 0 0, .ref 561, .int 379 0, .int 0 0, .ref 608, .int 386 0, .int 0 0, .ref 615, .int 388 0, .int 0 0, .ref 620, .int 390 0, .int 0 0, .ref 627, .int 398 0, .int 0 0, .ref 634, .int 403 0, .int 0 0, .ref 639, .int 418 0, .int 0 0, .ref 646, .int 420 0, .int 0 0, .ref 653, .int 422 0, .int 0 0, .ref 660, .int 429 0, .int 0 0, .ref 667, .int 459 0, .int 0 0, .ref 718, .int 463 0, .int 0 0, .ref 725, .int 465 0, .int 0 0, .ref 732, .int 467 0, .int 0 0, .ref 739, .int 469 0, .int 0 0, .ref 746, .int 471 0, .int 0 0, .ref 753, .int 475 0, .int 0 0, .ref 760, .int 477 0, .int 0 0, .ref 765, .int 481 0, .int 0 0, .ref 770, .int 494 0, .int 0 0, .ref 775, .int 513 0, .int 0 0, .ref 780, .int 527 0, .int 0 0, .ref 787, .int 532 0, .int 0 0, .ref 796, .int 534 0, .int 0 0, .ref 803, .int 536 0, .int 0 0, .ref 810, .int 538 0, .int 0 0, .ref 817, .int 540 0, .int 0 0, .ref 824, .int 545 0, .int 0 0, .ref 829, .int 559 0, .int 0 0, .ref 834, .int 575 0, .int 0 0, .ref 839, .int 580 0, .int 0 0, .ref 844, .int 595 0, .int 0 0, .ref 851, .int 604 0, .int 0 0, .ref 858, .int 607 0, .int 0 0, .ref 865, .int 610 0, .int 0 0, .ref 872, .int 620 0, .int 0 0, .ref 879, .int 622 0, .int 0 0, .ref 884, .int 630 0, .int 0 0, .ref 889, .int 633 0, .int 0 0, .ref 896, .int 641 0, .int 0 0, .ref 903, .int 648 0, .int 0 0, .ref 910, .int 658 0, .int 0 0, .ref 917, .int 663 0, .int 0 0, .ref 922, .int 673 0, .int 0 0, .ref 927, .int 676 0, .int 0 0, .ref 932, .int 680 0, .int 0 0, .ref 939, .int 682 0, .int 0 0, .ref 946, .int 685 0, .int 0 0, .ref 951, .int 687 0, .int 0 0, .ref 958, .int 693 0, .int 0 0, .ref 965, .int 838 0, .int 0 0, .ref 1111, .int 846 0, .int 0 0, .ref 1132, .int 848 0, .int 0 0, .ref 1139, .int 864 0, .int 0 0, .ref 1146, .int 871 0, .int 0 0, .ref 1154, .int 875 0, .int 0 0, .ref 1161, .int 879 0, .int 0 0, .ref 1168, .int 883 0, .int 0 0, .ref 1175, .int 885 0, .int 0 0, .ref 1182, .int 891 0, .int 0 0, .ref 1189, .int 895 0, .int 0 0, .ref 1196, .int 903 0, .int 0 0, .ref 1203, .int 905 0, .int 0 0, .ref 1210, .int 971 0, .int 0 0, .ref 1267, .int 973 0, .int 0 0, .ref 1274, .int 977 0, .int 0 0, .ref 1279, .int 991 0, .int 0 0, .ref 1286, .int 993 0, .int 0 0, .ref 1293, .int 1002 0, .int 0 0, .ref 1300, .int 1006 0, .int 0 0, .ref 1307, .int 1010 0, .int 0 0, .ref 1314, .int 1016 0, .int 0 0, .ref 1333, .int 1020 0, .int 0 0, .ref 1338, .int 1033 0, .int 0 0, .ref 1345, .int 1036 0, .int 0 0, .ref 1352, .int 1040 0, .int 0 0, .ref 1359, .int 1058 0, .int 0 0, .ref 1367, .int 1060 0, .int 0 0, .ref 1374, .int 1066 0, .int 0 0, .ref 1381, .int 1070 0, .int 0 0, .ref 1388, .int 1077 0, .int 0 0, .ref 1395, .int 1085 0, .int 0 0, .ref 1402, .int 1088 0, .int 0 0, .ref 1407, .int 1090 0, .int 0 0, .ref 1412, .int 1097 0, .int 0 0, .ref 1419, .int 1142 0, .int 0 0, .ref 1503, .int 1148 0, .int 0 0, .ref 1510, .int 1156 0, .int 0 0, .ref 1517, .int 1158 0, .int 0 0, .ref 1524, .int 1160 0, .int 0 0, .ref 1531, .int 1170 0, .int 0 0, .ref 1538, .int 1177 0, .int 0 0, .ref 1545, .int 1179 0, .int 0 0, .ref 1552, .int 1192 0, .int 0 0, .ref 1559, .int 1196 0, .int 0 0, .ref 1566, .int 1202 0, .int 0 0, .ref 1573, .int 1221 0, .int 0 0, .ref 1578, .int 1237 0, .int 0 0, .ref 1585, .int 1243 0, .int 0 0, .ref 1590, .int 1262 0, .int 0 0, .ref 1595]⟩), ⟨[]⟩⟩
noncomputable def o1281_6 : Obj := ⟨.type "tuple", none, (.seq ⟨[]⟩ 0), ⟨[]⟩⟩
noncomputable def o1282_6 : Obj := ⟨.none, none, (.fields ⟨[]⟩), ⟨[]⟩⟩
noncomputable def o1283_6 : Obj := ⟨.type "tuple", none, (.seq ⟨[.str "rows" 2174, .str "row" 2175]⟩ 0), ⟨[]⟩⟩
noncomputable def o1284_6 : Obj := ⟨.type "tuple", none, (.seq ⟨[]⟩ 0), ⟨[]⟩⟩
noncomputable def o1285_6 : Obj := ⟨.none, none, (.func (fQ (topS 192) "is_great_row" "is_great_row" 0 [] (.none) (.none) (.none) (.none) none (.none) (.none) 0)), ⟨[]⟩⟩
noncomputable def o1286_6 : Obj := ⟨.type "code", none, (.fields ⟨[.str "is_great_row" 2171, .str "is_great_row" 2172, .str "/claim/cut.py" 2173, .int 991 0, .int 2 0, .int 0 0, .int 0 0, .int 3 0, .ref 1281, .bool true, .int 374 0, .ref 1282, .none, .ref 1283, .ref 1284, .ref 1285, .int 2176 0, .int 991 0, .str "/claim/cut.py" 2177]⟩), ⟨[]⟩⟩
noncomputable def o1287_6 : Obj := ⟨.type "function", none, (.func (fQ (topS 192) "is_great_row" "is_great_row" 3 [] (.none) (.none) (.none) (.str "frametongue.reader" 2159) none (.ref 1286) (.none) 0)), ⟨[]⟩⟩
noncomputable def o1288_6 : Obj := ⟨.type "tuple", none, (.seq ⟨[]⟩ 0), ⟨[]⟩⟩
noncomputable def o1289_6 : Obj := ⟨.none, none, (.fields ⟨[]⟩), ⟨[]⟩⟩
noncomputable def o1290_6 : Obj := ⟨.type "tuple", none, (.seq ⟨[.str "rows" 2182, .str "read" 2183, .str "wrong" 2184]⟩ 0), ⟨[]⟩⟩
noncomputable def o1291_6 : Obj := ⟨.type "tuple", none, (.seq ⟨[]⟩ 0), ⟨[]⟩⟩
noncomputable def o1292_6 : Obj := ⟨.none, none, (.func (fQ (topS 193) "wrong_behind" "wrong_behind" 0 [] (.none) (.none) (.none) (.none) none (.none) (.none) 0)), ⟨[]⟩⟩
noncomputable def o1293_6 : Obj := ⟨.type "code", none, (.fields ⟨[.str "wrong_behind" 2179, .str "wrong_behind" 2180, .str "/claim/cut.py" 2181, .int 993 0, .int 2 0, .int 0 0, .int 0 0, .int 3 0, .ref 1288, .bool true, .int 374 0, .ref 1289, .none, .ref 1290, .ref 1291, .ref 1292, .int 2185 0, .int 993 0, .str "/claim/cut.py" 2186]⟩), ⟨[]⟩⟩
noncomputable def o1294_6 : Obj := ⟨.type "function", none, (.func (fQ (topS 193) "wrong_behind" "wrong_behind" 3 [] (.none) (.none) (.none) (.str "frametongue.reader" 2159) none (.ref 1293) (.none) 0)), ⟨[]⟩⟩
noncomputable def o1295_6 : Obj := ⟨.type "tuple", none, (.seq ⟨[]⟩ 0), ⟨[]⟩⟩
noncomputable def o1296_6 : Obj := ⟨.none, none, (.fields ⟨[]⟩), ⟨[]⟩⟩
noncomputable def o1297_6 : Obj := ⟨.type "tuple", none, (.seq ⟨[.str "read" 2191, .str "text" 2192, .str "is_ended" 2193]⟩ 0), ⟨[]⟩⟩
noncomputable def o1298_6 : Obj := ⟨.type "tuple", none, (.seq ⟨[]⟩ 0), ⟨[]⟩⟩
noncomputable def o1299_6 : Obj := ⟨.none, none, (.func (fQ (topS 194) "wrong_column" "wrong_column" 0 [] (.none) (.none) (.none) (.none) none (.none) (.none) 0)), ⟨[]⟩⟩
noncomputable def o1300_6 : Obj := ⟨.type "code", none, (.fields ⟨[.str "wrong_column" 2188, .str "wrong_column" 2189, .str "/claim/cut.py" 2190, .int 1002 0, .int 3 0, .int 0 0, .int 0 0, .int 3 0, .ref 1295, .bool true, .int 374 0, .ref 1296, .none, .ref 1297, .ref 1298, .ref 1299, .int 2194 0, .int 1002 0, .str "/claim/cut.py" 2195]⟩), ⟨[]⟩⟩
noncomputable def o1301_6 : Obj := ⟨.type "function", none, (.func (fQ (topS 194) "wrong_column" "wrong_column" 3 [] (.none) (.none) (.none) (.str "frametongue.reader" 2159) none (.ref 1300) (.none) 0)), ⟨[]⟩⟩
noncomputable def o1302_6 : Obj := ⟨.type "tuple", none, (.seq ⟨[]⟩ 0), ⟨[]⟩⟩
noncomputable def o1303_6 : Obj := ⟨.none, none, (.fields ⟨[]⟩), ⟨[]⟩⟩
noncomputable def o1304_6 : Obj := ⟨.type "tuple", none, (.seq ⟨[.str "rows" 2200, .str "read" 2201, .str "text" 2202, .str "is_ended" 2203]⟩ 0), ⟨[]⟩⟩
noncomputable def o1305_6 : Obj := ⟨.type "tuple", none, (.seq ⟨[]⟩ 0), ⟨[]⟩⟩
noncomputable def o1306_6 : Obj := ⟨.none, none, (.func (fQ (topS 195) "wrong_in" "wrong_in" 0 [] (.none) (.none) (.none) (.none) none (.none) (.none) 0)), ⟨[]⟩⟩
noncomputable def o1307_6 : Obj := ⟨.type "code", none, (.fields ⟨[.str "wrong_in" 2197, .str "wrong_in" 2198, .str "/claim/cut.py" 2199, .int 1006 0, .int 4 0, .int 0 0, .int 0 0, .int 3 0, .ref 1302, .bool true, .int 374 0, .ref 1303, .none, .ref 1304, .ref 1305, .ref 1306, .int 2204 0, .int 1006 0, .str "/claim/cut.py" 2205]⟩), ⟨[]⟩⟩
noncomputable def o1308_6 : Obj := ⟨.type "function", none, (.func (fQ (topS 195) "wrong_in" "wrong_in" 3 [] (.none) (.none) (.none) (.str "frametongue.reader" 2159) none (.ref 1307) (.none) 0)), ⟨[]⟩⟩
noncomputable def o1309_6 : Obj := ⟨.type "tuple", none, (.seq ⟨[]⟩ 0), ⟨[]⟩⟩
noncomputable def o1310_6 : Obj := ⟨.type "builtin_function_or_method", none, (.fields ⟨[.builtin "type.__prepare__", .type "type"]⟩), ⟨[]⟩⟩
noncomputable def o1311_6 (P : Params) : Obj := ⟨.type "dict", none, (.dict ⟨[⟨PyData.keyHash P "__module__", .str "__module__" 2214, .str "frametongue.reader" 2159⟩, ⟨PyData.keyHash P "__qualname__", .str "__qualname__" 2216, .str "ReadText" 2215⟩, ⟨PyData.keyHash P "__firstlineno__", .str "__firstlineno__" 2218, .int 1010 2217⟩, ⟨PyData.keyHash P "__init__", .str "__init__" 2228, .ref 1322⟩, ⟨PyData.keyHash P "__static_attributes__", .str "__static_attributes__" 2232, .ref 1323⟩]⟩ 5), ⟨[]⟩⟩
noncomputable def o1312_6 : Obj := ⟨.type "tuple", none, (.seq ⟨[]⟩ 0), ⟨[]⟩⟩
noncomputable def o1313_6 : Obj := ⟨.none, none, (.fields ⟨[.int 1012 0, .int 4 0, .ref 1321]⟩), ⟨[]⟩⟩
noncomputable def o1314_6 : Obj := ⟨.type "code", none, (.fields ⟨[.str "ReadText" 2209, .str "ReadText" 2210, .str "/claim/cut.py" 2211, .int 1010 0, .int 0 0, .int 0 0, .int 0 0, .int 0 0, .ref 1312, .bool false, .int 374 0, .ref 1313, .none, .none, .none, .none, .int 2212 0, .int 1010 0, .str "/claim/cut.py" 2213]⟩), ⟨[]⟩⟩
noncomputable def o1315_6 : Obj := ⟨.type "frame", none, .plain, ⟨[(some (.ref 1314)), (some (.ref 3)), (some (.ref 1311)), none, (some (.str "frametongue.reader" 2159)), none, (some (.ref 0))]⟩⟩
noncomputable def o1316_6 : Obj := ⟨.type "tuple", none, (.seq ⟨[]⟩ 0), ⟨[]⟩⟩
noncomputable def o1317_6 : Obj := ⟨.none, none, (.fields ⟨[]⟩), ⟨[]⟩⟩
noncomputable def o1318_6 : Obj := ⟨.type "tuple", none, (.seq ⟨[.str "self" 2222, .str "fault" 2223, .str "rows" 2224, .str "reads" 2225]⟩ 0), ⟨[]⟩⟩
noncomputable def o1319_6 : Obj := ⟨.type "tuple", none, (.seq ⟨[]⟩ 0), ⟨[]⟩⟩
noncomputable def o1320_6 : Obj := ⟨.none, none, (.func (fQ (inClass (topS 196) 0) "__init__" "ReadText.__init__" 0 [] (.none) (.none) (.none) (.none) none (.none) (.none) 0)), ⟨[]⟩⟩
noncomputable def o1321_6 : Obj := ⟨.type "code", none, (.fields ⟨[.str "__init__" 2219, .str "ReadText.__init__" 2220, .str "/claim/cut.py" 2221, .int 1012 0, .int 4 0, .int 0 0, .int 0 0, .int 3 0, .ref 1316, .bool true, .int 374 0, .ref 1317, .none, .ref 1318, .ref 1319, .ref 1320, .int 2226 0, .int 1012 0, .str "/claim/cut.py" 2227]⟩), ⟨[]⟩⟩
noncomputable def o1322_6 : Obj := ⟨.type "function", none, (.func (fQ (inClass (topS 196) 0) "__init__" "ReadText.__init__" 3 [] (.none) (.none) (.none) (.str "frametongue.reader" 2159) none (.ref 1321) (.none) 0)), ⟨[]⟩⟩
noncomputable def o1323_6 : Obj := ⟨.type "tuple", none, (.seq ⟨[.str "fault" 2229, .str "reads" 2230, .str "rows" 2231]⟩ 0), ⟨[]⟩⟩
noncomputable def o1324_6 (P : Params) : Obj := ⟨.type "dict", none, (.dict ⟨[⟨PyData.keyHash P "__module__", .str "__module__" 2214, .str "frametongue.reader" 2159⟩, ⟨PyData.keyHash P "__firstlineno__", .str "__firstlineno__" 2218, .int 1010 2217⟩, ⟨PyData.keyHash P "__init__", .str "__init__" 2228, .ref 1322⟩, ⟨PyData.keyHash P "__static_attributes__", .str "__static_attributes__" 2232, .ref 1323⟩, ⟨PyData.keyHash P "__dict__", .str "__dict__" 2234, .ref 1326⟩, ⟨PyData.keyHash P "__weakref__", .str "__weakref__" 2236, .ref 1327⟩, ⟨PyData.keyHash P "__doc__", .str "__doc__" 2237, .none⟩]⟩ 4), ⟨[]⟩⟩
noncomputable def o1325_6 : Obj := ⟨.type "type", none, (.cls ⟨"ReadText", [.type "object"], [.ref 1325, .type "object"], 1324, "ReadText", true, [], [], false, none, false⟩), ⟨[none, none, (some (.str "ReadText" 2207)), (some (.str "ReadText" 2215)), (some (.builtin "object.__new__")), (some (.bool true))]⟩⟩
noncomputable def o1326_6 : Obj := ⟨.type "getset_descriptor", none, (.fields ⟨[.str "__dict__" 2233, .ref 1325, .builtin "function.__dict__", .builtin "function.__dict__#set"]⟩), ⟨[]⟩⟩
noncomputable def o1327_6 : Obj := ⟨.type "getset_descriptor", none, (.fields ⟨[.str "__weakref__" 2235, .ref 1325, .builtin "ExceptionGroup.__weakref__", .none]⟩), ⟨[]⟩⟩
noncomputable def o1328_6 : Obj := ⟨.type "super", none, (.fields ⟨[.ref 1325, .ref 1325, .ref 1325]⟩), ⟨[]⟩⟩
noncomputable def o1329_6 : Obj := ⟨.type "builtin_function_or_method", none, (.fields ⟨[.builtin "object.__init_subclass__", .ref 1325]⟩), ⟨[]⟩⟩
noncomputable def o1330_6 : Obj := ⟨.type "tuple", none, (.seq ⟨[]⟩ 0), ⟨[]⟩⟩
noncomputable def o1331_6 : Obj := ⟨.none, none, (.fields ⟨[]⟩), ⟨[]⟩⟩
noncomputable def o1332_6 : Obj := ⟨.none, none, (.func (fQ (topS 197) "rows_in" "rows_in" 0 [] (.none) (.none) (.none) (.none) none (.none) (.none) 0)), ⟨[]⟩⟩
noncomputable def o1333_6 : Obj := ⟨.type "code", none, (.fields ⟨[.str "rows_in" 2240, .str "rows_in" 2241, .str "/claim/cut.py" 2242, .int 1016 0, .int 1 0, .int 0 0, .int 0 0, .int 3 0, .ref 1330, .bool true, .int 374 0, .ref 1331, .none, .none, .none, .ref 1332, .int 2243 0, .int 1016 0, .str "/claim/cut.py" 2244]⟩), ⟨[]⟩⟩
noncomputable def o1334_6 : Obj := ⟨.type "function", none, (.func (fQ (topS 197) "rows_in" "rows_in" 3 [] (.none) (.none) (.none) (.str "frametongue.reader" 2159) none (.ref 1333) (.none) 0)), ⟨[]⟩⟩
noncomputable def o1335_6 : Obj := ⟨.type "tuple", none, (.seq ⟨[]⟩ 0), ⟨[]⟩⟩
noncomputable def o1336_6 : Obj := ⟨.none, none, (.fields ⟨[]⟩), ⟨[]⟩⟩
noncomputable def o1337_6 : Obj := ⟨.none, none, (.func (fQ (topS 198) "read_text" "read_text" 0 [] (.none) (.none) (.none) (.none) none (.none) (.none) 0)), ⟨[]⟩⟩
noncomputable def o1338_6 : Obj := ⟨.type "code", none, (.fields ⟨[.str "read_text" 2246, .str "read_text" 2247, .str "/claim/cut.py" 2248, .int 1020 0, .int 1 0, .int 0 0, .int 0 0, .int 3 0, .ref 1335, .bool true, .int 374 0, .ref 1336, .none, .none, .none, .ref 1337, .int 2249 0, .int 1020 0, .str "/claim/cut.py" 2250]⟩), ⟨[]⟩⟩
noncomputable def o1339_6 : Obj := ⟨.type "function", none, (.func (fQ (topS 198) "read_text" "read_text" 3 [] (.none) (.none) (.none) (.str "frametongue.reader" 2159) none (.ref 1338) (.none) 0)), ⟨[]⟩⟩
noncomputable def o1340_6 : Obj := ⟨.type "tuple", none, (.seq ⟨[]⟩ 0), ⟨[]⟩⟩
noncomputable def o1341_6 : Obj := ⟨.none, none, (.fields ⟨[]⟩), ⟨[]⟩⟩
noncomputable def o1342_6 : Obj := ⟨.type "tuple", none, (.seq ⟨[.str "text" 2255, .str "fault" 2256]⟩ 0), ⟨[]⟩⟩
noncomputable def o1343_6 : Obj := ⟨.type "tuple", none, (.seq ⟨[]⟩ 0), ⟨[]⟩⟩
noncomputable def o1344_6 : Obj := ⟨.none, none, (.func (fQ (topS 199) "fault_by" "fault_by" 0 [] (.none) (.none) (.none) (.none) none (.none) (.none) 0)), ⟨[]⟩⟩
noncomputable def o1345_6 : Obj := ⟨.type "code", none, (.fields ⟨[.str "fault_by" 2252, .str "fault_by" 2253, .str "/claim/cut.py" 2254, .int 1033 0, .int 1 0, .int 0 0, .int 0 0, .int 3 0, .ref 1340, .bool true, .int 374 0, .ref 1341, .none, .ref 1342, .ref 1343, .ref 1344, .int 2257 0, .int 1033 0, .str "/claim/cut.py" 2258]⟩), ⟨[]⟩⟩
noncomputable def o1346_6 : Obj := ⟨.type "function", none, (.func (fQ (topS 199) "fault_by" "fault_by" 3 [] (.none) (.none) (.none) (.str "frametongue.reader" 2159) none (.ref 1345) (.none) 0)), ⟨[]⟩⟩
noncomputable def o1347_6 : Obj := ⟨.type "tuple", none, (.seq ⟨[]⟩ 0), ⟨[]⟩⟩
noncomputable def o1348_6 : Obj := ⟨.none, none, (.fields ⟨[]⟩), ⟨[]⟩⟩
noncomputable def o1349_6 : Obj := ⟨.type "tuple", none, (.seq ⟨[.str "text" 2263, .str "read" 2264]⟩ 0), ⟨[]⟩⟩
noncomputable def o1350_6 : Obj := ⟨.type "tuple", none, (.seq ⟨[]⟩ 0), ⟨[]⟩⟩
noncomputable def o1351_6 : Obj := ⟨.none, none, (.func (fQ (topS 200) "program_of" "program_of" 0 [] (.none) (.none) (.none) (.none) none (.none) (.none) 0)), ⟨[]⟩⟩
noncomputable def o1352_6 : Obj := ⟨.type "code", none, (.fields ⟨[.str "program_of" 2260, .str "program_of" 2261, .str "/claim/cut.py" 2262, .int 1036 0, .int 1 0, .int 0 0, .int 0 0, .int 3 0, .ref 1347, .bool true, .int 374 0, .ref 1348, .none, .ref 1349, .ref 1350, .ref 1351, .int 2265 0, .int 1036 0, .str "/claim/cut.py" 2266]⟩), ⟨[]⟩⟩
noncomputable def o1353_6 : Obj := ⟨.type "function", none, (.func (fQ (topS 200) "program_of" "program_of" 3 [] (.none) (.none) (.none) (.str "frametongue.reader" 2159) none (.ref 1352) (.none) 0)), ⟨[]⟩⟩
noncomputable def o1354_6 : Obj := ⟨.type "tuple", none, (.seq ⟨[]⟩ 0), ⟨[]⟩⟩
noncomputable def o1355_6 : Obj := ⟨.none, none, (.fields ⟨[]⟩), ⟨[]⟩⟩
noncomputable def o1356_6 : Obj := ⟨.type "tuple", none, (.seq ⟨[.str "program" 2273, .str "tell" 2274, .str "found" 2275]⟩ 0), ⟨[]⟩⟩
noncomputable def o1357_6 : Obj := ⟨.type "tuple", none, (.seq ⟨[]⟩ 0), ⟨[]⟩⟩
noncomputable def o1358_6 : Obj := ⟨.none, none, (.func (fQ (topS 202) "first_axis_by" "first_axis_by" 0 [] (.none) (.none) (.none) (.none) none (.none) (.none) 0)), ⟨[]⟩⟩
noncomputable def o1359_6 : Obj := ⟨.type "code", none, (.fields ⟨[.str "first_axis_by" 2270, .str "first_axis_by" 2271, .str "/claim/cut.py" 2272, .int 1040 0, .int 1 0, .int 0 0, .int 0 0, .int 3 0, .ref 1354, .bool true, .int 374 0, .ref 1355, .none, .ref 1356, .ref 1357, .ref 1358, .int 2276 0, .int 1040 0, .str "/claim/cut.py" 2277]⟩), ⟨[]⟩⟩
noncomputable def o1360_6 : Obj := ⟨.type "function", none, (.func (fQ (topS 202) "first_axis_by" "first_axis_by" 3 [] (.none) (.none) (.none) (.str "frametongue.sorts" 2268) none (.ref 1359) (.none) 0)), ⟨[]⟩⟩
noncomputable def o1361_6 (P : Params) : Obj := ⟨.type "dict", none, (.dict ⟨[⟨PyData.keyHash P "put", .str "put" 2285, .int 3 2286⟩, ⟨PyData.keyHash P "row", .str "row" 2287, .int 3 2288⟩, ⟨PyData.keyHash P "out", .str "out" 2289, .int 2 2290⟩]⟩ 3), ⟨[]⟩⟩
noncomputable def o1362_6 : Obj := ⟨.type "tuple", none, (.seq ⟨[]⟩ 0), ⟨[]⟩⟩
noncomputable def o1363_6 : Obj := ⟨.none, none, (.fields ⟨[]⟩), ⟨[]⟩⟩
noncomputable def o1364_6 : Obj := ⟨.type "tuple", none, (.seq ⟨[.str "value" 2314]⟩ 0), ⟨[]⟩⟩
noncomputable def o1365_6 : Obj := ⟨.type "tuple", none, (.seq ⟨[]⟩ 0), ⟨[]⟩⟩
noncomputable def o1366_6 : Obj := ⟨.none, none, (.func (fQ (topS 215) "is_desk_row" "is_desk_row" 0 [] (.none) (.none) (.none) (.none) none (.none) (.none) 0)), ⟨[]⟩⟩
noncomputable def o1367_6 : Obj := ⟨.type "code", none, (.fields ⟨[.str "is_desk_row" 2311, .str "is_desk_row" 2312, .str "/claim/cut.py" 2313, .int 1058 0, .int 1 0, .int 0 0, .int 0 0, .int 3 0, .ref 1362, .bool true, .int 374 0, .ref 1363, .none, .ref 1364, .ref 1365, .ref 1366, .int 2315 0, .int 1058 0, .str "/claim/cut.py" 2316]⟩), ⟨[]⟩⟩
noncomputable def o1368_6 : Obj := ⟨.type "function", none, (.func (fQ (topS 215) "is_desk_row" "is_desk_row" 3 [] (.none) (.none) (.none) (.str "frametongue.desks" 2279) none (.ref 1367) (.none) 0)), ⟨[]⟩⟩
noncomputable def o1369_6 : Obj := ⟨.type "tuple", none, (.seq ⟨[]⟩ 0), ⟨[]⟩⟩
noncomputable def o1370_6 : Obj := ⟨.none, none, (.fields ⟨[]⟩), ⟨[]⟩⟩
noncomputable def o1371_6 : Obj := ⟨.type "tuple", none, (.seq ⟨[.str "value" 2321, .str "wrong" 2322]⟩ 0), ⟨[]⟩⟩
noncomputable def o1372_6 : Obj := ⟨.type "tuple", none, (.seq ⟨[]⟩ 0), ⟨[]⟩⟩
noncomputable def o1373_6 : Obj := ⟨.none, none, (.func (fQ (topS 216) "check_rows" "check_rows" 0 [] (.none) (.none) (.none) (.none) none (.none) (.none) 0)), ⟨[]⟩⟩
noncomputable def o1374_6 : Obj := ⟨.type "code", none, (.fields ⟨[.str "check_rows" 2318, .str "check_rows" 2319, .str "/claim/cut.py" 2320, .int 1060 0, .int 1 0, .int 0 0, .int 0 0, .int 3 0, .ref 1369, .bool true, .int 374 0, .ref 1370, .none, .ref 1371, .ref 1372, .ref 1373, .int 2323 0, .int 1060 0, .str "/claim/cut.py" 2324]⟩), ⟨[]⟩⟩
noncomputable def o1375_6 : Obj := ⟨.type "function", none, (.func (fQ (topS 216) "check_rows" "check_rows" 3 [] (.none) (.none) (.none) (.str "frametongue.desks" 2279) none (.ref 1374) (.none) 0)), ⟨[]⟩⟩
noncomputable def o1376_6 : Obj := ⟨.type "tuple", none, (.seq ⟨[]⟩ 0), ⟨[]⟩⟩
noncomputable def o1377_6 : Obj := ⟨.none, none, (.fields ⟨[]⟩), ⟨[]⟩⟩
noncomputable def o1378_6 : Obj := ⟨.type "tuple", none, (.seq ⟨[.str "value" 2329]⟩ 0), ⟨[]⟩⟩
noncomputable def o1379_6 : Obj := ⟨.type "tuple", none, (.seq ⟨[]⟩ 0), ⟨[]⟩⟩
noncomputable def o1380_6 : Obj := ⟨.none, none, (.func (fQ (topS 217) "has_form" "has_form" 0 [] (.none) (.none) (.none) (.none) none (.none) (.none) 0)), ⟨[]⟩⟩
noncomputable def o1381_6 : Obj := ⟨.type "code", none, (.fields ⟨[.str "has_form" 2326, .str "has_form" 2327, .str "/claim/cut.py" 2328, .int 1066 0, .int 1 0, .int 0 0, .int 0 0, .int 3 0, .ref 1376, .bool true, .int 374 0, .ref 1377, .none, .ref 1378, .ref 1379, .ref 1380, .int 2330 0, .int 1066 0, .str "/claim/cut.py" 2331]⟩), ⟨[]⟩⟩
noncomputable def o1382_6 : Obj := ⟨.type "function", none, (.func (fQ (topS 217) "has_form" "has_form" 3 [] (.none) (.none) (.none) (.str "frametongue.desks" 2279) none (.ref 1381) (.none) 0)), ⟨[]⟩⟩
noncomputable def o1383_6 : Obj := ⟨.type "tuple", none, (.seq ⟨[]⟩ 0), ⟨[]⟩⟩
noncomputable def o1384_6 : Obj := ⟨.none, none, (.fields ⟨[]⟩), ⟨[]⟩⟩
noncomputable def o1385_6 : Obj := ⟨.type "tuple", none, (.seq ⟨[.str "value" 2336]⟩ 0), ⟨[]⟩⟩
noncomputable def o1386_6 : Obj := ⟨.type "tuple", none, (.seq ⟨[]⟩ 0), ⟨[]⟩⟩
noncomputable def o1387_6 : Obj := ⟨.none, none, (.func (fQ (topS 218) "check_deed" "check_deed" 0 [] (.none) (.none) (.none) (.none) none (.none) (.none) 0)), ⟨[]⟩⟩
noncomputable def o1388_6 : Obj := ⟨.type "code", none, (.fields ⟨[.str "check_deed" 2333, .str "check_deed" 2334, .str "/claim/cut.py" 2335, .int 1070 0, .int 1 0, .int 0 0, .int 0 0, .int 3 0, .ref 1383, .bool true, .int 374 0, .ref 1384, .none, .ref 1385, .ref 1386, .ref 1387, .int 2337 0, .int 1070 0, .str "/claim/cut.py" 2338]⟩), ⟨[]⟩⟩
noncomputable def o1389_6 : Obj := ⟨.type "function", none, (.func (fQ (topS 218) "check_deed" "check_deed" 3 [] (.none) (.none) (.none) (.str "frametongue.desks" 2279) none (.ref 1388) (.none) 0)), ⟨[]⟩⟩
noncomputable def o1390_6 : Obj := ⟨.type "tuple", none, (.seq ⟨[]⟩ 0), ⟨[]⟩⟩
noncomputable def o1391_6 : Obj := ⟨.none, none, (.fields ⟨[]⟩), ⟨[]⟩⟩
noncomputable def o1392_6 : Obj := ⟨.type "tuple", none, (.seq ⟨[.str "rows" 2343, .str "deed" 2344]⟩ 0), ⟨[]⟩⟩
noncomputable def o1393_6 : Obj := ⟨.type "tuple", none, (.seq ⟨[]⟩ 0), ⟨[]⟩⟩
noncomputable def o1394_6 : Obj := ⟨.none, none, (.func (fQ (topS 219) "reason_against" "reason_against" 0 [] (.none) (.none) (.none) (.none) none (.none) (.none) 0)), ⟨[]⟩⟩
noncomputable def o1395_6 : Obj := ⟨.type "code", none, (.fields ⟨[.str "reason_against" 2340, .str "reason_against" 2341, .str "/claim/cut.py" 2342, .int 1077 0, .int 2 0, .int 0 0, .int 0 0, .int 3 0, .ref 1390, .bool true, .int 374 0, .ref 1391, .none, .ref 1392, .ref 1393, .ref 1394, .int 2345 0, .int 1077 0, .str "/claim/cut.py" 2346]⟩), ⟨[]⟩⟩
noncomputable def o1396_6 : Obj := ⟨.type "function", none, (.func (fQ (topS 219) "reason_against" "reason_against" 3 [] (.none) (.none) (.none) (.str "frametongue.desks" 2279) none (.ref 1395) (.none) 0)), ⟨[]⟩⟩
noncomputable def o1397_6 : Obj := ⟨.type "tuple", none, (.seq ⟨[]⟩ 0), ⟨[]⟩⟩
noncomputable def o1398_6 : Obj := ⟨.none, none, (.fields ⟨[]⟩), ⟨[]⟩⟩
noncomputable def o1399_6 : Obj := ⟨.type "tuple", none, (.seq ⟨[.str "rows" 2351, .str "deed" 2352, .str "behind" 2353]⟩ 0), ⟨[]⟩⟩
noncomputable def o1400_6 : Obj := ⟨.type "tuple", none, (.seq ⟨[]⟩ 0), ⟨[]⟩⟩
noncomputable def o1401_6 : Obj := ⟨.none, none, (.func (fQ (topS 220) "rows_behind" "rows_behind" 0 [] (.none) (.none) (.none) (.none) none (.none) (.none) 0)), ⟨[]⟩⟩
noncomputable def o1402_6 : Obj := ⟨.type "code", none, (.fields ⟨[.str "rows_behind" 2348, .str "rows_behind" 2349, .str "/claim/cut.py" 2350, .int 1085 0, .int 2 0, .int 0 0, .int 0 0, .int 3 0, .ref 1397, .bool true, .int 374 0, .ref 1398, .none, .ref 1399, .ref 1400, .ref 1401, .int 2354 0, .int 1085 0, .str "/claim/cut.py" 2355]⟩), ⟨[]⟩⟩
noncomputable def o1403_6 : Obj := ⟨.type "function", none, (.func (fQ (topS 220) "rows_behind" "rows_behind" 3 [] (.none) (.none) (.none) (.str "frametongue.desks" 2279) none (.ref 1402) (.none) 0)), ⟨[]⟩⟩
noncomputable def o1404_6 : Obj := ⟨.type "tuple", none, (.seq ⟨[]⟩ 0), ⟨[]⟩⟩
noncomputable def o1405_6 : Obj := ⟨.none, none, (.fields ⟨[]⟩), ⟨[]⟩⟩
noncomputable def o1406_6 : Obj := ⟨.none, none, (.func (fQ (topS 221) "text_of_rows" "text_of_rows" 0 [] (.none) (.none) (.none) (.none) none (.none) (.none) 0)), ⟨[]⟩⟩
noncomputable def o1407_6 : Obj := ⟨.type "code", none, (.fields ⟨[.str "text_of_rows" 2357, .str "text_of_rows" 2358, .str "/claim/cut.py" 2359, .int 1088 0, .int 1 0, .int 0 0, .int 0 0, .int 3 0, .ref 1404, .bool true, .int 374 0, .ref 1405, .none, .none, .none, .ref 1406, .int 2360 0, .int 1088 0, .str "/claim/cut.py" 2361]⟩), ⟨[]⟩⟩
noncomputable def o1408_6 : Obj := ⟨.type "function", none, (.func (fQ (topS 221) "text_of_rows" "text_of_rows" 3 [] (.none) (.none) (.none) (.str "frametongue.desks" 2279) none (.ref 1407) (.none) 0)), ⟨[]⟩⟩
noncomputable def o1409_6 : Obj := ⟨.type "tuple", none, (.seq ⟨[]⟩ 0), ⟨[]⟩⟩
noncomputable def o1410_6 : Obj := ⟨.none, none, (.fields ⟨[]⟩), ⟨[]⟩⟩
noncomputable def o1411_6 : Obj := ⟨.none, none, (.func (fQ (topS 222) "word_of" "word_of" 0 [] (.none) (.none) (.none) (.none) none (.none) (.none) 0)), ⟨[]⟩⟩
noncomputable def o1412_6 : Obj := ⟨.type "code", none, (.fields ⟨[.str "word_of" 2363, .str "word_of" 2364, .str "/claim/cut.py" 2365, .int 1090 0, .int 1 0, .int 0 0, .int 0 0, .int 3 0, .ref 1409, .bool true, .int 374 0, .ref 1410, .none, .none, .none, .ref 1411, .int 2366 0, .int 1090 0, .str "/claim/cut.py" 2367]⟩), ⟨[]⟩⟩
noncomputable def o1413_6 : Obj := ⟨.type "function", none, (.func (fQ (topS 222) "word_of" "word_of" 3 [] (.none) (.none) (.none) (.str "frametongue.desks" 2279) none (.ref 1412) (.none) 0)), ⟨[]⟩⟩
noncomputable def o1414_6 : Obj := ⟨.type "tuple", none, (.seq ⟨[]⟩ 0), ⟨[]⟩⟩
noncomputable def o1415_6 : Obj := ⟨.type "builtin_function_or_method", none, (.fields ⟨[.builtin "type.__prepare__", .type "type"]⟩), ⟨[]⟩⟩
noncomputable def o1416_6 (P : Params) : Obj := ⟨.type "dict", none, (.dict ⟨[⟨PyData.keyHash P "__module__", .str "__module__" 2376, .str "frametongue.desks" 2279⟩, ⟨PyData.keyHash P "__qualname__", .str "__qualname__" 2378, .str "Desk" 2377⟩, ⟨PyData.keyHash P "__firstlineno__", .str "__firstlineno__" 2380, .int 1097 2379⟩, ⟨PyData.keyHash P "__init__", .str "__init__" 2388, .ref 1427⟩, ⟨PyData.keyHash P "do", .str "do" 2397, .ref 1434⟩, ⟨PyData.keyHash P "undo", .str "undo" 2404, .ref 1441⟩, ⟨PyData.keyHash P "text", .str "text" 2411, .ref 1448⟩, ⟨PyData.keyHash P "word", .str "word" 2418, .ref 1455⟩, ⟨PyData.keyHash P "fault", .str "fault" 2425, .ref 1462⟩, ⟨PyData.keyHash P "program", .str "program" 2432, .ref 1469⟩, ⟨PyData.keyHash P "fault_place", .str "fault_place" 2439, .ref 1476⟩, ⟨PyData.keyHash P "axis_stretches", .str "axis_stretches" 2446, .ref 1483⟩, ⟨PyData.keyHash P "__eq__", .str "__eq__" 2454, .ref 1490⟩, ⟨PyData.keyHash P "__static_attributes__", .str "__static_attributes__" 2459, .ref 1491⟩]⟩ 14), ⟨[]⟩⟩
noncomputable def o1417_6 : Obj := ⟨.type "tuple", none, (.seq ⟨[]⟩ 0), ⟨[]⟩⟩
noncomputable def o1418_6 : Obj := ⟨.none, none, (.fields ⟨[.int 1099 0, .int 4 0, .ref 1426, .int 1106 0, .int 4 0, .ref 1433, .int 1115 0, .int 4 0, .ref 1440, .int 1121 0, .int 4 0, .ref 1447, .int 1124 0, .int 4 0, .ref 1454, .int 1127 0, .int 4 0, .ref 1461, .int 1130 0, .int 4 0, .ref 1468, .int 1133 0, .int 4 0, .ref 1475, .int 1136 0, .int 4 0, .ref 1482, .int 1139 0, .int 4 0, .ref 1489]⟩), ⟨[]⟩⟩
noncomputable def o1419_6 : Obj := ⟨.type "code", none, (.fields ⟨[.str "Desk" 2371, .str "Desk" 2372, .str "/claim/cut.py" 2373, .int 1097 0, .int 0 0, .int 0 0, .int 0 0, .int 0 0, .ref 1417, .bool false, .int 374 0, .ref 1418, .none, .none, .none, .none, .int 2374 0, .int 1097 0, .str "/claim/cut.py" 2375]⟩), ⟨[]⟩⟩
noncomputable def o1420_6 : Obj := ⟨.type "frame", none, .plain, ⟨[(some (.ref 1419)), (some (.ref 3)), (some (.ref 1416)), none, (some (.str "frametongue.desks" 2279)), none, (some (.ref 0))]⟩⟩
noncomputable def o1421_6 : Obj := ⟨.type "tuple", none, (.seq ⟨[]⟩ 0), ⟨[]⟩⟩
noncomputable def o1422_6 : Obj := ⟨.none, none, (.fields ⟨[]⟩), ⟨[]⟩⟩
noncomputable def o1423_6 : Obj := ⟨.type "tuple", none, (.seq ⟨[.str "self" 2384, .str "rows" 2385]⟩ 0), ⟨[]⟩⟩
noncomputable def o1424_6 : Obj := ⟨.type "tuple", none, (.seq ⟨[]⟩ 0), ⟨[]⟩⟩
noncomputable def o1425_6 : Obj := ⟨.none, none, (.func (fQ (inClass (topS 223) 0) "__init__" "Desk.__init__" 0 [] (.none) (.none) (.none) (.none) none (.none) (.none) 0)), ⟨[]⟩⟩
noncomputable def o1426_6 : Obj := ⟨.type "code", none, (.fields ⟨[.str "__init__" 2381, .str "Desk.__init__" 2382, .str "/claim/cut.py" 2383, .int 1099 0, .int 2 0, .int 0 0, .int 0 0, .int 3 0, .ref 1421, .bool true, .int 374 0, .ref 1422, .none, .ref 1423, .ref 1424, .ref 1425, .int 2386 0, .int 1099 0, .str "/claim/cut.py" 2387]⟩), ⟨[]⟩⟩
noncomputable def o1427_6 : Obj := ⟨.type "function", none, (.func (fQ (inClass (topS 223) 0) "__init__" "Desk.__init__" 3 [] (.none) (.none) (.none) (.str "frametongue.desks" 2279) none (.ref 1426) (.none) 0)), ⟨[]⟩⟩
noncomputable def o1428_6 : Obj := ⟨.type "tuple", none, (.seq ⟨[]⟩ 0), ⟨[]⟩⟩
noncomputable def o1429_6 : Obj := ⟨.none, none, (.fields ⟨[]⟩), ⟨[]⟩⟩
noncomputable def o1430_6 : Obj := ⟨.type "tuple", none, (.seq ⟨[.str "self" 2392, .str "deed" 2393, .str "reason" 2394]⟩ 0), ⟨[]⟩⟩
noncomputable def o1431_6 : Obj := ⟨.type "tuple", none, (.seq ⟨[]⟩ 0), ⟨[]⟩⟩
noncomputable def o1432_6 : Obj := ⟨.none, none, (.func (fQ (inClass (topS 223) 1) "do" "Desk.do" 0 [] (.none) (.none) (.none) (.none) none (.none) (.none) 0)), ⟨[]⟩⟩
noncomputable def o1433_6 : Obj := ⟨.type "code", none, (.fields ⟨[.str "do" 2389, .str "Desk.do" 2390, .str "/claim/cut.py" 2391, .int 1106 0, .int 2 0, .int 0 0, .int 0 0, .int 3 0, .ref 1428, .bool true, .int 374 0, .ref 1429, .none, .ref 1430, .ref 1431, .ref 1432, .int 2395 0, .int 1106 0, .str "/claim/cut.py" 2396]⟩), ⟨[]⟩⟩
noncomputable def o1434_6 : Obj := ⟨.type "function", none, (.func (fQ (inClass (topS 223) 1) "do" "Desk.do" 3 [] (.none) (.none) (.none) (.str "frametongue.desks" 2279) none (.ref 1433) (.none) 0)), ⟨[]⟩⟩
noncomputable def o1435_6 : Obj := ⟨.type "tuple", none, (.seq ⟨[]⟩ 0), ⟨[]⟩⟩
noncomputable def o1436_6 : Obj := ⟨.none, none, (.fields ⟨[]⟩), ⟨[]⟩⟩
noncomputable def o1437_6 : Obj := ⟨.type "tuple", none, (.seq ⟨[.str "self" 2401]⟩ 0), ⟨[]⟩⟩
noncomputable def o1438_6 : Obj := ⟨.type "tuple", none, (.seq ⟨[]⟩ 0), ⟨[]⟩⟩
noncomputable def o1439_6 : Obj := ⟨.none, none, (.func (fQ (inClass (topS 223) 2) "undo" "Desk.undo" 0 [] (.none) (.none) (.none) (.none) none (.none) (.none) 0)), ⟨[]⟩⟩
noncomputable def o1440_6 : Obj := ⟨.type "code", none, (.fields ⟨[.str "undo" 2398, .str "Desk.undo" 2399, .str "/claim/cut.py" 2400, .int 1115 0, .int 1 0, .int 0 0, .int 0 0, .int 3 0, .ref 1435, .bool true, .int 374 0, .ref 1436, .none, .ref 1437, .ref 1438, .ref 1439, .int 2402 0, .int 1115 0, .str "/claim/cut.py" 2403]⟩), ⟨[]⟩⟩
noncomputable def o1441_6 : Obj := ⟨.type "function", none, (.func (fQ (inClass (topS 223) 2) "undo" "Desk.undo" 3 [] (.none) (.none) (.none) (.str "frametongue.desks" 2279) none (.ref 1440) (.none) 0)), ⟨[]⟩⟩
noncomputable def o1442_6 : Obj := ⟨.type "tuple", none, (.seq ⟨[]⟩ 0), ⟨[]⟩⟩
noncomputable def o1443_6 : Obj := ⟨.none, none, (.fields ⟨[]⟩), ⟨[]⟩⟩
noncomputable def o1444_6 : Obj := ⟨.type "tuple", none, (.seq ⟨[.str "self" 2408]⟩ 0), ⟨[]⟩⟩
noncomputable def o1445_6 : Obj := ⟨.type "tuple", none, (.seq ⟨[]⟩ 0), ⟨[]⟩⟩
noncomputable def o1446_6 : Obj := ⟨.none, none, (.func (fQ (inClass (topS 223) 3) "text" "Desk.text" 0 [] (.none) (.none) (.none) (.none) none (.none) (.none) 0)), ⟨[]⟩⟩
noncomputable def o1447_6 : Obj := ⟨.type "code", none, (.fields ⟨[.str "text" 2405, .str "Desk.text" 2406, .str "/claim/cut.py" 2407, .int 1121 0, .int 1 0, .int 0 0, .int 0 0, .int 3 0, .ref 1442, .bool true, .int 374 0, .ref 1443, .none, .ref 1444, .ref 1445, .ref 1446, .int 2409 0, .int 1121 0, .str "/claim/cut.py" 2410]⟩), ⟨[]⟩⟩
noncomputable def o1448_6 : Obj := ⟨.type "function", none, (.func (fQ (inClass (topS 223) 3) "text" "Desk.text" 3 [] (.none) (.none) (.none) (.str "frametongue.desks" 2279) none (.ref 1447) (.none) 0)), ⟨[]⟩⟩
noncomputable def o1449_6 : Obj := ⟨.type "tuple", none, (.seq ⟨[]⟩ 0), ⟨[]⟩⟩
noncomputable def o1450_6 : Obj := ⟨.none, none, (.fields ⟨[]⟩), ⟨[]⟩⟩
noncomputable def o1451_6 : Obj := ⟨.type "tuple", none, (.seq ⟨[.str "self" 2415]⟩ 0), ⟨[]⟩⟩
noncomputable def o1452_6 : Obj := ⟨.type "tuple", none, (.seq ⟨[]⟩ 0), ⟨[]⟩⟩
noncomputable def o1453_6 : Obj := ⟨.none, none, (.func (fQ (inClass (topS 223) 4) "word" "Desk.word" 0 [] (.none) (.none) (.none) (.none) none (.none) (.none) 0)), ⟨[]⟩⟩
noncomputable def o1454_6 : Obj := ⟨.type "code", none, (.fields ⟨[.str "word" 2412, .str "Desk.word" 2413, .str "/claim/cut.py" 2414, .int 1124 0, .int 1 0, .int 0 0, .int 0 0, .int 3 0, .ref 1449, .bool true, .int 374 0, .ref 1450, .none, .ref 1451, .ref 1452, .ref 1453, .int 2416 0, .int 1124 0, .str "/claim/cut.py" 2417]⟩), ⟨[]⟩⟩
noncomputable def o1455_6 : Obj := ⟨.type "function", none, (.func (fQ (inClass (topS 223) 4) "word" "Desk.word" 3 [] (.none) (.none) (.none) (.str "frametongue.desks" 2279) none (.ref 1454) (.none) 0)), ⟨[]⟩⟩
noncomputable def o1456_6 : Obj := ⟨.type "tuple", none, (.seq ⟨[]⟩ 0), ⟨[]⟩⟩
noncomputable def o1457_6 : Obj := ⟨.none, none, (.fields ⟨[]⟩), ⟨[]⟩⟩
noncomputable def o1458_6 : Obj := ⟨.type "tuple", none, (.seq ⟨[.str "self" 2422]⟩ 0), ⟨[]⟩⟩
noncomputable def o1459_6 : Obj := ⟨.type "tuple", none, (.seq ⟨[]⟩ 0), ⟨[]⟩⟩
noncomputable def o1460_6 : Obj := ⟨.none, none, (.func (fQ (inClass (topS 223) 5) "fault" "Desk.fault" 0 [] (.none) (.none) (.none) (.none) none (.none) (.none) 0)), ⟨[]⟩⟩
noncomputable def o1461_6 : Obj := ⟨.type "code", none, (.fields ⟨[.str "fault" 2419, .str "Desk.fault" 2420, .str "/claim/cut.py" 2421, .int 1127 0, .int 1 0, .int 0 0, .int 0 0, .int 3 0, .ref 1456, .bool true, .int 374 0, .ref 1457, .none, .ref 1458, .ref 1459, .ref 1460, .int 2423 0, .int 1127 0, .str "/claim/cut.py" 2424]⟩), ⟨[]⟩⟩
noncomputable def o1462_6 : Obj := ⟨.type "function", none, (.func (fQ (inClass (topS 223) 5) "fault" "Desk.fault" 3 [] (.none) (.none) (.none) (.str "frametongue.desks" 2279) none (.ref 1461) (.none) 0)), ⟨[]⟩⟩
noncomputable def o1463_6 : Obj := ⟨.type "tuple", none, (.seq ⟨[]⟩ 0), ⟨[]⟩⟩
noncomputable def o1464_6 : Obj := ⟨.none, none, (.fields ⟨[]⟩), ⟨[]⟩⟩
noncomputable def o1465_6 : Obj := ⟨.type "tuple", none, (.seq ⟨[.str "self" 2429]⟩ 0), ⟨[]⟩⟩
noncomputable def o1466_6 : Obj := ⟨.type "tuple", none, (.seq ⟨[]⟩ 0), ⟨[]⟩⟩
noncomputable def o1467_6 : Obj := ⟨.none, none, (.func (fQ (inClass (topS 223) 6) "program" "Desk.program" 0 [] (.none) (.none) (.none) (.none) none (.none) (.none) 0)), ⟨[]⟩⟩
noncomputable def o1468_6 : Obj := ⟨.type "code", none, (.fields ⟨[.str "program" 2426, .str "Desk.program" 2427, .str "/claim/cut.py" 2428, .int 1130 0, .int 1 0, .int 0 0, .int 0 0, .int 3 0, .ref 1463, .bool true, .int 374 0, .ref 1464, .none, .ref 1465, .ref 1466, .ref 1467, .int 2430 0, .int 1130 0, .str "/claim/cut.py" 2431]⟩), ⟨[]⟩⟩
noncomputable def o1469_6 : Obj := ⟨.type "function", none, (.func (fQ (inClass (topS 223) 6) "program" "Desk.program" 3 [] (.none) (.none) (.none) (.str "frametongue.desks" 2279) none (.ref 1468) (.none) 0)), ⟨[]⟩⟩
noncomputable def o1470_6 : Obj := ⟨.type "tuple", none, (.seq ⟨[]⟩ 0), ⟨[]⟩⟩
noncomputable def o1471_6 : Obj := ⟨.none, none, (.fields ⟨[]⟩), ⟨[]⟩⟩
noncomputable def o1472_6 : Obj := ⟨.type "tuple", none, (.seq ⟨[.str "self" 2436]⟩ 0), ⟨[]⟩⟩
noncomputable def o1473_6 : Obj := ⟨.type "tuple", none, (.seq ⟨[]⟩ 0), ⟨[]⟩⟩
noncomputable def o1474_6 : Obj := ⟨.none, none, (.func (fQ (inClass (topS 223) 7) "fault_place" "Desk.fault_place" 0 [] (.none) (.none) (.none) (.none) none (.none) (.none) 0)), ⟨[]⟩⟩
noncomputable def o1475_6 : Obj := ⟨.type "code", none, (.fields ⟨[.str "fault_place" 2433, .str "Desk.fault_place" 2434, .str "/claim/cut.py" 2435, .int 1133 0, .int 1 0, .int 0 0, .int 0 0, .int 3 0, .ref 1470, .bool true, .int 374 0, .ref 1471, .none, .ref 1472, .ref 1473, .ref 1474, .int 2437 0, .int 1133 0, .str "/claim/cut.py" 2438]⟩), ⟨[]⟩⟩
noncomputable def o1476_6 : Obj := ⟨.type "function", none, (.func (fQ (inClass (topS 223) 7) "fault_place" "Desk.fault_place" 3 [] (.none) (.none) (.none) (.str "frametongue.desks" 2279) none (.ref 1475) (.none) 0)), ⟨[]⟩⟩
noncomputable def o1477_6 : Obj := ⟨.type "tuple", none, (.seq ⟨[]⟩ 0), ⟨[]⟩⟩
noncomputable def o1478_6 : Obj := ⟨.none, none, (.fields ⟨[]⟩), ⟨[]⟩⟩
noncomputable def o1479_6 : Obj := ⟨.type "tuple", none, (.seq ⟨[.str "self" 2443]⟩ 0), ⟨[]⟩⟩
noncomputable def o1480_6 : Obj := ⟨.type "tuple", none, (.seq ⟨[]⟩ 0), ⟨[]⟩⟩
noncomputable def o1481_6 : Obj := ⟨.none, none, (.func (fQ (inClass (topS 223) 8) "axis_stretches" "Desk.axis_stretches" 0 [] (.none) (.none) (.none) (.none) none (.none) (.none) 0)), ⟨[]⟩⟩
noncomputable def o1482_6 : Obj := ⟨.type "code", none, (.fields ⟨[.str "axis_stretches" 2440, .str "Desk.axis_stretches" 2441, .str "/claim/cut.py" 2442, .int 1136 0, .int 1 0, .int 0 0, .int 0 0, .int 3 0, .ref 1477, .bool true, .int 374 0, .ref 1478, .none, .ref 1479, .ref 1480, .ref 1481, .int 2444 0, .int 1136 0, .str "/claim/cut.py" 2445]⟩), ⟨[]⟩⟩
noncomputable def o1483_6 : Obj := ⟨.type "function", none, (.func (fQ (inClass (topS 223) 8) "axis_stretches" "Desk.axis_stretches" 3 [] (.none) (.none) (.none) (.str "frametongue.desks" 2279) none (.ref 1482) (.none) 0)), ⟨[]⟩⟩
noncomputable def o1484_6 : Obj := ⟨.type "tuple", none, (.seq ⟨[]⟩ 0), ⟨[]⟩⟩
noncomputable def o1485_6 : Obj := ⟨.none, none, (.fields ⟨[]⟩), ⟨[]⟩⟩
noncomputable def o1486_6 : Obj := ⟨.type "tuple", none, (.seq ⟨[.str "self" 2450, .str "other" 2451]⟩ 0), ⟨[]⟩⟩
noncomputable def o1487_6 : Obj := ⟨.type "tuple", none, (.seq ⟨[]⟩ 0), ⟨[]⟩⟩
noncomputable def o1488_6 : Obj := ⟨.none, none, (.func (fQ (inClass (topS 223) 9) "__eq__" "Desk.__eq__" 0 [] (.none) (.none) (.none) (.none) none (.none) (.none) 0)), ⟨[]⟩⟩
noncomputable def o1489_6 : Obj := ⟨.type "code", none, (.fields ⟨[.str "__eq__" 2447, .str "Desk.__eq__" 2448, .str "/claim/cut.py" 2449, .int 1139 0, .int 2 0, .int 0 0, .int 0 0, .int 3 0, .ref 1484, .bool true, .int 374 0, .ref 1485, .none, .ref 1486, .ref 1487, .ref 1488, .int 2452 0, .int 1139 0, .str "/claim/cut.py" 2453]⟩), ⟨[]⟩⟩
noncomputable def o1490_6 : Obj := ⟨.type "function", none, (.func (fQ (inClass (topS 223) 9) "__eq__" "Desk.__eq__" 3 [] (.none) (.none) (.none) (.str "frametongue.desks" 2279) none (.ref 1489) (.none) 0)), ⟨[]⟩⟩
noncomputable def o1491_6 : Obj := ⟨.type "tuple", none, (.seq ⟨[.str "begun" 2455, .str "deeds" 2456, .str "past" 2457, .str "rows" 2458]⟩ 0), ⟨[]⟩⟩
noncomputable def o1492_6 (P : Params) : Obj := ⟨.type "dict", none, (.dict ⟨[⟨PyData.keyHash P "__module__", .str "__module__" 2376, .str "frametongue.desks" 2279⟩, ⟨PyData.keyHash P "__firstlineno__", .str "__firstlineno__" 2380, .int 1097 2379⟩, ⟨PyData.keyHash P "__init__", .str "__init__" 2388, .ref 1427⟩, ⟨PyData.keyHash P "do", .str "do" 2397, .ref 1434⟩, ⟨PyData.keyHash P "undo", .str "undo" 2404, .ref 1441⟩, ⟨PyData.keyHash P "text", .str "text" 2411, .ref 1448⟩, ⟨PyData.keyHash P "word", .str "word" 2418, .ref 1455⟩, ⟨PyData.keyHash P "fault", .str "fault" 2425, .ref 1462⟩, ⟨PyData.keyHash P "program", .str "program" 2432, .ref 1469⟩, ⟨PyData.keyHash P "fault_place", .str "fault_place" 2439, .ref 1476⟩, ⟨PyData.keyHash P "axis_stretches", .str "axis_stretches" 2446, .ref 1483⟩, ⟨PyData.keyHash P "__eq__", .str "__eq__" 2454, .ref 1490⟩, ⟨PyData.keyHash P "__static_attributes__", .str "__static_attributes__" 2459, .ref 1491⟩, ⟨PyData.keyHash P "__dict__", .str "__dict__" 2461, .ref 1494⟩, ⟨PyData.keyHash P "__weakref__", .str "__weakref__" 2463, .ref 1495⟩, ⟨PyData.keyHash P "__doc__", .str "__doc__" 2464, .none⟩, ⟨PyData.keyHash P "__hash__", .str "__hash__" 2465, .none⟩]⟩ 5), ⟨[]⟩⟩
noncomputable def o1493_6 : Obj := ⟨.type "type", none, (.cls ⟨"Desk", [.type "object"], [.ref 1493, .type "object"], 1492, "Desk", true, [], [], false, none, false⟩), ⟨[none, none, (some (.str "Desk" 2369)), (some (.str "Desk" 2377)), (some (.builtin "object.__new__")), (some (.bool true))]⟩⟩
noncomputable def o1494_6 : Obj := ⟨.type "getset_descriptor", none, (.fields ⟨[.str "__dict__" 2460, .ref 1493, .builtin "function.__dict__", .builtin "function.__dict__#set"]⟩), ⟨[]⟩⟩
noncomputable def o1495_6 : Obj := ⟨.type "getset_descriptor", none, (.fields ⟨[.str "__weakref__" 2462, .ref 1493, .builtin "ExceptionGroup.__weakref__", .none]⟩), ⟨[]⟩⟩
noncomputable def o1496_6 : Obj := ⟨.type "super", none, (.fields ⟨[.ref 1493, .ref 1493, .ref 1493]⟩), ⟨[]⟩⟩
noncomputable def o1497_6 : Obj := ⟨.type "builtin_function_or_method", none, (.fields ⟨[.builtin "object.__init_subclass__", .ref 1493]⟩), ⟨[]⟩⟩
noncomputable def o1498_6 : Obj := ⟨.type "tuple", none, (.seq ⟨[]⟩ 0), ⟨[]⟩⟩
noncomputable def o1499_6 : Obj := ⟨.none, none, (.fields ⟨[]⟩), ⟨[]⟩⟩
noncomputable def o1500_6 : Obj := ⟨.type "tuple", none, (.seq ⟨[.str "cells" 2473, .str "at" 2474, .str "cell" 2475, .str "seed" 2476, .str "other" 2477]⟩ 0), ⟨[]⟩⟩
noncomputable def o1501_6 : Obj := ⟨.type "tuple", none, (.seq ⟨[]⟩ 0), ⟨[]⟩⟩
noncomputable def o1502_6 : Obj := ⟨.none, none, (.func (fQ (topS 225) "_law_purse" "_law_purse" 0 [] (.none) (.none) (.none) (.none) none (.none) (.none) 0)), ⟨[]⟩⟩
noncomputable def o1503_6 : Obj := ⟨.type "code", none, (.fields ⟨[.str "_law_purse" 2470, .str "_law_purse" 2471, .str "/claim/cut.py" 2472, .int 1142 0, .int 2 0, .int 0 0, .int 0 0, .int 3 0, .ref 1498, .bool true, .int 374 0, .ref 1499, .none, .ref 1500, .ref 1501, .ref 1502, .int 2478 0, .int 1142 0, .str "/claim/cut.py" 2479]⟩), ⟨[]⟩⟩
noncomputable def o1504_6 : Obj := ⟨.type "function", none, (.func (fQ (topS 225) "_law_purse" "_law_purse" 3 [] (.none) (.none) (.none) (.str "law_frametongue_k11_desks_undone_and_equal" 2468) none (.ref 1503) (.none) 0)), ⟨[]⟩⟩
noncomputable def o1505_6 : Obj := ⟨.type "tuple", none, (.seq ⟨[]⟩ 0), ⟨[]⟩⟩
noncomputable def o1506_6 : Obj := ⟨.none, none, (.fields ⟨[]⟩), ⟨[]⟩⟩
noncomputable def o1507_6 : Obj := ⟨.type "tuple", none, (.seq ⟨[.str "draws" 2484, .str "many" 2485, .str "figures" 2486, .str "seed" 2487, .str "turn" 2488]⟩ 0), ⟨[]⟩⟩
noncomputable def o1508_6 : Obj := ⟨.type "tuple", none, (.seq ⟨[]⟩ 0), ⟨[]⟩⟩
noncomputable def o1509_6 : Obj := ⟨.none, none, (.func (fQ (topS 226) "_law_take" "_law_take" 0 [] (.none) (.none) (.none) (.none) none (.none) (.none) 0)), ⟨[]⟩⟩
noncomputable def o1510_6 : Obj := ⟨.type "code", none, (.fields ⟨[.str "_law_take" 2481, .str "_law_take" 2482, .str "/claim/cut.py" 2483, .int 1148 0, .int 2 0, .int 0 0, .int 0 0, .int 3 0, .ref 1505, .bool true, .int 374 0, .ref 1506, .none, .ref 1507, .ref 1508, .ref 1509, .int 2489 0, .int 1148 0, .str "/claim/cut.py" 2490]⟩), ⟨[]⟩⟩
noncomputable def o1511_6 : Obj := ⟨.type "function", none, (.func (fQ (topS 226) "_law_take" "_law_take" 3 [] (.none) (.none) (.none) (.str "law_frametongue_k11_desks_undone_and_equal" 2468) none (.ref 1510) (.none) 0)), ⟨[]⟩⟩
noncomputable def o1512_6 : Obj := ⟨.type "tuple", none, (.seq ⟨[]⟩ 0), ⟨[]⟩⟩
noncomputable def o1513_6 : Obj := ⟨.none, none, (.fields ⟨[]⟩), ⟨[]⟩⟩
noncomputable def o1514_6 : Obj := ⟨.type "tuple", none, (.seq ⟨[.str "draws" 2495, .str "some" 2496]⟩ 0), ⟨[]⟩⟩
noncomputable def o1515_6 : Obj := ⟨.type "tuple", none, (.seq ⟨[]⟩ 0), ⟨[]⟩⟩
noncomputable def o1516_6 : Obj := ⟨.none, none, (.func (fQ (topS 227) "_law_pick" "_law_pick" 0 [] (.none) (.none) (.none) (.none) none (.none) (.none) 0)), ⟨[]⟩⟩
noncomputable def o1517_6 : Obj := ⟨.type "code", none, (.fields ⟨[.str "_law_pick" 2492, .str "_law_pick" 2493, .str "/claim/cut.py" 2494, .int 1156 0, .int 2 0, .int 0 0, .int 0 0, .int 3 0, .ref 1512, .bool true, .int 374 0, .ref 1513, .none, .ref 1514, .ref 1515, .ref 1516, .int 2497 0, .int 1156 0, .str "/claim/cut.py" 2498]⟩), ⟨[]⟩⟩
noncomputable def o1518_6 : Obj := ⟨.type "function", none, (.func (fQ (topS 227) "_law_pick" "_law_pick" 3 [] (.none) (.none) (.none) (.str "law_frametongue_k11_desks_undone_and_equal" 2468) none (.ref 1517) (.none) 0)), ⟨[]⟩⟩
noncomputable def o1519_6 : Obj := ⟨.type "tuple", none, (.seq ⟨[]⟩ 0), ⟨[]⟩⟩
noncomputable def o1520_6 : Obj := ⟨.none, none, (.fields ⟨[]⟩), ⟨[]⟩⟩
noncomputable def o1521_6 : Obj := ⟨.type "tuple", none, (.seq ⟨[.str "told" 2503, .str "due" 2504]⟩ 0), ⟨[]⟩⟩
noncomputable def o1522_6 : Obj := ⟨.type "tuple", none, (.seq ⟨[]⟩ 0), ⟨[]⟩⟩
noncomputable def o1523_6 : Obj := ⟨.none, none, (.func (fQ (topS 228) "_law_same" "_law_same" 0 [] (.none) (.none) (.none) (.none) none (.none) (.none) 0)), ⟨[]⟩⟩
noncomputable def o1524_6 : Obj := ⟨.type "code", none, (.fields ⟨[.str "_law_same" 2500, .str "_law_same" 2501, .str "/claim/cut.py" 2502, .int 1158 0, .int 2 0, .int 0 0, .int 0 0, .int 3 0, .ref 1519, .bool true, .int 374 0, .ref 1520, .none, .ref 1521, .ref 1522, .ref 1523, .int 2505 0, .int 1158 0, .str "/claim/cut.py" 2506]⟩), ⟨[]⟩⟩
noncomputable def o1525_6 : Obj := ⟨.type "function", none, (.func (fQ (topS 228) "_law_same" "_law_same" 3 [] (.none) (.none) (.none) (.str "law_frametongue_k11_desks_undone_and_equal" 2468) none (.ref 1524) (.none) 0)), ⟨[]⟩⟩
noncomputable def o1526_6 : Obj := ⟨.type "tuple", none, (.seq ⟨[]⟩ 0), ⟨[]⟩⟩
noncomputable def o1527_6 : Obj := ⟨.none, none, (.fields ⟨[]⟩), ⟨[]⟩⟩
noncomputable def o1528_6 : Obj := ⟨.type "tuple", none, (.seq ⟨[.str "rows" 2511, .str "deed" 2512]⟩ 0), ⟨[]⟩⟩
noncomputable def o1529_6 : Obj := ⟨.type "tuple", none, (.seq ⟨[]⟩ 0), ⟨[]⟩⟩
noncomputable def o1530_6 : Obj := ⟨.none, none, (.func (fQ (topS 229) "_law_move" "_law_move" 0 [] (.none) (.none) (.none) (.none) none (.none) (.none) 0)), ⟨[]⟩⟩
noncomputable def o1531_6 : Obj := ⟨.type "code", none, (.fields ⟨[.str "_law_move" 2508, .str "_law_move" 2509, .str "/claim/cut.py" 2510, .int 1160 0, .int 2 0, .int 0 0, .int 0 0, .int 3 0, .ref 1526, .bool true, .int 374 0, .ref 1527, .none, .ref 1528, .ref 1529, .ref 1530, .int 2513 0, .int 1160 0, .str "/claim/cut.py" 2514]⟩), ⟨[]⟩⟩
noncomputable def o1532_6 : Obj := ⟨.type "function", none, (.func (fQ (topS 229) "_law_move" "_law_move" 3 [] (.none) (.none) (.none) (.str "law_frametongue_k11_desks_undone_and_equal" 2468) none (.ref 1531) (.none) 0)), ⟨[]⟩⟩
noncomputable def o1533_6 : Obj := ⟨.type "tuple", none, (.seq ⟨[]⟩ 0), ⟨[]⟩⟩
noncomputable def o1534_6 : Obj := ⟨.none, none, (.fields ⟨[]⟩), ⟨[]⟩⟩
noncomputable def o1535_6 : Obj := ⟨.type "tuple", none, (.seq ⟨[.str "act" 2519, .str "e" 2520]⟩ 0), ⟨[]⟩⟩
noncomputable def o1536_6 : Obj := ⟨.type "tuple", none, (.seq ⟨[]⟩ 0), ⟨[]⟩⟩
noncomputable def o1537_6 : Obj := ⟨.none, none, (.func (fQ (topS 230) "_law_said" "_law_said" 0 [] (.none) (.none) (.none) (.none) none (.none) (.none) 0)), ⟨[]⟩⟩
noncomputable def o1538_6 : Obj := ⟨.type "code", none, (.fields ⟨[.str "_law_said" 2516, .str "_law_said" 2517, .str "/claim/cut.py" 2518, .int 1170 0, .int 1 0, .int 0 0, .int 0 0, .int 3 0, .ref 1533, .bool true, .int 374 0, .ref 1534, .none, .ref 1535, .ref 1536, .ref 1537, .int 2521 0, .int 1170 0, .str "/claim/cut.py" 2522]⟩), ⟨[]⟩⟩
noncomputable def o1539_6 : Obj := ⟨.type "function", none, (.func (fQ (topS 230) "_law_said" "_law_said" 3 [] (.none) (.none) (.none) (.str "law_frametongue_k11_desks_undone_and_equal" 2468) none (.ref 1538) (.none) 0)), ⟨[]⟩⟩
noncomputable def o1540_6 : Obj := ⟨.type "tuple", none, (.seq ⟨[]⟩ 0), ⟨[]⟩⟩
noncomputable def o1541_6 : Obj := ⟨.none, none, (.fields ⟨[]⟩), ⟨[]⟩⟩
noncomputable def o1542_6 : Obj := ⟨.type "tuple", none, (.seq ⟨[.str "desk" 2527, .str "rows" 2528, .str "deeds_here" 2529]⟩ 0), ⟨[]⟩⟩
noncomputable def o1543_6 : Obj := ⟨.type "tuple", none, (.seq ⟨[]⟩ 0), ⟨[]⟩⟩
noncomputable def o1544_6 : Obj := ⟨.none, none, (.func (fQ (topS 231) "_law_is_so" "_law_is_so" 0 [] (.none) (.none) (.none) (.none) none (.none) (.none) 0)), ⟨[]⟩⟩
noncomputable def o1545_6 : Obj := ⟨.type "code", none, (.fields ⟨[.str "_law_is_so" 2524, .str "_law_is_so" 2525, .str "/claim/cut.py" 2526, .int 1177 0, .int 3 0, .int 0 0, .int 0 0, .int 3 0, .ref 1540, .bool true, .int 374 0, .ref 1541, .none, .ref 1542, .ref 1543, .ref 1544, .int 2530 0, .int 1177 0, .str "/claim/cut.py" 2531]⟩), ⟨[]⟩⟩
noncomputable def o1546_6 : Obj := ⟨.type "function", none, (.func (fQ (topS 231) "_law_is_so" "_law_is_so" 3 [] (.none) (.none) (.none) (.str "law_frametongue_k11_desks_undone_and_equal" 2468) none (.ref 1545) (.none) 0)), ⟨[]⟩⟩
noncomputable def o1547_6 : Obj := ⟨.type "tuple", none, (.seq ⟨[]⟩ 0), ⟨[]⟩⟩
noncomputable def o1548_6 : Obj := ⟨.none, none, (.fields ⟨[]⟩), ⟨[]⟩⟩
noncomputable def o1549_6 : Obj := ⟨.type "tuple", none, (.seq ⟨[.str "draws" 2536, .str "some" 2537, .str "found" 2538, .str "lap" 2539, .str "a" 2540, .str "b" 2541, .str "c" 2542, .str "n" 2543, .str "f" 2544, .str "e" 2545, .str "rows" 2546, .str "more" 2547]⟩ 0), ⟨[]⟩⟩
noncomputable def o1550_6 : Obj := ⟨.type "tuple", none, (.seq ⟨[]⟩ 0), ⟨[]⟩⟩
noncomputable def o1551_6 : Obj := ⟨.none, none, (.func (fQ (topS 232) "_law_page" "_law_page" 0 [] (.none) (.none) (.none) (.none) none (.none) (.none) 0)), ⟨[]⟩⟩
noncomputable def o1552_6 : Obj := ⟨.type "code", none, (.fields ⟨[.str "_law_page" 2533, .str "_law_page" 2534, .str "/claim/cut.py" 2535, .int 1179 0, .int 1 0, .int 0 0, .int 0 0, .int 3 0, .ref 1547, .bool true, .int 374 0, .ref 1548, .none, .ref 1549, .ref 1550, .ref 1551, .int 2548 0, .int 1179 0, .str "/claim/cut.py" 2549]⟩), ⟨[]⟩⟩
noncomputable def o1553_6 : Obj := ⟨.type "function", none, (.func (fQ (topS 232) "_law_page" "_law_page" 3 [] (.none) (.none) (.none) (.str "law_frametongue_k11_desks_undone_and_equal" 2468) none (.ref 1552) (.none) 0)), ⟨[]⟩⟩
noncomputable def o1554_6 : Obj := ⟨.type "tuple", none, (.seq ⟨[]⟩ 0), ⟨[]⟩⟩
noncomputable def o1555_6 : Obj := ⟨.none, none, (.fields ⟨[]⟩), ⟨[]⟩⟩
noncomputable def o1556_6 : Obj := ⟨.type "tuple", none, (.seq ⟨[.str "draws" 2554, .str "rows" 2555, .str "more" 2556, .str "way" 2557, .str "at" 2558, .str "row" 2559]⟩ 0), ⟨[]⟩⟩
noncomputable def o1557_6 : Obj := ⟨.type "tuple", none, (.seq ⟨[]⟩ 0), ⟨[]⟩⟩
noncomputable def o1558_6 : Obj := ⟨.none, none, (.func (fQ (topS 233) "_law_deed" "_law_deed" 0 [] (.none) (.none) (.none) (.none) none (.none) (.none) 0)), ⟨[]⟩⟩
noncomputable def o1559_6 : Obj := ⟨.type "code", none, (.fields ⟨[.str "_law_deed" 2551, .str "_law_deed" 2552, .str "/claim/cut.py" 2553, .int 1192 0, .int 3 0, .int 0 0, .int 0 0, .int 3 0, .ref 1554, .bool true, .int 374 0, .ref 1555, .none, .ref 1556, .ref 1557, .ref 1558, .int 2560 0, .int 1192 0, .str "/claim/cut.py" 2561]⟩), ⟨[]⟩⟩
noncomputable def o1560_6 : Obj := ⟨.type "function", none, (.func (fQ (topS 233) "_law_deed" "_law_deed" 3 [] (.none) (.none) (.none) (.str "law_frametongue_k11_desks_undone_and_equal" 2468) none (.ref 1559) (.none) 0)), ⟨[]⟩⟩
noncomputable def o1561_6 : Obj := ⟨.type "tuple", none, (.seq ⟨[]⟩ 0), ⟨[]⟩⟩
noncomputable def o1562_6 : Obj := ⟨.none, none, (.fields ⟨[]⟩), ⟨[]⟩⟩
noncomputable def o1563_6 : Obj := ⟨.type "tuple", none, (.seq ⟨[.str "desk" 2566]⟩ 0), ⟨[]⟩⟩
noncomputable def o1564_6 : Obj := ⟨.type "tuple", none, (.seq ⟨[]⟩ 0), ⟨[]⟩⟩
noncomputable def o1565_6 : Obj := ⟨.none, none, (.func (fQ (topS 234) "_law_is_empty" "_law_is_empty" 0 [] (.none) (.none) (.none) (.none) none (.none) (.none) 0)), ⟨[]⟩⟩
noncomputable def o1566_6 : Obj := ⟨.type "code", none, (.fields ⟨[.str "_law_is_empty" 2563, .str "_law_is_empty" 2564, .str "/claim/cut.py" 2565, .int 1196 0, .int 1 0, .int 0 0, .int 0 0, .int 3 0, .ref 1561, .bool true, .int 374 0, .ref 1562, .none, .ref 1563, .ref 1564, .ref 1565, .int 2567 0, .int 1196 0, .str "/claim/cut.py" 2568]⟩), ⟨[]⟩⟩
noncomputable def o1567_6 : Obj := ⟨.type "function", none, (.func (fQ (topS 234) "_law_is_empty" "_law_is_empty" 3 [] (.none) (.none) (.none) (.str "law_frametongue_k11_desks_undone_and_equal" 2468) none (.ref 1566) (.none) 0)), ⟨[]⟩⟩
noncomputable def o1568_6 : Obj := ⟨.type "tuple", none, (.seq ⟨[]⟩ 0), ⟨[]⟩⟩
noncomputable def o1569_6 : Obj := ⟨.none, none, (.fields ⟨[]⟩), ⟨[]⟩⟩
noncomputable def o1570_6 : Obj := ⟨.type "tuple", none, (.seq ⟨[.str "draws" 2573, .str "first" 2574, .str "more" 2575, .str "desk" 2576, .str "states" 2577, .str "deeds_here" 2578, .str "turn" 2579, .str "found" 2580]⟩ 0), ⟨[]⟩⟩
noncomputable def o1571_6 : Obj := ⟨.type "tuple", none, (.seq ⟨[.str "desk" 2581, .str "deed" 2582]⟩ 0), ⟨[]⟩⟩
noncomputable def o1572_6 : Obj := ⟨.none, none, (.func (fQ (topS 235) "_law_run" "_law_run" 0 [] (.none) (.none) (.none) (.none) none (.none) (.none) 0)), ⟨[]⟩⟩
noncomputable def o1573_6 : Obj := ⟨.type "code", none, (.fields ⟨[.str "_law_run" 2570, .str "_law_run" 2571, .str "/claim/cut.py" 2572, .int 1202 0, .int 4 0, .int 0 0, .int 0 0, .int 3 0, .ref 1568, .bool true, .int 374 0, .ref 1569, .none, .ref 1570, .ref 1571, .ref 1572, .int 2583 0, .int 1202 0, .str "/claim/cut.py" 2584]⟩), ⟨[]⟩⟩
noncomputable def o1574_6 : Obj := ⟨.type "function", none, (.func (fQ (topS 235) "_law_run" "_law_run" 3 [] (.none) (.none) (.none) (.str "law_frametongue_k11_desks_undone_and_equal" 2468) none (.ref 1573) (.none) 0)), ⟨[]⟩⟩
noncomputable def o1575_6 : Obj := ⟨.type "tuple", none, (.seq ⟨[]⟩ 0), ⟨[]⟩⟩
noncomputable def o1576_6 : Obj := ⟨.none, none, (.fields ⟨[]⟩), ⟨[]⟩⟩
noncomputable def o1577_6 : Obj := ⟨.none, none, (.func (fQ (topS 236) "_law_are_equal" "_law_are_equal" 0 [] (.none) (.none) (.none) (.none) none (.none) (.none) 0)), ⟨[]⟩⟩
noncomputable def o1578_6 : Obj := ⟨.type "code", none, (.fields ⟨[.str "_law_are_equal" 2586, .str "_law_are_equal" 2587, .str "/claim/cut.py" 2588, .int 1221 0, .int 2 0, .int 0 0, .int 0 0, .int 3 0, .ref 1575, .bool true, .int 374 0, .ref 1576, .none, .none, .none, .ref 1577, .int 2589 0, .int 1221 0, .str "/claim/cut.py" 2590]⟩), ⟨[]⟩⟩
noncomputable def o1579_6 : Obj := ⟨.type "function", none, (.func (fQ (topS 236) "_law_are_equal" "_law_are_equal" 3 [] (.none) (.none) (.none) (.str "law_frametongue_k11_desks_undone_and_equal" 2468) none (.ref 1578) (.none) 0)), ⟨[]⟩⟩
noncomputable def o1580_6 : Obj := ⟨.type "tuple", none, (.seq ⟨[]⟩ 0), ⟨[]⟩⟩
noncomputable def o1581_6 : Obj := ⟨.none, none, (.fields ⟨[]⟩), ⟨[]⟩⟩
noncomputable def o1582_6 : Obj := ⟨.type "tuple", none, (.seq ⟨[.str "odd" 2595, .str "index" 2596, .str "e" 2597]⟩ 0), ⟨[]⟩⟩
noncomputable def o1583_6 : Obj := ⟨.type "tuple", none, (.seq ⟨[]⟩ 0), ⟨[]⟩⟩
noncomputable def o1584_6 : Obj := ⟨.none, none, (.func (fQ (topS 237) "_law_is_refused" "_law_is_refused" 0 [] (.none) (.none) (.none) (.none) none (.none) (.none) 0)), ⟨[]⟩⟩
noncomputable def o1585_6 : Obj := ⟨.type "code", none, (.fields ⟨[.str "_law_is_refused" 2592, .str "_law_is_refused" 2593, .str "/claim/cut.py" 2594, .int 1237 0, .int 2 0, .int 0 0, .int 0 0, .int 3 0, .ref 1580, .bool true, .int 374 0, .ref 1581, .none, .ref 1582, .ref 1583, .ref 1584, .int 2598 0, .int 1237 0, .str "/claim/cut.py" 2599]⟩), ⟨[]⟩⟩
noncomputable def o1586_6 : Obj := ⟨.type "function", none, (.func (fQ (topS 237) "_law_is_refused" "_law_is_refused" 3 [] (.none) (.none) (.none) (.str "law_frametongue_k11_desks_undone_and_equal" 2468) none (.ref 1585) (.none) 0)), ⟨[]⟩⟩
noncomputable def o1587_6 : Obj := ⟨.type "tuple", none, (.seq ⟨[]⟩ 0), ⟨[]⟩⟩
noncomputable def o1588_6 : Obj := ⟨.none, none, (.fields ⟨[]⟩), ⟨[]⟩⟩
noncomputable def o1589_6 : Obj := ⟨.none, none, (.func (fQ (topS 238) "_law_right" "_law_right" 0 [] (.none) (.none) (.none) (.none) none (.none) (.none) 0)), ⟨[]⟩⟩
noncomputable def o1590_6 : Obj := ⟨.type "code", none, (.fields ⟨[.str "_law_right" 2601, .str "_law_right" 2602, .str "/claim/cut.py" 2603, .int 1243 0, .int 1 0, .int 0 0, .int 0 0, .int 3 0, .ref 1587, .bool true, .int 374 0, .ref 1588, .none, .none, .none, .ref 1589, .int 2604 0, .int 1243 0, .str "/claim/cut.py" 2605]⟩), ⟨[]⟩⟩
noncomputable def o1591_6 : Obj := ⟨.type "function", none, (.func (fQ (topS 238) "_law_right" "_law_right" 3 [] (.none) (.none) (.none) (.str "law_frametongue_k11_desks_undone_and_equal" 2468) none (.ref 1590) (.none) 0)), ⟨[]⟩⟩
noncomputable def o1592_6 : Obj := ⟨.type "tuple", none, (.seq ⟨[]⟩ 0), ⟨[]⟩⟩
noncomputable def o1593_6 : Obj := ⟨.none, none, (.fields ⟨[]⟩), ⟨[]⟩⟩
noncomputable def o1594_6 : Obj := ⟨.none, none, (.func (fQ (topS 239) "law" "law" 0 [] (.none) (.none) (.none) (.none) none (.none) (.none) 0)), ⟨[]⟩⟩
noncomputable def o1595_6 : Obj := ⟨.type "code", none, (.fields ⟨[.str "law" 2607, .str "law" 2608, .str "/claim/cut.py" 2609, .int 1262 0, .int 1 0, .int 0 0, .int 0 0, .int 3 0, .ref 1592, .bool true, .int 374 0, .ref 1593, .none, .none, .none, .ref 1594, .int 2610 0, .int 1262 0, .str "/claim/cut.py" 2611]⟩), ⟨[]⟩⟩
noncomputable def o1596_6 : Obj := ⟨.type "function", none, (.func (fQ (topS 239) "law" "law" 3 [] (.none) (.none) (.none) (.str "law_frametongue_k11_desks_undone_and_equal" 2468) none (.ref 1595) (.none) 0)), ⟨[]⟩⟩
noncomputable def t6 (P : Params) : BT := (.node (o0_0 P) (.node (o1_0 P) (.node (o3_6 P) (.node o7_0 (.node (o15_0 P) (.node (o31_0 P) (.node o63_2 (.node o127_2 (.node o255_2 (.node o511_3 (.node o1023_5 .nil .nil) (.node o1535_6 .nil .nil)) (.node o767_4 (.node o1279_5 .nil .nil) .nil)) (.node o383_3 (.node o639_4 (.node o1151_5 .nil .nil) .nil) (.node o895_4 (.node o1407_6 .nil .nil) .nil))) (.node o191_2 (.node o319_3 (.node o575_3 (.node o1087_5 .nil .nil) .nil) (.node o831_4 (.node o1343_6 .nil .nil) .nil)) (.node o447_3 (.node o703_4 (.node o1215_5 .nil .nil) .nil) (.node o959_4 (.node o1471_6 .nil .nil) .nil)))) (.node o95_2 (.node o159_2 (.node o287_2 (.node o543_3 (.node o1055_5 .nil .nil) (.node o1567_6 .nil .nil)) (.node o799_4 (.node (o1311_6 P) .nil .nil) .nil)) (.node o415_3 (.node o671_4 (.node o1183_5 .nil .nil) .nil) (.node o927_4 (.node o1439_6 .nil .nil) .nil))) (.node o223_2 (.node o351_3 (.node o607_3 (.node o1119_5 .nil .nil) .nil) (.node o863_4 (.node o1375_6 .nil .nil) .nil)) (.node o479_3 (.node o735_4 (.node o1247_5 .nil .nil) .nil) (.node o991_5 (.node o1503_6 .nil .nil) .nil))))) (.node o47_2 (.node o79_2 (.node o143_2 (.node o271_2 (.node o527_3 (.node o1039_5 .nil .nil) (.node o1551_6 .nil .nil)) (.node o783_4 (.node o1295_6 .nil .nil) .nil)) (.node o399_3 (.node o655_4 (.node o1167_5 .nil .nil) .nil) (.node o911_4 (.node o1423_6 .nil .nil) .nil))) (.node o207_2 (.node o335_3 (.node o591_3 (.node o1103_5 .nil .nil) .nil) (.node o847_4 (.node o1359_6 .nil .nil) .nil)) (.node o463_3 (.node o719_4 (.node o1231_5 .nil .nil) .nil) (.node o975_5 (.node o1487_6 .nil .nil) .nil)))) (.node o111_2 (.node o175_2 (.node o303_3 (.node o559_3 (.node o1071_5 .nil .nil) (.node o1583_6 .nil .nil)) (.node o815_4 (.node o1327_6 .nil .nil) .nil)) (.node o431_3 (.node o687_4 (.node o1199_5 .nil .nil) .nil) (.node o943_4 (.node o1455_6 .nil .nil) .nil))) (.node o239_2 (.node o367_3 (.node o623_4 (.node o1135_5 .nil .nil) .nil) (.node o879_4 (.node o1391_6 .nil .nil) .nil)) (.node o495_3 (.node o751_4 (.node o1263_5 .nil .nil) .nil) (.node o1007_5 (.node o1519_6 .nil .nil) .nil)))))) (.node o23_0 (.node o39_1 (.node o71_2 (.node o135_2 (.node o263_2 (.node o519_3 (.node o1031_5 .nil .nil) (.node o1543_6 .nil .nil)) (.node o775_4 (.node o1287_6 .nil .nil) .nil)) (.node o391_3 (.node o647_4 (.node o1159_5 .nil .nil) .nil) (.node o903_4 (.node o1415_6 .nil .nil) .nil))) (.node o199_2 (.node o327_3 (.node o583_3 (.node o1095_5 .nil .nil) .nil) (.node o839_4 (.node o1351_6 .nil .nil) .nil)) (.node o455_3 (.node o711_4 (.node o1223_5 .nil .nil) .nil) (.node o967_5 (.node o1479_6 .nil .nil) .nil)))) (.node o103_2 (.node o167_2 (.node o295_3 (.node o551_3 (.node o1063_5 .nil .nil) (.node o1575_6 .nil .nil)) (.node o807_4 (.node o1319_6 .nil .nil) .nil)) (.node o423_3 (.node o679_4 (.node o1191_5 .nil .nil) .nil) (.node o935_4 (.node o1447_6 .nil .nil) .nil))) (.node o231_2 (.node o359_3 (.node o615_4 (.node o1127_5 .nil .nil) .nil) (.node o871_4 (.node o1383_6 .nil .nil) .nil)) (.node o487_3 (.node o743_4 (.node o1255_5 .nil .nil) .nil) (.node o999_5 (.node o1511_6 .nil .nil) .nil))))) (.node o55_2 (.node o87_2 (.node o151_2 (.node o279_2 (.node o535_3 (.node o1047_5 .nil .nil) (.node o1559_6 .nil .nil)) (.node o791_4 (.node o1303_6 .nil .nil) .nil)) (.node o407_3 (.node o663_4 (.node o1175_5 .nil .nil) .nil) (.node o919_4 (.node o1431_6 .nil .nil) .nil))) (.node o215_2 (.node o343_3 (.node o599_3 (.node o1111_5 .nil .nil) .nil) (.node o855_4 (.node o1367_6 .nil .nil) .nil)) (.node o471_3 (.node o727_4 (.node o1239_5 .nil .nil) .nil) (.node o983_5 (.node o1495_6 .nil .nil) .nil)))) (.node o119_2 (.node o183_2 (.node o311_3 (.node o567_3 (.node o1079_5 .nil .nil) (.node o1591_6 .nil .nil)) (.node o823_4 (.node o1335_6 .nil .nil) .nil)) (.node o439_3 (.node o695_4 (.node (o1207_5 P) .nil .nil) .nil) (.node o951_4 (.node o1463_6 .nil .nil) .nil))) (.node o247_2 (.node o375_3 (.node o631_4 (.node o1143_5 .nil .nil) .nil) (.node o887_4 (.node o1399_6 .nil .nil) .nil)) (.node o503_3 (.node o759_4 (.node o1271_5 .nil .nil) .nil) (.node o1015_5 (.node o1527_6 .nil .nil) .nil))))))) (.node o11_0 (.node o19_0 (.node o35_0 (.node o67_2 (.node o131_2 (.node o259_2 (.node o515_3 (.node o1027_5 .nil .nil) (.node o1539_6 .nil .nil)) (.node o771_4 (.node o1283_6 .nil .nil) .nil)) (.node o387_3 (.node o643_4 (.node o1155_5 .nil .nil) .nil) (.node o899_4 (.node o1411_6 .nil .nil) .nil))) (.node o195_2 (.node o323_3 (.node o579_3 (.node o1091_5 .nil .nil) .nil) (.node o835_4 (.node o1347_6 .nil .nil) .nil)) (.node o451_3 (.node o707_4 (.node o1219_5 .nil .nil) .nil) (.node o963_5 (.node o1475_6 .nil .nil) .nil)))) (.node o99_2 (.node o163_2 (.node o291_2 (.node o547_3 (.node o1059_5 .nil .nil) (.node o1571_6 .nil .nil)) (.node o803_4 (.node o1315_6 .nil .nil) .nil)) (.node o419_3 (.node o675_4 (.node o1187_5 .nil .nil) .nil) (.node o931_4 (.node o1443_6 .nil .nil) .nil))) (.node o227_2 (.node o355_3 (.node o611_4 (.node o1123_5 .nil .nil) .nil) (.node o867_4 (.node o1379_6 .nil .nil) .nil)) (.node o483_3 (.node o739_4 (.node o1251_5 .nil .nil) .nil) (.node o995_5 (.node o1507_6 .nil .nil) .nil))))) (.node o51_2 (.node o83_2 (.node o147_2 (.node o275_2 (.node o531_3 (.node o1043_5 .nil .nil) (.node o1555_6 .nil .nil)) (.node o787_4 (.node o1299_6 .nil .nil) .nil)) (.node o403_3 (.node o659_4 (.node o1171_5 .nil .nil) .nil) (.node o915_4 (.node o1427_6 .nil .nil) .nil))) (.node o211_2 (.node o339_3 (.node o595_3 (.node o1107_5 .nil .nil) .nil) (.node o851_4 (.node o1363_6 .nil .nil) .nil)) (.node o467_3 (.node o723_4 (.node o1235_5 .nil .nil) .nil) (.node o979_5 (.node o1491_6 .nil .nil) .nil)))) (.node o115_2 (.node o179_2 (.node o307_3 (.node o563_3 (.node o1075_5 .nil .nil) (.node o1587_6 .nil .nil)) (.node o819_4 (.node o1331_6 .nil .nil) .nil)) (.node o435_3 (.node o691_4 (.node o1203_5 .nil .nil) .nil) (.node o947_4 (.node o1459_6 .nil .nil) .nil))) (.node o243_2 (.node o371_3 (.node o627_4 (.node o1139_5 .nil .nil) .nil) (.node o883_4 (.node o1395_6 .nil .nil) .nil)) (.node o499_3 (.node o755_4 (.node o1267_5 .nil .nil) .nil) (.node o1011_5 (.node o1523_6 .nil .nil) .nil)))))) (.node o27_0 (.node o43_2 (.node o75_2 (.node o139_2 (.node o267_2 (.node o523_3 (.node o1035_5 .nil .nil) (.node o1547_6 .nil .nil)) (.node o779_4 (.node o1291_6 .nil .nil) .nil)) (.node o395_3 (.node o651_4 (.node o1163_5 .nil .nil) .nil) (.node o907_4 (.node o1419_6 .nil .nil) .nil))) (.node o203_2 (.node o331_3 (.node o587_3 (.node o1099_5 .nil .nil) .nil) (.node o843_4 (.node o1355_6 .nil .nil) .nil)) (.node o459_3 (.node o715_4 (.node o1227_5 .nil .nil) .nil) (.node o971_5 (.node o1483_6 .nil .nil) .nil)))) (.node (o107_2 P) (.node o171_2 (.node o299_3 (.node o555_3 (.node o1067_5 .nil .nil) (.node o1579_6 .nil .nil)) (.node o811_4 (.node o1323_6 .nil .nil) .nil)) (.node o427_3 (.node o683_4 (.node o1195_5 .nil .nil) .nil) (.node o939_4 (.node o1451_6 .nil .nil) .nil))) (.node o235_2 (.node o363_3 (.node o619_4 (.node o1131_5 .nil .nil) .nil) (.node o875_4 (.node o1387_6 .nil .nil) .nil)) (.node o491_3 (.node o747_4 (.node o1259_5 .nil .nil) .nil) (.node o1003_5 (.node o1515_6 .nil .nil) .nil))))) (.node o59_2 (.node o91_2 (.node o155_2 (.node o283_2 (.node o539_3 (.node o1051_5 .nil .nil) (.node o1563_6 .nil .nil)) (.node o795_4 (.node o1307_6 .nil .nil) .nil)) (.node o411_3 (.node o667_4 (.node o1179_5 .nil .nil) .nil) (.node o923_4 (.node o1435_6 .nil .nil) .nil))) (.node o219_2 (.node o347_3 (.node o603_3 (.node o1115_5 .nil .nil) .nil) (.node o859_4 (.node o1371_6 .nil .nil) .nil)) (.node o475_3 (.node o731_4 (.node o1243_5 .nil .nil) .nil) (.node o987_5 (.node o1499_6 .nil .nil) .nil)))) (.node o123_2 (.node o187_2 (.node o315_3 (.node o571_3 (.node o1083_5 .nil .nil) (.node o1595_6 .nil .nil)) (.node o827_4 (.node o1339_6 .nil .nil) .nil)) (.node o443_3 (.node o699_4 (.node o1211_5 .nil .nil) .nil) (.node o955_4 (.node o1467_6 .nil .nil) .nil))) (.node o251_2 (.node o379_3 (.node o635_4 (.node o1147_5 .nil .nil) .nil) (.node o891_4 (.node o1403_6 .nil .nil) .nil)) (.node o507_3 (.node o763_4 (.node o1275_5 .nil .nil) .nil) (.node o1019_5 (.node o1531_6 .nil .nil) .nil)))))))) (.node o5_0 (.node o9_0 (.node o17_0 (.node o33_0 (.node (o65_2 P) (.node o129_2 (.node o257_2 (.node (o513_3 P) (.node o1025_5 .nil .nil) (.node o1537_6 .nil .nil)) (.node o769_4 (.node o1281_6 .nil .nil) .nil)) (.node o385_3 (.node o641_4 (.node o1153_5 .nil .nil) .nil) (.node o897_4 (.node o1409_6 .nil .nil) .nil))) (.node o193_2 (.node o321_3 (.node o577_3 (.node o1089_5 .nil .nil) .nil) (.node o833_4 (.node o1345_6 .nil .nil) .nil)) (.node o449_3 (.node o705_4 (.node o1217_5 .nil .nil) .nil) (.node o961_5 (.node o1473_6 .nil .nil) .nil)))) (.node o97_2 (.node o161_2 (.node o289_2 (.node o545_3 (.node o1057_5 .nil .nil) (.node o1569_6 .nil .nil)) (.node o801_4 (.node o1313_6 .nil .nil) .nil)) (.node o417_3 (.node o673_4 (.node o1185_5 .nil .nil) .nil) (.node o929_4 (.node o1441_6 .nil .nil) .nil))) (.node o225_2 (.node o353_3 (.node o609_3 (.node (o1121_5 P) .nil .nil) .nil) (.node o865_4 (.node o1377_6 .nil .nil) .nil)) (.node o481_3 (.node o737_4 (.node o1249_5 .nil .nil) .nil) (.node o993_5 (.node o1505_6 .nil .nil) .nil))))) (.node o49_2 (.node o81_2 (.node o145_2 (.node o273_2 (.node o529_3 (.node o1041_5 .nil .nil) (.node o1553_6 .nil .nil)) (.node o785_4 (.node o1297_6 .nil .nil) .nil)) (.node o401_3 (.node o657_4 (.node o1169_5 .nil .nil) .nil) (.node o913_4 (.node o1425_6 .nil .nil) .nil))) (.node o209_2 (.node o337_3 (.node o593_3 (.node o1105_5 .nil .nil) .nil) (.node o849_4 (.node (o1361_6 P) .nil .nil) .nil)) (.node o465_3 (.node o721_4 (.node o1233_5 .nil .nil) .nil) (.node o977_5 (.node o1489_6 .nil .nil) .nil)))) (.node o113_2 (.node o177_2 (.node o305_3 (.node o561_3 (.node o1073_5 .nil .nil) (.node o1585_6 .nil .nil)) (.node o817_4 (.node o1329_6 .nil .nil) .nil)) (.node o433_3 (.node o689_4 (.node o1201_5 .nil .nil) .nil) (.node o945_4 (.node o1457_6 .nil .nil) .nil))) (.node o241_2 (.node o369_3 (.node o625_4 (.node o1137_5 .nil .nil) .nil) (.node o881_4 (.node o1393_6 .nil .nil) .nil)) (.node o497_3 (.node o753_4 (.node o1265_5 .nil .nil) .nil) (.node o1009_5 (.node o1521_6 .nil .nil) .nil)))))) (.node o25_0 (.node o41_1 (.node o73_2 (.node o137_2 (.node o265_2 (.node o521_3 (.node o1033_5 .nil .nil) (.node o1545_6 .nil .nil)) (.node o777_4 (.node o1289_6 .nil .nil) .nil)) (.node o393_3 (.node o649_4 (.node o1161_5 .nil .nil) .nil) (.node o905_4 (.node o1417_6 .nil .nil) .nil))) (.node o201_2 (.node o329_3 (.node o585_3 (.node o1097_5 .nil .nil) .nil) (.node o841_4 (.node o1353_6 .nil .nil) .nil)) (.node o457_3 (.node o713_4 (.node o1225_5 .nil .nil) .nil) (.node o969_5 (.node o1481_6 .nil .nil) .nil)))) (.node o105_2 (.node o169_2 (.node o297_3 (.node o553_3 (.node o1065_5 .nil .nil) (.node o1577_6 .nil .nil)) (.node o809_4 (.node o1321_6 .nil .nil) .nil)) (.node o425_3 (.node o681_4 (.node o1193_5 .nil .nil) .nil) (.node o937_4 (.node o1449_6 .nil .nil) .nil))) (.node o233_2 (.node o361_3 (.node o617_4 (.node o1129_5 .nil .nil) .nil) (.node o873_4 (.node o1385_6 .nil .nil) .nil)) (.node o489_3 (.node o745_4 (.node o1257_5 .nil .nil) .nil) (.node o1001_5 (.node o1513_6 .nil .nil) .nil))))) (.node o57_2 (.node o89_2 (.node o153_2 (.node o281_2 (.node o537_3 (.node o1049_5 .nil .nil) (.node o1561_6 .nil .nil)) (.node o793_4 (.node o1305_6 .nil .nil) .nil)) (.node o409_3 (.node o665_4 (.node o1177_5 .nil .nil) .nil) (.node o921_4 (.node o1433_6 .nil .nil) .nil))) (.node o217_2 (.node o345_3 (.node o601_3 (.node o1113_5 .nil .nil) .nil) (.node o857_4 (.node o1369_6 .nil .nil) .nil)) (.node o473_3 (.node o729_4 (.node o1241_5 .nil .nil) .nil) (.node o985_5 (.node o1497_6 .nil .nil) .nil)))) (.node o121_2 (.node o185_2 (.node o313_3 (.node o569_3 (.node o1081_5 .nil .nil) (.node o1593_6 .nil .nil)) (.node o825_4 (.node o1337_6 .nil .nil) .nil)) (.node o441_3 (.node o697_4 (.node o1209_5 .nil .nil) .nil) (.node o953_4 (.node o1465_6 .nil .nil) .nil))) (.node o249_2 (.node o377_3 (.node o633_4 (.node o1145_5 .nil .nil) .nil) (.node o889_4 (.node o1401_6 .nil .nil) .nil)) (.node o505_3 (.node o761_4 (.node o1273_5 .nil .nil) .nil) (.node o1017_5 (.node o1529_6 .nil .nil) .nil))))))) (.node o13_0 (.node (o21_0 P) (.node o37_0 (.node o69_2 (.node o133_2 (.node o261_2 (.node o517_3 (.node o1029_5 .nil .nil) (.node o1541_6 .nil .nil)) (.node o773_4 (.node o1285_6 .nil .nil) .nil)) (.node o389_3 (.node o645_4 (.node o1157_5 .nil .nil) .nil) (.node o901_4 (.node o1413_6 .nil .nil) .nil))) (.node o197_2 (.node o325_3 (.node o581_3 (.node o1093_5 .nil .nil) .nil) (.node o837_4 (.node o1349_6 .nil .nil) .nil)) (.node o453_3 (.node (o709_4 P) (.node o1221_5 .nil .nil) .nil) (.node o965_5 (.node o1477_6 .nil .nil) .nil)))) (.node (o101_2 P) (.node o165_2 (.node o293_2 (.node o549_3 (.node o1061_5 .nil .nil) (.node o1573_6 .nil .nil)) (.node o805_4 (.node o1317_6 .nil .nil) .nil)) (.node o421_3 (.node o677_4 (.node o1189_5 .nil .nil) .nil) (.node o933_4 (.node o1445_6 .nil .nil) .nil))) (.node o229_2 (.node o357_3 (.node o613_4 (.node o1125_5 .nil .nil) .nil) (.node o869_4 (.node o1381_6 .nil .nil) .nil)) (.node o485_3 (.node o741_4 (.node o1253_5 .nil .nil) .nil) (.node o997_5 (.node o1509_6 .nil .nil) .nil))))) (.node o53_2 (.node o85_2 (.node o149_2 (.node o277_2 (.node o533_3 (.node o1045_5 .nil .nil) (.node o1557_6 .nil .nil)) (.node o789_4 (.node o1301_6 .nil .nil) .nil)) (.node o405_3 (.node o661_4 (.node o1173_5 .nil .nil) .nil) (.node o917_4 (.node o1429_6 .nil .nil) .nil))) (.node o213_2 (.node o341_3 (.node (o597_3 P) (.node o1109_5 .nil .nil) .nil) (.node o853_4 (.node o1365_6 .nil .nil) .nil)) (.node o469_3 (.node o725_4 (.node o1237_5 .nil .nil) .nil) (.node o981_5 (.node o1493_6 .nil .nil) .nil)))) (.node o117_2 (.node o181_2 (.node o309_3 (.node o565_3 (.node o1077_5 .nil .nil) (.node o1589_6 .nil .nil)) (.node o821_4 (.node o1333_6 .nil .nil) .nil)) (.node o437_3 (.node o693_4 (.node o1205_5 .nil .nil) .nil) (.node o949_4 (.node o1461_6 .nil .nil) .nil))) (.node o245_2 (.node o373_3 (.node o629_4 (.node o1141_5 .nil .nil) .nil) (.node o885_4 (.node o1397_6 .nil .nil) .nil)) (.node o501_3 (.node o757_4 (.node o1269_5 .nil .nil) .nil) (.node o1013_5 (.node o1525_6 .nil .nil) .nil)))))) (.node o29_0 (.node o45_2 (.node o77_2 (.node o141_2 (.node o269_2 (.node o525_3 (.node o1037_5 .nil .nil) (.node o1549_6 .nil .nil)) (.node o781_4 (.node o1293_6 .nil .nil) .nil)) (.node o397_3 (.node o653_4 (.node o1165_5 .nil .nil) .nil) (.node o909_4 (.node o1421_6 .nil .nil) .nil))) (.node o205_2 (.node o333_3 (.node o589_3 (.node o1101_5 .nil .nil) .nil) (.node o845_4 (.node o1357_6 .nil .nil) .nil)) (.node o461_3 (.node o717_4 (.node o1229_5 .nil .nil) .nil) (.node o973_5 (.node o1485_6 .nil .nil) .nil)))) (.node o109_2 (.node o173_2 (.node o301_3 (.node o557_3 (.node o1069_5 .nil .nil) (.node o1581_6 .nil .nil)) (.node o813_4 (.node o1325_6 .nil .nil) .nil)) (.node o429_3 (.node o685_4 (.node o1197_5 .nil .nil) .nil) (.node o941_4 (.node o1453_6 .nil .nil) .nil))) (.node o237_2 (.node o365_3 (.node o621_4 (.node o1133_5 .nil .nil) .nil) (.node o877_4 (.node o1389_6 .nil .nil) .nil)) (.node o493_3 (.node o749_4 (.node o1261_5 .nil .nil) .nil) (.node o1005_5 (.node o1517_6 .nil .nil) .nil))))) (.node o61_2 (.node o93_2 (.node o157_2 (.node o285_2 (.node o541_3 (.node o1053_5 .nil .nil) (.node o1565_6 .nil .nil)) (.node o797_4 (.node o1309_6 .nil .nil) .nil)) (.node o413_3 (.node o669_4 (.node o1181_5 .nil .nil) .nil) (.node o925_4 (.node o1437_6 .nil .nil) .nil))) (.node o221_2 (.node o349_3 (.node o605_3 (.node o1117_5 .nil .nil) .nil) (.node o861_4 (.node o1373_6 .nil .nil) .nil)) (.node o477_3 (.node o733_4 (.node o1245_5 .nil .nil) .nil) (.node o989_5 (.node o1501_6 .nil .nil) .nil)))) (.node o125_2 (.node o189_2 (.node o317_3 (.node o573_3 (.node o1085_5 .nil .nil) .nil) (.node o829_4 (.node o1341_6 .nil .nil) .nil)) (.node o445_3 (.node o701_4 (.node o1213_5 .nil .nil) .nil) (.node o957_4 (.node o1469_6 .nil .nil) .nil))) (.node o253_2 (.node o381_3 (.node o637_4 (.node o1149_5 .nil .nil) .nil) (.node o893_4 (.node o1405_6 .nil .nil) .nil)) (.node o509_3 (.node o765_4 (.node o1277_5 .nil .nil) .nil) (.node o1021_5 (.node o1533_6 .nil .nil) .nil))))))))) (.node (o2_0 P) (.node o4_0 (.node o8_0 (.node o16_0 (.node (o32_0 P) (.node o64_2 (.node (o128_2 P) (.node o256_2 (.node o512_3 (.node o1024_5 .nil .nil) (.node o1536_6 .nil .nil)) (.node o768_4 (.node o1280_5 .nil .nil) .nil)) (.node o384_3 (.node o640_4 (.node o1152_5 .nil .nil) .nil) (.node o896_4 (.node o1408_6 .nil .nil) .nil))) (.node o192_2 (.node o320_3 (.node o576_3 (.node o1088_5 .nil .nil) .nil) (.node o832_4 (.node o1344_6 .nil .nil) .nil)) (.node o448_3 (.node o704_4 (.node o1216_5 .nil .nil) .nil) (.node o960_5 (.node o1472_6 .nil .nil) .nil)))) (.node o96_2 (.node o160_2 (.node o288_2 (.node o544_3 (.node o1056_5 .nil .nil) (.node o1568_6 .nil .nil)) (.node o800_4 (.node o1312_6 .nil .nil) .nil)) (.node o416_3 (.node o672_4 (.node o1184_5 .nil .nil) .nil) (.node o928_4 (.node o1440_6 .nil .nil) .nil))) (.node o224_2 (.node o352_3 (.node o608_3 (.node o1120_5 .nil .nil) .nil) (.node o864_4 (.node o1376_6 .nil .nil) .nil)) (.node o480_3 (.node o736_4 (.node o1248_5 .nil .nil) .nil) (.node o992_5 (.node o1504_6 .nil .nil) .nil))))) (.node o48_2 (.node (o80_2 P) (.node o144_2 (.node o272_2 (.node o528_3 (.node o1040_5 .nil .nil) (.node o1552_6 .nil .nil)) (.node o784_4 (.node o1296_6 .nil .nil) .nil)) (.node o400_3 (.node o656_4 (.node o1168_5 .nil .nil) .nil) (.node o912_4 (.node o1424_6 .nil .nil) .nil))) (.node o208_2 (.node o336_3 (.node o592_3 (.node o1104_5 .nil .nil) .nil) (.node o848_4 (.node o1360_6 .nil .nil) .nil)) (.node o464_3 (.node o720_4 (.node o1232_5 .nil .nil) .nil) (.node o976_5 (.node o1488_6 .nil .nil) .nil)))) (.node o112_2 (.node o176_2 (.node o304_3 (.node o560_3 (.node o1072_5 .nil .nil) (.node o1584_6 .nil .nil)) (.node o816_4 (.node o1328_6 .nil .nil) .nil)) (.node o432_3 (.node o688_4 (.node o1200_5 .nil .nil) .nil) (.node o944_4 (.node o1456_6 .nil .nil) .nil))) (.node o240_2 (.node o368_3 (.node o624_4 (.node o1136_5 .nil .nil) .nil) (.node o880_4 (.node o1392_6 .nil .nil) .nil)) (.node o496_3 (.node o752_4 (.node o1264_5 .nil .nil) .nil) (.node o1008_5 (.node o1520_6 .nil .nil) .nil)))))) (.node o24_0 (.node o40_6 (.node o72_2 (.node o136_2 (.node o264_2 (.node o520_3 (.node o1032_5 .nil .nil) (.node o1544_6 .nil .nil)) (.node o776_4 (.node o1288_6 .nil .nil) .nil)) (.node o392_3 (.node o648_4 (.node o1160_5 .nil .nil) .nil) (.node o904_4 (.node (o1416_6 P) .nil .nil) .nil))) (.node o200_2 (.node o328_3 (.node o584_3 (.node o1096_5 .nil .nil) .nil) (.node o840_4 (.node o1352_6 .nil .nil) .nil)) (.node o456_3 (.node o712_4 (.node o1224_5 .nil .nil) .nil) (.node o968_5 (.node o1480_6 .nil .nil) .nil)))) (.node o104_2 (.node o168_2 (.node o296_3 (.node o552_3 (.node o1064_5 .nil .nil) (.node o1576_6 .nil .nil)) (.node o808_4 (.node o1320_6 .nil .nil) .nil)) (.node o424_3 (.node o680_4 (.node o1192_5 .nil .nil) .nil) (.node o936_4 (.node o1448_6 .nil .nil) .nil))) (.node o232_2 (.node o360_3 (.node o616_4 (.node o1128_5 .nil .nil) .nil) (.node o872_4 (.node o1384_6 .nil .nil) .nil)) (.node o488_3 (.node o744_4 (.node (o1256_5 P) .nil .nil) .nil) (.node o1000_5 (.node o1512_6 .nil .nil) .nil))))) (.node o56_2 (.node o88_2 (.node o152_2 (.node o280_2 (.node o536_3 (.node o1048_5 .nil .nil) (.node o1560_6 .nil .nil)) (.node o792_4 (.node o1304_6 .nil .nil) .nil)) (.node o408_3 (.node (o664_4 P) (.node o1176_5 .nil .nil) .nil) (.node o920_4 (.node o1432_6 .nil .nil) .nil))) (.node o216_2 (.node o344_3 (.node o600_3 (.node o1112_5 .nil .nil) .nil) (.node o856_4 (.node o1368_6 .nil .nil) .nil)) (.node o472_3 (.node o728_4 (.node o1240_5 .nil .nil) .nil) (.node o984_5 (.node o1496_6 .nil .nil) .nil)))) (.node o120_2 (.node o184_2 (.node o312_3 (.node o568_3 (.node o1080_5 .nil .nil) (.node o1592_6 .nil .nil)) (.node o824_4 (.node o1336_6 .nil .nil) .nil)) (.node o440_3 (.node o696_4 (.node o1208_5 .nil .nil) .nil) (.node o952_4 (.node o1464_6 .nil .nil) .nil))) (.node o248_2 (.node o376_3 (.node o632_4 (.node o1144_5 .nil .nil) .nil) (.node o888_4 (.node o1400_6 .nil .nil) .nil)) (.node o504_3 (.node o760_4 (.node o1272_5 .nil .nil) .nil) (.node o1016_5 (.node o1528_6 .nil .nil) .nil))))))) (.node (o12_0 P) (.node o20_0 (.node o36_0 (.node o68_2 (.node o132_2 (.node o260_2 (.node o516_3 (.node o1028_5 .nil .nil) (.node o1540_6 .nil .nil)) (.node o772_4 (.node o1284_6 .nil .nil) .nil)) (.node o388_3 (.node o644_4 (.node o1156_5 .nil .nil) .nil) (.node o900_4 (.node o1412_6 .nil .nil) .nil))) (.node o196_2 (.node o324_3 (.node o580_3 (.node o1092_5 .nil .nil) .nil) (.node o836_4 (.node o1348_6 .nil .nil) .nil)) (.node o452_3 (.node o708_4 (.node o1220_5 .nil .nil) .nil) (.node o964_5 (.node o1476_6 .nil .nil) .nil)))) (.node o100_2 (.node o164_2 (.node o292_2 (.node o548_3 (.node o1060_5 .nil .nil) (.node o1572_6 .nil .nil)) (.node o804_4 (.node o1316_6 .nil .nil) .nil)) (.node o420_3 (.node o676_4 (.node o1188_5 .nil .nil) .nil) (.node o932_4 (.node o1444_6 .nil .nil) .nil))) (.node o228_2 (.node o356_3 (.node o612_4 (.node o1124_5 .nil .nil) .nil) (.node o868_4 (.node o1380_6 .nil .nil) .nil)) (.node o484_3 (.node o740_4 (.node o1252_5 .nil .nil) .nil) (.node o996_5 (.node o1508_6 .nil .nil) .nil))))) (.node (o52_2 P) (.node o84_2 (.node o148_2 (.node o276_2 (.node o532_3 (.node o1044_5 .nil .nil) (.node o1556_6 .nil .nil)) (.node o788_4 (.node o1300_6 .nil .nil) .nil)) (.node o404_3 (.node o660_4 (.node o1172_5 .nil .nil) .nil) (.node o916_4 (.node o1428_6 .nil .nil) .nil))) (.node o212_2 (.node o340_3 (.node o596_3 (.node (o1108_5 P) .nil .nil) .nil) (.node o852_4 (.node o1364_6 .nil .nil) .nil)) (.node o468_3 (.node o724_4 (.node o1236_5 .nil .nil) .nil) (.node o980_5 (.node (o1492_6 P) .nil .nil) .nil)))) (.node o116_2 (.node o180_2 (.node o308_3 (.node o564_3 (.node o1076_5 .nil .nil) (.node o1588_6 .nil .nil)) (.node o820_4 (.node o1332_6 .nil .nil) .nil)) (.node o436_3 (.node o692_4 (.node o1204_5 .nil .nil) .nil) (.node o948_4 (.node o1460_6 .nil .nil) .nil))) (.node o244_2 (.node o372_3 (.node o628_4 (.node o1140_5 .nil .nil) .nil) (.node o884_4 (.node o1396_6 .nil .nil) .nil)) (.node o500_3 (.node o756_4 (.node o1268_5 .nil .nil) .nil) (.node o1012_5 (.node o1524_6 .nil .nil) .nil)))))) (.node o28_0 (.node o44_2 (.node o76_2 (.node o140_2 (.node o268_2 (.node o524_3 (.node o1036_5 .nil .nil) (.node o1548_6 .nil .nil)) (.node o780_4 (.node o1292_6 .nil .nil) .nil)) (.node o396_3 (.node o652_4 (.node o1164_5 .nil .nil) .nil) (.node o908_4 (.node o1420_6 .nil .nil) .nil))) (.node o204_2 (.node o332_3 (.node o588_3 (.node (o1100_5 P) .nil .nil) .nil) (.node o844_4 (.node o1356_6 .nil .nil) .nil)) (.node o460_3 (.node o716_4 (.node o1228_5 .nil .nil) .nil) (.node o972_5 (.node o1484_6 .nil .nil) .nil)))) (.node o108_2 (.node o172_2 (.node o300_3 (.node o556_3 (.node o1068_5 .nil .nil) (.node o1580_6 .nil .nil)) (.node o812_4 (.node (o1324_6 P) .nil .nil) .nil)) (.node o428_3 (.node o684_4 (.node o1196_5 .nil .nil) .nil) (.node o940_4 (.node o1452_6 .nil .nil) .nil))) (.node o236_2 (.node o364_3 (.node o620_4 (.node o1132_5 .nil .nil) .nil) (.node o876_4 (.node o1388_6 .nil .nil) .nil)) (.node o492_3 (.node o748_4 (.node o1260_5 .nil .nil) .nil) (.node o1004_5 (.node o1516_6 .nil .nil) .nil))))) (.node o60_2 (.node o92_2 (.node o156_2 (.node o284_2 (.node o540_3 (.node o1052_5 .nil .nil) (.node o1564_6 .nil .nil)) (.node o796_4 (.node o1308_6 .nil .nil) .nil)) (.node o412_3 (.node o668_4 (.node o1180_5 .nil .nil) .nil) (.node o924_4 (.node o1436_6 .nil .nil) .nil))) (.node o220_2 (.node o348_3 (.node o604_3 (.node o1116_5 .nil .nil) .nil) (.node o860_4 (.node o1372_6 .nil .nil) .nil)) (.node o476_3 (.node o732_4 (.node o1244_5 .nil .nil) .nil) (.node o988_5 (.node o1500_6 .nil .nil) .nil)))) (.node o124_2 (.node o188_2 (.node o316_3 (.node o572_3 (.node o1084_5 .nil .nil) (.node o1596_6 .nil .nil)) (.node o828_4 (.node o1340_6 .nil .nil) .nil)) (.node o444_3 (.node o700_4 (.node o1212_5 .nil .nil) .nil) (.node o956_4 (.node o1468_6 .nil .nil) .nil))) (.node o252_2 (.node o380_3 (.node o636_4 (.node o1148_5 .nil .nil) .nil) (.node o892_4 (.node o1404_6 .nil .nil) .nil)) (.node o508_3 (.node o764_4 (.node o1276_5 .nil .nil) .nil) (.node o1020_5 (.node o1532_6 .nil .nil) .nil)))))))) (.node o6_0 (.node o10_0 (.node o18_0 (.node o34_0 (.node o66_2 (.node o130_2 (.node o258_2 (.node o514_3 (.node o1026_5 .nil .nil) (.node o1538_6 .nil .nil)) (.node o770_4 (.node o1282_6 .nil .nil) .nil)) (.node o386_3 (.node o642_4 (.node o1154_5 .nil .nil) .nil) (.node o898_4 (.node o1410_6 .nil .nil) .nil))) (.node o194_2 (.node o322_3 (.node o578_3 (.node o1090_5 .nil .nil) .nil) (.node o834_4 (.node o1346_6 .nil .nil) .nil)) (.node o450_3 (.node o706_4 (.node o1218_5 .nil .nil) .nil) (.node (o962_5 P) (.node o1474_6 .nil .nil) .nil)))) (.node o98_2 (.node o162_2 (.node o290_2 (.node o546_3 (.node o1058_5 .nil .nil) (.node o1570_6 .nil .nil)) (.node o802_4 (.node o1314_6 .nil .nil) .nil)) (.node o418_3 (.node o674_4 (.node o1186_5 .nil .nil) .nil) (.node o930_4 (.node o1442_6 .nil .nil) .nil))) (.node o226_2 (.node o354_3 (.node o610_4 (.node o1122_5 .nil .nil) .nil) (.node o866_4 (.node o1378_6 .nil .nil) .nil)) (.node o482_3 (.node o738_4 (.node o1250_5 .nil .nil) .nil) (.node o994_5 (.node o1506_6 .nil .nil) .nil))))) (.node o50_2 (.node o82_2 (.node o146_2 (.node o274_2 (.node o530_3 (.node o1042_5 .nil .nil) (.node o1554_6 .nil .nil)) (.node o786_4 (.node o1298_6 .nil .nil) .nil)) (.node o402_3 (.node o658_4 (.node o1170_5 .nil .nil) .nil) (.node o914_4 (.node o1426_6 .nil .nil) .nil))) (.node o210_2 (.node o338_3 (.node o594_3 (.node o1106_5 .nil .nil) .nil) (.node o850_4 (.node o1362_6 .nil .nil) .nil)) (.node o466_3 (.node o722_4 (.node o1234_5 .nil .nil) .nil) (.node o978_5 (.node o1490_6 .nil .nil) .nil)))) (.node o114_2 (.node o178_2 (.node o306_3 (.node o562_3 (.node o1074_5 .nil .nil) (.node o1586_6 .nil .nil)) (.node o818_4 (.node o1330_6 .nil .nil) .nil)) (.node o434_3 (.node o690_4 (.node o1202_5 .nil .nil) .nil) (.node o946_4 (.node o1458_6 .nil .nil) .nil))) (.node o242_2 (.node o370_3 (.node o626_4 (.node o1138_5 .nil .nil) .nil) (.node o882_4 (.node o1394_6 .nil .nil) .nil)) (.node o498_3 (.node o754_4 (.node o1266_5 .nil .nil) .nil) (.node o1010_5 (.node o1522_6 .nil .nil) .nil)))))) (.node (o26_0 P) (.node o42_1 (.node o74_2 (.node o138_2 (.node o266_2 (.node o522_3 (.node o1034_5 .nil .nil) (.node o1546_6 .nil .nil)) (.node o778_4 (.node o1290_6 .nil .nil) .nil)) (.node o394_3 (.node o650_4 (.node o1162_5 .nil .nil) .nil) (.node o906_4 (.node o1418_6 .nil .nil) .nil))) (.node o202_2 (.node o330_3 (.node o586_3 (.node o1098_5 .nil .nil) .nil) (.node o842_4 (.node o1354_6 .nil .nil) .nil)) (.node o458_3 (.node o714_4 (.node o1226_5 .nil .nil) .nil) (.node o970_5 (.node o1482_6 .nil .nil) .nil)))) (.node o106_2 (.node o170_2 (.node o298_3 (.node o554_3 (.node o1066_5 .nil .nil) (.node o1578_6 .nil .nil)) (.node o810_4 (.node o1322_6 .nil .nil) .nil)) (.node o426_3 (.node o682_4 (.node o1194_5 .nil .nil) .nil) (.node o938_4 (.node o1450_6 .nil .nil) .nil))) (.node o234_2 (.node o362_3 (.node o618_4 (.node o1130_5 .nil .nil) .nil) (.node o874_4 (.node o1386_6 .nil .nil) .nil)) (.node o490_3 (.node o746_4 (.node o1258_5 .nil .nil) .nil) (.node o1002_5 (.node o1514_6 .nil .nil) .nil))))) (.node (o58_2 P) (.node o90_2 (.node o154_2 (.node o282_2 (.node o538_3 (.node o1050_5 .nil .nil) (.node o1562_6 .nil .nil)) (.node o794_4 (.node o1306_6 .nil .nil) .nil)) (.node o410_3 (.node o666_4 (.node o1178_5 .nil .nil) .nil) (.node o922_4 (.node o1434_6 .nil .nil) .nil))) (.node o218_2 (.node o346_3 (.node o602_3 (.node o1114_5 .nil .nil) .nil) (.node o858_4 (.node o1370_6 .nil .nil) .nil)) (.node o474_3 (.node o730_4 (.node o1242_5 .nil .nil) .nil) (.node o986_5 (.node o1498_6 .nil .nil) .nil)))) (.node (o122_2 P) (.node o186_2 (.node o314_3 (.node o570_3 (.node o1082_5 .nil .nil) (.node o1594_6 .nil .nil)) (.node o826_4 (.node o1338_6 .nil .nil) .nil)) (.node o442_3 (.node o698_4 (.node o1210_5 .nil .nil) .nil) (.node o954_4 (.node o1466_6 .nil .nil) .nil))) (.node o250_2 (.node o378_3 (.node o634_4 (.node o1146_5 .nil .nil) .nil) (.node o890_4 (.node o1402_6 .nil .nil) .nil)) (.node o506_3 (.node o762_4 (.node o1274_5 .nil .nil) .nil) (.node o1018_5 (.node o1530_6 .nil .nil) .nil))))))) (.node (o14_0 P) (.node o22_0 (.node o38_0 (.node o70_2 (.node (o134_2 P) (.node o262_2 (.node o518_3 (.node o1030_5 .nil .nil) (.node o1542_6 .nil .nil)) (.node o774_4 (.node o1286_6 .nil .nil) .nil)) (.node o390_3 (.node o646_4 (.node o1158_5 .nil .nil) .nil) (.node o902_4 (.node o1414_6 .nil .nil) .nil))) (.node o198_2 (.node o326_3 (.node o582_3 (.node o1094_5 .nil .nil) .nil) (.node o838_4 (.node o1350_6 .nil .nil) .nil)) (.node o454_3 (.node o710_4 (.node o1222_5 .nil .nil) .nil) (.node o966_5 (.node o1478_6 .nil .nil) .nil)))) (.node o102_2 (.node o166_2 (.node o294_3 (.node o550_3 (.node o1062_5 .nil .nil) (.node o1574_6 .nil .nil)) (.node o806_4 (.node o1318_6 .nil .nil) .nil)) (.node o422_3 (.node o678_4 (.node o1190_5 .nil .nil) .nil) (.node o934_4 (.node o1446_6 .nil .nil) .nil))) (.node o230_2 (.node o358_3 (.node o614_4 (.node o1126_5 .nil .nil) .nil) (.node o870_4 (.node o1382_6 .nil .nil) .nil)) (.node o486_3 (.node o742_4 (.node o1254_5 .nil .nil) .nil) (.node o998_5 (.node o1510_6 .nil .nil) .nil))))) (.node o54_2 (.node (o86_2 P) (.node o150_2 (.node o278_2 (.node o534_3 (.node o1046_5 .nil .nil) (.node o1558_6 .nil .nil)) (.node o790_4 (.node o1302_6 .nil .nil) .nil)) (.node o406_3 (.node o662_4 (.node o1174_5 .nil .nil) .nil) (.node o918_4 (.node o1430_6 .nil .nil) .nil))) (.node o214_2 (.node o342_3 (.node o598_3 (.node o1110_5 .nil .nil) .nil) (.node o854_4 (.node o1366_6 .nil .nil) .nil)) (.node o470_3 (.node o726_4 (.node o1238_5 .nil .nil) .nil) (.node o982_5 (.node o1494_6 .nil .nil) .nil)))) (.node o118_2 (.node o182_2 (.node o310_3 (.node o566_3 (.node o1078_5 .nil .nil) (.node o1590_6 .nil .nil)) (.node o822_4 (.node o1334_6 .nil .nil) .nil)) (.node o438_3 (.node o694_4 (.node o1206_5 .nil .nil) .nil) (.node o950_4 (.node o1462_6 .nil .nil) .nil))) (.node o246_2 (.node o374_3 (.node o630_4 (.node o1142_5 .nil .nil) .nil) (.node o886_4 (.node o1398_6 .nil .nil) .nil)) (.node o502_3 (.node o758_4 (.node o1270_5 .nil .nil) .nil) (.node o1014_5 (.node o1526_6 .nil .nil) .nil)))))) (.node o30_0 (.node o46_2 (.node o78_2 (.node o142_2 (.node o270_2 (.node o526_3 (.node o1038_5 .nil .nil) (.node o1550_6 .nil .nil)) (.node o782_4 (.node o1294_6 .nil .nil) .nil)) (.node o398_3 (.node o654_4 (.node o1166_5 .nil .nil) .nil) (.node o910_4 (.node o1422_6 .nil .nil) .nil))) (.node o206_2 (.node o334_3 (.node o590_3 (.node o1102_5 .nil .nil) .nil) (.node o846_4 (.node o1358_6 .nil .nil) .nil)) (.node o462_3 (.node o718_4 (.node o1230_5 .nil .nil) .nil) (.node o974_5 (.node o1486_6 .nil .nil) .nil)))) (.node o110_2 (.node o174_2 (.node o302_3 (.node (o558_3 P) (.node o1070_5 .nil .nil) (.node o1582_6 .nil .nil)) (.node o814_4 (.node o1326_6 .nil .nil) .nil)) (.node o430_3 (.node o686_4 (.node o1198_5 .nil .nil) .nil) (.node o942_4 (.node o1454_6 .nil .nil) .nil))) (.node o238_2 (.node o366_3 (.node o622_4 (.node o1134_5 .nil .nil) .nil) (.node o878_4 (.node o1390_6 .nil .nil) .nil)) (.node o494_3 (.node o750_4 (.node o1262_5 .nil .nil) .nil) (.node o1006_5 (.node o1518_6 .nil .nil) .nil))))) (.node o62_2 (.node o94_2 (.node o158_2 (.node o286_2 (.node o542_3 (.node o1054_5 .nil .nil) (.node o1566_6 .nil .nil)) (.node o798_4 (.node o1310_6 .nil .nil) .nil)) (.node o414_3 (.node o670_4 (.node o1182_5 .nil .nil) .nil) (.node o926_4 (.node o1438_6 .nil .nil) .nil))) (.node o222_2 (.node o350_3 (.node o606_3 (.node o1118_5 .nil .nil) .nil) (.node o862_4 (.node o1374_6 .nil .nil) .nil)) (.node o478_3 (.node o734_4 (.node o1246_5 .nil .nil) .nil) (.node o990_5 (.node o1502_6 .nil .nil) .nil)))) (.node o126_2 (.node o190_2 (.node o318_3 (.node o574_3 (.node o1086_5 .nil .nil) .nil) (.node o830_4 (.node o1342_6 .nil .nil) .nil)) (.node o446_3 (.node o702_4 (.node o1214_5 .nil .nil) .nil) (.node o958_4 (.node o1470_6 .nil .nil) .nil))) (.node o254_2 (.node o382_3 (.node o638_4 (.node o1150_5 .nil .nil) .nil) (.node o894_4 (.node o1406_6 .nil .nil) .nil)) (.node (o510_3 P) (.node o766_4 (.node o1278_5 .nil .nil) .nil) (.node o1022_5 (.node o1534_6 .nil .nil) .nil))))))))))
end K11H
set_option maxHeartbeats 0
/-! HS1: the run of a segment, over the tree; the first segment. -/
namespace K11H
open PySem PySem.W PySem.Calls PyProof.Rows L2 HandSHeadRun
def segF (st : SharedT → Thread → Option (SharedT × Thread)) (n0 : Nat) (ann : Option Value) (b : Nat) : Nat → SharedT → Thread → Option (Flow × SharedT × Code × Pos)
  | 0, _, _ => none
  | n + 1, s, t => match endAt b t with
    | some f => some (f, s, t.code, t.pos)
    | none => match stepOk n0 ann t with
      | false => none
      | true => match st s t with
        | some (s', t') => frS s' fun s' => segF st n0 ann b n s' t'
        | none => none
theorem segF_eq {p : Program} {w : World} {n0 : Nat} {ann : Option Value} {b : Nat} : ∀ (n : Nat) (s : SharedT) (t : Thread), segF (stepQ (denQ tabQ) p w) n0 ann b n s t = segRunT treeTable p w n0 ann b n s t := by
  rw [← stepQ_eq, ← denQ_eq, ← tabQ_eq]
  intro n
  induction n with
  | zero => intro s t; rfl
  | succ n ih =>
    intro s t
    unfold segF segRunT
    cases endAt b t with
    | some f => rfl
    | none =>
      cases stepOk n0 ann t with
      | false => rfl
      | true =>
        cases stepT (denote treeTable) p w s t with
        | none => rfl
        | some r =>
          obtain ⟨s', t'⟩ := r
          show frS s' (fun s' => segF _ n0 ann b n s' t') = _
          rw [frS_eq, ih]
def S (t : Params → BT) (n k : Nat) (w : World) (os : OsState) : SharedT := ⟨t w.params, n, {}, ⟨[]⟩, {}, k, os⟩
def ps (l c el ec : Nat) : Pos := ⟨l, c, el, ec⟩
def env : Env := { scope := prg.main.scope, locals := mainNs, globals := mainNs, cells := [], code := .ref 41, frame := some 42 }
def cB : Code := .body (behindTheImports prg) env
def fB : List Frame := [topFrame ⟨0, 0, 0, 0⟩]
def ann : Option Value := some (.ref 6)
def bE : List Stmt := behindTheImports prg
theorem seg1 (w : World) (os : OsState) : segF (stepQ (denQ tabQ) prg w) 39 ann 1 2001 (S t1 43 380 w os) (piecesOf (bE.take 36) env cB ⟨0, 0, 0, 0⟩ fB) = some (.next, S t2 294 717 w os, cB, ⟨133, 0, 138, 16⟩) := by
  kernel_rfl
end K11H
set_option maxHeartbeats 0
/-! HS2: the other segments. -/
namespace K11H
open PySem PySem.W PySem.Calls PyProof.Rows L2 HandSHeadRun
def Seg (w : World) (n : Nat) (s : OsState → SharedT) (l : List Stmt) (p : Pos) (s' : OsState → SharedT) (p' : Pos) : Prop := (fun os => segF (stepQ (denQ tabQ) prg w) 39 ann 1 n (s os) (piecesOf l env cB p fB)) = fun os => some (.next, s' os, cB, p')
theorem seg2f (w : World) : Seg (w.withFollow "special-get-raises" false) 1995 (S t2 294 717 (w.withFollow "special-get-raises" false)) ((bE.drop 36).take 65) ⟨133, 0, 138, 16⟩ (S t3 610 1228 (w.withFollow "special-get-raises" false)) ⟨379, 0, 385, 26⟩ := by
  unfold Seg; kernel_rfl
theorem seg2t (w : World) : Seg (w.withFollow "special-get-raises" true) 1995 (S t2 294 717 (w.withFollow "special-get-raises" true)) ((bE.drop 36).take 65) ⟨133, 0, 138, 16⟩ (S t3 610 1228 (w.withFollow "special-get-raises" true)) ⟨379, 0, 385, 26⟩ := by
  unfold Seg; kernel_rfl
theorem seg3 (w : World) : Seg w 1902 (S t3 610 1228 w) ((bE.drop 101).take 62) ⟨379, 0, 385, 26⟩ (S t4 960 1713 w) ⟨692, 0, 692, 4⟩ := by
  unfold Seg; kernel_rfl
theorem seg4 (w : World) : Seg w 1992 (S t4 960 1713 w) ((bE.drop 163).take 28) ⟨692, 0, 692, 4⟩ (S t5 1281 2171 w) ⟨990, 0, 990, 9⟩ := by
  unfold Seg; kernel_rfl
end K11H
set_option maxHeartbeats 0
/-! HS3: the last segment; the steps ahead of the first statement and behind the last one. -/
namespace K11H
open PySem PySem.W PySem.Calls PyProof.Rows L2 HandSHeadRun
theorem seg5f (w : World) : Seg (w.withFollow "special-get-raises" false) 1876 (S t5 1281 2171 (w.withFollow "special-get-raises" false)) (bE.drop 191) ⟨990, 0, 990, 9⟩ (S t6 1597 2613 (w.withFollow "special-get-raises" false)) ⟨1262, 0, 1263, 95⟩ := by
  unfold Seg; kernel_rfl
theorem seg5t (w : World) : Seg (w.withFollow "special-get-raises" true) 1876 (S t5 1281 2171 (w.withFollow "special-get-raises" true)) (bE.drop 191) ⟨990, 0, 990, 9⟩ (S t6 1597 2613 (w.withFollow "special-get-raises" true)) ⟨1262, 0, 1263, 95⟩ := by
  unfold Seg; kernel_rfl
def goK (st : SharedT → Thread → Option (SharedT × Thread)) (n0 : Nat) (ann : Option Value) : Nat → SharedT → Thread → Option (SharedT × Thread)
  | 0, s, t => some (s, t)
  | m + 1, s, t => match through t with
    | true => none
    | false => match stepOk n0 ann t with
      | false => none
      | true => match st s t with
        | some (s', t') => frS s' fun s' => goK st n0 ann m s' t'
        | none => none
theorem goK_ok {tb : String → Option Builtin} {p : Program} {w : World} {n0 : Nat} {ann : Option Value} : ∀ {m : Nat} {s s' : SharedT} {t t' : Thread}, goK (stepT (denote tb) p w) n0 ann m s t = some (s', t') → topGo tb p w n0 ann m s.abs t = some (s'.abs, t')
  | 0, s, s', t, t', h => by
    cases h
    rfl
  | m + 1, s, s', t, t', h => by
    have h1 : (match through t with
      | true => none
      | false => match stepOk n0 ann t with
        | false => none
        | true => match stepT (denote tb) p w s t with
          | some (s', t') => frS s' fun s' => goK (stepT (denote tb) p w) n0 ann m s' t'
          | none => none) = some (s', t') := h
    unfold topGo
    cases ht : through t with
    | true =>
      rw [ht] at h1
      cases h1
    | false =>
      rw [ht] at h1
      cases hk : stepOk n0 ann t with
      | false =>
        rw [hk] at h1
        cases h1
      | true =>
        rw [hk] at h1
        cases hs : stepT (denote tb) p w s t with
        | none =>
          rw [hs] at h1
          cases h1
        | some r =>
          obtain ⟨s2, t2⟩ := r
          rw [hs] at h1
          have h3 : (frS s2 fun s' => goK (stepT (denote tb) p w) n0 ann m s' t2) = some (s', t') := h1
          rw [frS_eq] at h3
          have q := goK_ok h3
          show (match step (denote tb) p w s.abs t with
            | .go s' t' => topGo tb p w n0 ann m s' t'
            | .halt _ _ => none) = some (s'.abs, t')
          rw [stepT_spec hs]
          exact q
theorem pre (w : World) (os : OsState) : goK (stepQ (denQ tabQ) prg w) 39 ann 12 (S t0 39 374 w os) (topStub prg) = some (S t1 43 380 w os, ⟨denQ tabQ cB, cB, ⟨0, 0, 0, 0⟩, fB⟩) := by
  kernel_rfl
theorem fin (w : World) (os : OsState) : goF (stepQ (denQ tabQ) prg w) 39 ann 2 (S t6 1597 2613 w os) ⟨doneF .next, cB, ⟨1262, 0, 1263, 95⟩, fB⟩ = some (S t6 1597 2613 w os) := by
  kernel_rfl
theorem blk (w : World) (os : OsState) : segF (stepQ (denQ tabQ) prg w) 39 ann 1 1 (S t1 43 380 w os) (blockOf bE env cB ⟨0, 0, 0, 0⟩ fB) = some (.next, S t1 43 380 w os, cB, ⟨0, 0, 0, 0⟩) := by
  kernel_rfl
end K11H
set_option maxHeartbeats 0
/-! HS4: the whole top, from the segments; the opening. -/
namespace K11H
open PySem PySem.W PySem.Calls PyProof.Rows L2 HandSHeadRun
theorem seg2 (w : World) : Seg w 1995 (S t2 294 717 w) ((bE.drop 36).take 65) ⟨133, 0, 138, 16⟩ (S t3 610 1228 w) ⟨379, 0, 385, 26⟩ :=
  byRow2 "special-get-raises" (P := fun w => Seg w 1995 (S t2 294 717 w) ((bE.drop 36).take 65) ⟨133, 0, 138, 16⟩ (S t3 610 1228 w) ⟨379, 0, 385, 26⟩) seg2f seg2t w
theorem seg5 (w : World) : Seg w 1876 (S t5 1281 2171 w) (bE.drop 191) ⟨990, 0, 990, 9⟩ (S t6 1597 2613 w) ⟨1262, 0, 1263, 95⟩ :=
  byRow2 "special-get-raises" (P := fun w => Seg w 1876 (S t5 1281 2171 w) (bE.drop 191) ⟨990, 0, 990, 9⟩ (S t6 1597 2613 w) ⟨1262, 0, 1263, 95⟩) seg5f seg5t w
theorem go {w : World} {os : OsState} {n N : Nat} {s s' : OsState → SharedT} {l rest : List Stmt} {p p' : Pos} {r : Shared} (h : Seg w n s l p s' p') (k : topRun treeTable prg w 39 ann N (s' os).abs (restOf rest env cB p' fB) = some r) :
    topRun treeTable prg w 39 ann (n + N) (s os).abs (restOf (l ++ rest) env cB p fB) = some r := by
  have h1 := congrFun h os
  have h2 : segF (stepQ (denQ tabQ) prg w) 39 ann 1 n (s os) (piecesOf l env cB p fB) = some (.next, s' os, cB, p') := h1
  rw [segF_eq] at h2
  exact piece_app (segRun_of h2) k
theorem cut (a k : Nat) : bE.drop a = (bE.drop a).take k ++ bE.drop (a + k) := by
  rw [← List.drop_drop, List.take_append_drop]
theorem whole (w : World) (os : OsState) : topRun treeTable prg w 39 ann (12 + (1 + (2001 + (1995 + (1902 + (1992 + (1876 + 2))))))) (S t0 39 374 w os).abs (topStub prg) = some (S t6 1597 2613 w os).abs := by
  have k7 : topRun treeTable prg w 39 ann 2 (S t6 1597 2613 w os).abs (restOf [] env cB ⟨1262, 0, 1263, 95⟩ fB) = some (S t6 1597 2613 w os).abs := by
    refine piece_nil (q := ⟨0, 0, 0, 0⟩) (goF_ok ?_)
    rw [stepQ_eq, denQ_eq, tabQ_eq]
    exact fin w os
  have k6 := go (os := os) (seg5 w) k7
  rw [List.append_nil] at k6
  have k5 := go (os := os) (seg4 w) k6
  rw [← cut 163 28] at k5
  have k4 := go (os := os) (seg3 w) k5
  rw [← cut 101 62] at k4
  have k3 := go (os := os) (seg2 w) k4
  rw [← cut 36 65] at k3
  have k2 := go (os := os) (funext fun os => seg1 w os) k3
  rw [List.take_append_drop] at k2
  have b1 := blk w os
  rw [segF_eq] at b1
  have k1 := piece_block (q := ⟨0, 0, 0, 0⟩) (segRun_of b1) k2
  have p1 := pre w os
  rw [← stepQ_eq, ← denQ_eq, ← tabQ_eq] at p1
  exact go_top (goK_ok p1) k1
/-- the heap at the opening's end, and behind the top -/
noncomputable def H0 (P : Params) : Heap := absHeap (t0 P) 39 {}
noncomputable def H1 (P : Params) : Heap := absHeap (t6 P) 1597 {}
noncomputable def opn (w : World) : Option (Heap × Array GenState × Drawn × Nat) := match impF (stepQ (denQ tabQ) (opening prg) w) 3000 (startT (opening prg)) (start (opening prg)).2 with
  | some s => (fenceQ prg s.abs).map fun s => (s.heap, s.gens, s.drawn, s.toks)
  | none => none
theorem opn_ok (w : World) : opn w = some (H0 w.params, ⟨[]⟩, {}, 374) := by
  kernel_rfl
end K11H
set_option maxHeartbeats 0
/-! HS5: the looks behind the top. -/
namespace K11H
open PySem PySem.W PySem.Calls PyProof.Rows L2 HandSHeadRun
theorem looks (w : World) (os : OsState) : looksF prg (H0 w.params) (S t6 1597 2613 w os).abs = true := by
  kernel_rfl
end K11H
set_option maxHeartbeats 0
/-! HS6: what is seen behind the top; view: the import and the law. -/
namespace K11H
open PySem PySem.W PySem.Calls PyProof.Rows L2 HandSHeadRun
abbrev R : OpenRow := OpenLaw.row PySem.Challenge.rw_frametongue_k11_desks_undone_and_equal
abbrev qv : Program := view R.prog [0, 239]
def n0 : List PySem.Str := ["_wall", "__name__", "FrameError", "InvalidRows", "InvalidDeed", "Barred", "NothingToUndo", "number_sum", "unknown_sum", "terms_of", "sum_by", "without_noughts", "plus_sums", "times_number", "less_sums", "times_sums", "power_sum", "degree_in", "degree_of", "first_number", "share_of_numbers", "with_first_above", "is_term_part", "divided_by", "least_powers", "lowered", "put_in", "left_of", "have_common_part", "does_show"]
def n1 : List PySem.Str := ["quick_points", "quick_point", "FEW_TRIES", "shares_in", "raised_in", "remainder_in", "common_of_all", "without_share", "common_in", "open_unknowns", "parts_by", "standing_in", "common_by_remainders", "plain_common", "common_of", "plain_of", "without", "turned_up", "times_lowest", "joined_lowest", "lowest_with", "is_whole", "is_number", "is_string", "is_row", "first_wrong", "LETTERS", "FIGURES", "OTHERS", "BLANK"]
def n2 : List PySem.Str := ["MOST_LETTERS", "MOST_FIGURES", "wrong_sign", "sort_of", "row_words", "is_run_of", "is_any_name", "is_name_word", "is_any_number", "is_number_word", "DEEDS", "MOST_PLACES", "MOST_POWER", "MOST_OWN", "GIVEN_HEADS", "parts_of", "with_parts", "folded", "MOST_PUT", "MOST_SPOTS", "MOST_OF", "SPOTS", "GIVENS", "CALLED", "RESERVED", "sorts_by", "givens_by", "tells_by", "is_too_many", "may_be_called"]
def n3 : List PySem.Str := ["may_be_used", "wrong_name", "Sizes", "added", "size_by", "own_trees", "stands_for", "led_on", "put_in_all", "put_in_tree", "put_in_by", "is_great_put_in", "MOST_TERMS", "MOST_DEGREE", "NO_FORM", "TOO_GREAT", "Unknowns", "is_great_sum", "plus_pair", "less_pair", "times_pair", "over_pair", "pair_with", "minus_pair", "spread", "called", "made_pairs", "pairs_of", "pairs_of_formwork", "told_pair"]
def n4 : List PySem.Str := ["BOUND_OF_ONE", "BOUND_OF_UNKNOWN", "bound_plus", "bound_times", "pair_bound_plus", "pair_bound_times", "pair_bound_power", "call_bounds", "made_bounds", "are_small", "is_surely_small", "tell_is_great", "form_of_tree", "form_by", "pairs_of_freedomwork", "lowered_at", "slope", "is_kept_by_shifts_of", "times_root", "line_of", "spread_at", "spread_term", "rooted_sum", "degree_in_pairs", "balance_of", "is_kept_by_turns_of", "sums_by", "are_kept", "is_free_by", "MOST_DEEP"]
def n5 : List PySem.Str := ["SIGN", "FORM", "RowParser", "ReadRow", "column_behind", "read_by", "row_by", "POINT", "ARROW", "NUMBER", "AXES", "sum_sort", "less_sort", "times_sort", "over_sort", "deed_sort", "single_sort", "pair_sort", "called_sort", "Sorts", "sort_in", "wrong_sort", "axis_paths", "NAME", "MANY", "SORT", "GREAT", "MOST_ROWS", "is_great_row", "wrong_behind"]
def n6 : List PySem.Str := ["wrong_column", "wrong_in", "ReadText", "rows_in", "read_text", "fault_by", "program_of", "first_axis_by", "MOST_DESK", "MOST_SIGNS", "SIZES", "FULL", "FAR", "NONE", "SAME", "FAULT", "BARRED", "FREE", "AXISLESS", "is_desk_row", "check_rows", "has_form", "check_deed", "reason_against", "rows_behind", "text_of_rows", "word_of", "Desk", "_law_purse", "_law_take"]
def n7 : List PySem.Str := ["_law_pick", "_law_same", "_law_move", "_law_said", "_law_is_so", "_law_page", "_law_deed", "_law_is_empty", "_law_run", "_law_are_equal", "_law_is_refused", "_law_right"]
def names : List PySem.Str := n0 ++ n1 ++ n2 ++ n3 ++ n4 ++ n5 ++ n6 ++ n7
theorem seen_ok (w : World) (os : OsState) : seenQ qv names (importedModules R.prog.main.body) (fun s => xlAt qv [] s && recOk R.toRowW.records s) (S t6 1597 2613 w os).abs = openGood qv names := by
  kernel_rfl
end K11H
set_option maxHeartbeats 0
/-! HS7: the head. -/
namespace K11H
open PySem PySem.W PySem.Calls PyProof.Rows L2 HandSHeadRun
theorem opening_ (w : World) : (fencedOpening treeTable prg w 30000).map (fun s => (s.heap, s.gens, s.drawn, s.toks)) = some (H0 w.params, ⟨[]⟩, {}, 374) := by
  have z := opn_ok w
  unfold opn at z
  cases e : impF (stepQ (denQ tabQ) (opening prg) w) 3000 (startT (opening prg)) (start (opening prg)).2 with
  | none =>
    rw [e] at z
    cases z
  | some s =>
    rw [e] at z
    rw [← stepQ_eq, ← denQ_eq, ← tabQ_eq] at e
    have a := importEnds_mono 27000 _ _ _ _ (impF_ok e)
    rw [startT_eq] at a
    unfold fencedOpening
    rw [show (30000 : Nat) = 3000 + 27000 from rfl, a]
    show (fenceModules? prg s.abs).map _ = _
    rw [fenceQ_eq]
    exact z
theorem size_ (w : World) : ((H0 w.params).isNs mainGlobals && (⟨[]⟩ : Array GenState).size == 0, (H0 w.params).objs.size, (H0 w.params).nsMap mainGlobals "__annotations__") = (true, 39, ann) := by
  kernel_rfl
theorem left_ : LeftO prg qv names (fun s => xlAt qv [] s && recOk R.toRowW.records s) (fun s => s.heap) (fun w => H1 w.params) 30000 true := by
  refine LeftO.of_pieces (H₀ := H0) (H₁ := H1) (gs₀ := ⟨[]⟩) (gs₁ := ⟨[]⟩) (d₀ := {}) (d₁ := {}) (k₀ := 374) (k₁ := 2613) (m₀ := 39) (ann := ann) (M := 12 + (1 + (2001 + (1995 + (1902 + (1992 + (1876 + 2))))))) opening_ size_ (fun w os => whole w os) (by decide +kernel) fun w => funext fun os => ?_
  have l := looks w os
  have sn := seen_ok w os
  rw [← seenQ_eq] at sn
  exact Prod.ext l (Prod.ext sn rfl)
end K11H
set_option maxHeartbeats 0
namespace K11H
open PySem PySem.W PySem.Calls PyProof.Rows L2 HandSHeadRun
theorem hdef_ : defOf qv R.name = some (⟨"law", defArgs (topS 239), defBody (topS 239), defScope (topS 239), ((defOf qv "law").map (·.1.pos)).getD default⟩, []) := by kernel_rfl
theorem hp_ : R.prog.theDef R.name = some (defArgs (topS 239), defBody (topS 239), defScope (topS 239)) := by kernel_rfl
theorem chains_ : chainsOk qv = true := by decide +kernel
end K11H
set_option maxHeartbeats 0
namespace K11H
open PySem PySem.W PySem.Calls PyProof.Rows L2 HandSHeadRun
theorem frees_ : (frees R.toRowW && R.within.isEmpty) = true := by decide +kernel
theorem opens_ : opensWell R.prog = true := by kernel_rfl
end K11H
set_option maxHeartbeats 0
/-! HS8c: the tables of the scopes are whole, looked at in pieces. -/
namespace K11H
open PySem PySem.W PySem.Calls PyProof.Rows L2 HandSHeadRun
theorem hold_app (top : Scope) (cx : TablesWhole.Ctx) (sc : Scope) : ∀ a b : List Stmt, TablesWhole.wSs TablesWhole.holds top cx sc (a ++ b) = (TablesWhole.wSs TablesWhole.holds top cx sc a && TablesWhole.wSs TablesWhole.holds top cx sc b)
  | [], b => by rw [List.nil_append, TablesWhole.wSs]; rfl
  | s :: a, b => by
    rw [List.cons_append, TablesWhole.wSs, TablesWhole.wSs, hold_app top cx sc a b]
    show (_ && (_ && _)) = ((_ && _) && _)
    rw [Bool.and_assoc]
theorem gath_app (top : Scope) (cx : TablesWhole.Ctx) (sc : Scope) : ∀ a b : List Stmt, TablesWhole.wSs TablesWhole.gather top cx sc (a ++ b) = TablesWhole.wSs TablesWhole.gather top cx sc a ++ TablesWhole.wSs TablesWhole.gather top cx sc b
  | [], b => by rw [List.nil_append, TablesWhole.wSs]; rfl
  | s :: a, b => by
    rw [List.cons_append, TablesWhole.wSs, TablesWhole.wSs, gath_app top cx sc a b]
    show _ ++ (_ ++ _) = (_ ++ _) ++ _
    rw [List.append_assoc]
abbrev pB : List Stmt := prg.main.body
abbrev pS : Scope := prg.main.scope
def piece (k : Nat) : List Stmt := (pB.drop (48 * k)).take 48
theorem pieces : pB = piece 0 ++ (piece 1 ++ (piece 2 ++ (piece 3 ++ piece 4))) := by kernel_rfl
abbrev cx0 : TablesWhole.Ctx := ⟨pS, [], [], [], none⟩
abbrev okP (k : Nat) : Prop := TablesWhole.wSs TablesWhole.holds pS cx0 pS (piece k) = true
abbrev noP (k : Nat) : Prop := TablesWhole.wSs TablesWhole.gather pS cx0 pS (piece k) = []
theorem ok0 : okP 0 := by kernel_rfl
theorem ok1 : okP 1 := by kernel_rfl
theorem ok2 : okP 2 := by kernel_rfl
theorem ok3 : okP 3 := by kernel_rfl
theorem ok4 : okP 4 := by kernel_rfl
theorem no0 : noP 0 := by kernel_rfl
theorem no1 : noP 1 := by kernel_rfl
theorem no2 : noP 2 := by kernel_rfl
theorem no3 : noP 3 := by kernel_rfl
theorem no4 : noP 4 := by kernel_rfl
theorem told_ : TablesWhole.wSs TablesWhole.gather pS cx0 pS pB = [] := by
  rw [pieces, gath_app, gath_app, gath_app, gath_app, no0, no1, no2, no3, no4]
  rfl
theorem all_ok : TablesWhole.wSs TablesWhole.holds pS cx0 pS pB = true := by
  rw [pieces, hold_app, hold_app, hold_app, hold_app, ok0, ok1, ok2, ok3, ok4]
  rfl
theorem twice_ : TablesWhole.noTwice pS = true := by kernel_rfl
theorem main_ : TablesWhole.wModule TablesWhole.holds prg.main = true := by
  have e : TablesWhole.wModule TablesWhole.holds prg.main = TablesWhole.holds.all [TablesWhole.holds.enter pS, TablesWhole.holds.check "no name twice in a table, but a class's lawful pair" pS ("(the table)" : Str) (TablesWhole.noTwice pS), TablesWhole.wSs TablesWhole.holds pS ⟨pS, [], TablesWhole.wSs TablesWhole.gather pS cx0 pS pB, [], none⟩ pS pB] := rfl
  rw [e, told_, all_ok, twice_]
  rfl
theorem whole_ : R.prog.tablesWhole = true := by
  have e : R.prog.tablesWhole = TablesWhole.holds.all [TablesWhole.wModule TablesWhole.holds prg.main, TablesWhole.holds.all [], TablesWhole.holds.all [], TablesWhole.holds.all []] := rfl
  rw [e, main_]
  rfl
theorem bare_ : R.prog.bare := ⟨rfl, rfl, rfl, rfl, rfl, whole_⟩
end K11H
set_option maxHeartbeats 0
namespace K11H
open PySem PySem.W PySem.Calls PyProof.Rows L2 HandSHeadRun
theorem prom_ : R.toRowW.promised := by w_witness2
end K11H
set_option maxHeartbeats 0
/-! HS8: the law of the row from a walk that knows all objects behind the top. -/
namespace K11H
open PySem PySem.W PySem.Calls PyProof.Rows L2 HandSHeadRun
/-- all objects of the top stand -/
def Stands (w : World) (h : Heap) : Prop := ∀ b o, (H1 w.params).get? b = some o → h.get? b = some o
/-- an object of the last state -/
theorem H1_get {P : Params} {a : Addr} {o : Obj} (lt : Nat.blt a 1597 = true) (e : (t6 P).get a = some o) (nf : (match o.data with | .freed => false | _ => true) = true) : (H1 P).get? a = some o := by
  have h : a < 1597 := by simpa using Nat.blt_eq.mp lt
  have z := absHeap_at (t6 P) 1597 {} a
  rw [if_pos h, e] at z
  unfold H1 Heap.get?
  rw [z]
  obtain ⟨c, d, dt, sl⟩ := o
  cases dt <;> first | rfl | cases nf
theorem row_of (said : R.wellSaid = true) (call : WalkO qv names (XL qv []) Stands R.toRowW ⟨"law", defArgs (topS 239), defBody (topS 239), defScope (topS 239), ((defOf qv "law").map (·.1.pos)).getD default⟩ [] fun f vs => PySem.call f vs) : R.Holds := by
  refine holds_open (r := R) (q := qv) (loose := names) (XP := XL qv []) (YP := Stands) (kwd := []) left_ (fun w s e => ?_) (fun w h h' k e b o z => e b o (k b o z)) (fun s z => xl_of s (Bool.and_eq_true_iff.mp z).1) XL.keeps hdef_ hp_ (by rfl) (fun s z => recFacts_of (Bool.and_eq_true_iff.mp z).2) (by first | rfl | decide +kernel) said ?ok bare_ prom_ call
  · intro b o z
    have e' : s.heap = H1 w.params := e
    rw [e']
    exact z
  case ok => exact Bool.and_eq_true_iff.mpr ⟨Bool.and_eq_true_iff.mpr ⟨chains_, opens_⟩, frees_⟩
end K11H
set_option maxHeartbeats 0
/-! HS9: .. and of the law. -/
namespace K11H
open PySem PySem.W PySem.Calls PyProof.Rows L2 HandSHeadRun
theorem holds_of (call : WalkO qv names (XL qv []) Stands R.toRowW ⟨"law", defArgs (topS 239), defBody (topS 239), defScope (topS 239), ((defOf qv "law").map (·.1.pos)).getD default⟩ [] fun f vs => PySem.call f vs) :
    PySem.Challenge.rw_frametongue_k11_desks_undone_and_equal.Holds := by
  w_on; o_law
  rename_i said
  exact row_of said call
end K11H
set_option maxHeartbeats 0
/-! M26: the written part as a literal. -/
namespace K11H
open PySem PySem.W PySem.Calls PyProof.Rows L2 HandSHeadRun
/-- the objects that the walk looks at -/
noncomputable def KL (P : Params) : Frag := [(0, (o0_0 P)), (1, (o1_0 P)), (2, (o2_0 P)), (3, (o3_6 P)), (4, o4_0), (5, o5_0), (6, o6_0), (7, o7_0), (8, o8_0), (9, o9_0), (10, o10_0), (11, o11_0), (12, (o12_0 P)), (13, o13_0), (14, (o14_0 P)), (15, (o15_0 P)), (16, o16_0), (17, o17_0), (18, o18_0), (19, o19_0), (20, o20_0), (21, (o21_0 P)), (22, o22_0), (23, o23_0), (24, o24_0), (25, o25_0), (26, (o26_0 P)), (27, o27_0), (28, o28_0), (29, o29_0), (30, o30_0), (31, (o31_0 P)), (32, (o32_0 P)), (33, o33_0), (34, o34_0), (35, o35_0), (36, o36_0), (37, o37_0), (38, o38_0), (58, (o58_2 P)), (59, o59_2), (66, o66_2), (77, o77_2), (78, o78_2), (80, (o80_2 P)), (81, o81_2), (101, (o101_2 P)), (102, o102_2), (108, o108_2), (119, o119_2), (120, o120_2), (122, (o122_2 P)), (123, o123_2), (134, (o134_2 P)), (135, o135_2), (406, o406_3), (407, o407_3), (408, o408_3), (414, o414_3), (415, o415_3), (421, o421_3), (422, o422_3), (428, o428_3), (429, o429_3), (435, o435_3), (436, o436_3), (1361, (o1361_6 P)), (1367, o1367_6), (1368, o1368_6), (1374, o1374_6), (1375, o1375_6), (1381, o1381_6), (1382, o1382_6), (1388, o1388_6), (1389, o1389_6), (1395, o1395_6), (1396, o1396_6), (1402, o1402_6), (1403, o1403_6), (1407, o1407_6), (1408, o1408_6), (1426, o1426_6), (1427, o1427_6), (1433, o1433_6), (1434, o1434_6), (1440, o1440_6), (1441, o1441_6), (1447, o1447_6), (1448, o1448_6), (1489, o1489_6), (1490, o1490_6), (1492, (o1492_6 P)), (1493, o1493_6), (1503, o1503_6), (1504, o1504_6), (1510, o1510_6), (1511, o1511_6), (1517, o1517_6), (1518, o1518_6), (1524, o1524_6), (1525, o1525_6), (1531, o1531_6), (1532, o1532_6), (1538, o1538_6), (1539, o1539_6), (1545, o1545_6), (1546, o1546_6), (1552, o1552_6), (1553, o1553_6), (1559, o1559_6), (1560, o1560_6), (1566, o1566_6), (1567, o1567_6), (1573, o1573_6), (1574, o1574_6), (1578, o1578_6), (1579, o1579_6), (1585, o1585_6), (1586, o1586_6), (1590, o1590_6), (1591, o1591_6), (1595, o1595_6), (1596, o1596_6)]
theorem KL_eq (P : Params) : (KL P).map (fun p => (t6 P).get p.1) = (KL P).map fun p => some p.2 := by kernel_rfl
def liveO (o : Obj) : Bool := match o.data with | .freed => false | _ => true
theorem KL_ok (P : Params) : (KL P).all (fun p => Nat.blt p.1 1597 && liveO p.2) = true := by kernel_rfl
theorem look_mem {a : Addr} {o : Obj} : ∀ {l : Frag}, l.lookup a = some o → (a, o) ∈ l
  | [], h => by cases h
  | (b, u) :: l, h => by
    rw [List.lookup_cons] at h
    cases q : a == b with
    | true =>
      rw [q] at h
      cases h
      rw [beq_iff_eq.mp q]
      exact List.mem_cons_self
    | false =>
      rw [q] at h
      exact List.mem_cons_of_mem _ (look_mem h)
theorem map_mem {α β : Type} {f g : α → β} {a : α} : ∀ {l : List α}, l.map f = l.map g → a ∈ l → f a = g a
  | x :: l, h, m => by
    have h1 := List.cons.inj h
    rcases List.mem_cons.mp m with rfl | m
    · exact h1.1
    · exact map_mem h1.2 m
theorem KL_in {w : World} {h : Heap} (st : Stands w h) : (KL w.params).In h := fun a o e => by
  have m := look_mem e
  have e1 := map_mem (KL_eq w.params) m
  have e2 := List.all_eq_true.mp (KL_ok w.params) _ m
  obtain ⟨q1, q2⟩ := Bool.and_eq_true_iff.mp e2
  exact st a o (H1_get q1 e1 q2)
theorem tabs_ {w : World} {h : Heap} (st : Stands w h) : ∀ p ∈ [((1374 : Addr), (1370 : Addr)), (1573, 1569)], h.get? p.2 = some K11.tabO := fun p m => by
  simp only [List.mem_cons, List.not_mem_nil, or_false] at m
  rcases m with rfl | rfl
  · exact st _ _ (H1_get (by kernel_rfl) (show (t6 w.params).get 1370 = some K11.tabO by kernel_rfl) rfl)
  · exact st _ _ (H1_get (by kernel_rfl) (show (t6 w.params).get 1569 = some K11.tabO by kernel_rfl) rfl)
end K11H
set_option maxHeartbeats 0
/-! M27: facts of the written part. -/
namespace K11H
open PySem PySem.Spec PySem.Calls PyProof.Rows L2 HandSHeadRun DL LamX
open PySem.W (Frag keepIn findIn typeIn subIn mroIn nsIn clsIn hasDictIn specialIn takesIn kitOne kitAny excIn excInitIn codeIn ks_superIn fnX fnOf ksEnv exmOne notFirst isFn plainGet plainOver makesIn)
variable (P : Params)
abbrev fd_is_whole : FuncData := fnOf "is_whole" "is_whole" (defArgs K11.sWhole) (defBody K11.sWhole) (defScope K11.sWhole) (.none) (.none) (.none) (.str "frametongue.values" 875) none (.ref 406) (.none)
theorem f_is_whole : L2.Fun (KL P) "is_whole" "is_whole" K11.sWhole 407 fd_is_whole := fun_mk (oc := .type "function") (od := none) (osl := ⟨[]⟩) (by kernel_rfl) (by kernel_rfl) (by kernel_rfl)
abbrev fd_is_string : FuncData := fnOf "is_string" "is_string" (defArgs K11.sString) (defBody K11.sString) (defScope K11.sString) (.none) (.none) (.none) (.str "frametongue.values" 875) none (.ref 421) (.none)
theorem f_is_string : L2.Fun (KL P) "is_string" "is_string" K11.sString 422 fd_is_string := fun_mk (oc := .type "function") (od := none) (osl := ⟨[]⟩) (by kernel_rfl) (by kernel_rfl) (by kernel_rfl)
abbrev fd_is_row : FuncData := fnOf "is_row" "is_row" (defArgs K11.sIsRow) (defBody K11.sIsRow) (defScope K11.sIsRow) (.none) (.none) (.none) (.str "frametongue.values" 875) none (.ref 428) (.none)
theorem f_is_row : L2.Fun (KL P) "is_row" "is_row" K11.sIsRow 429 fd_is_row := fun_mk (oc := .type "function") (od := none) (osl := ⟨[]⟩) (by kernel_rfl) (by kernel_rfl) (by kernel_rfl)
abbrev fd_first_wrong : FuncData := fnOf "first_wrong" "first_wrong" (defArgs K11.sWrong) (defBody K11.sWrong) (defScope K11.sWrong) (.none) (.none) (.none) (.str "frametongue.values" 875) none (.ref 435) (.none)
theorem f_first_wrong : L2.Fun (KL P) "first_wrong" "first_wrong" K11.sWrong 436 fd_first_wrong := fun_mk (oc := .type "function") (od := none) (osl := ⟨[]⟩) (by kernel_rfl) (by kernel_rfl) (by kernel_rfl)
abbrev fd_is_desk_row : FuncData := fnOf "is_desk_row" "is_desk_row" (defArgs K11.sDeskRow) (defBody K11.sDeskRow) (defScope K11.sDeskRow) (.none) (.none) (.none) (.str "frametongue.desks" 2279) none (.ref 1367) (.none)
theorem f_is_desk_row : L2.Fun (KL P) "is_desk_row" "is_desk_row" K11.sDeskRow 1368 fd_is_desk_row := fun_mk (oc := .type "function") (od := none) (osl := ⟨[]⟩) (by kernel_rfl) (by kernel_rfl) (by kernel_rfl)
abbrev fd_check_rows : FuncData := fnOf "check_rows" "check_rows" (defArgs K11.sCheckRows) (defBody K11.sCheckRows) (defScope K11.sCheckRows) (.none) (.none) (.none) (.str "frametongue.desks" 2279) none (.ref 1374) (.none)
theorem f_check_rows : L2.Fun (KL P) "check_rows" "check_rows" K11.sCheckRows 1375 fd_check_rows := fun_mk (oc := .type "function") (od := none) (osl := ⟨[]⟩) (by kernel_rfl) (by kernel_rfl) (by kernel_rfl)
abbrev fd_has_form : FuncData := fnOf "has_form" "has_form" (defArgs K11.sHasForm) (defBody K11.sHasForm) (defScope K11.sHasForm) (.none) (.none) (.none) (.str "frametongue.desks" 2279) none (.ref 1381) (.none)
theorem f_has_form : L2.Fun (KL P) "has_form" "has_form" K11.sHasForm 1382 fd_has_form := fun_mk (oc := .type "function") (od := none) (osl := ⟨[]⟩) (by kernel_rfl) (by kernel_rfl) (by kernel_rfl)
abbrev fd_check_deed : FuncData := fnOf "check_deed" "check_deed" (defArgs K11.sCheckDeed) (defBody K11.sCheckDeed) (defScope K11.sCheckDeed) (.none) (.none) (.none) (.str "frametongue.desks" 2279) none (.ref 1388) (.none)
theorem f_check_deed : L2.Fun (KL P) "check_deed" "check_deed" K11.sCheckDeed 1389 fd_check_deed := fun_mk (oc := .type "function") (od := none) (osl := ⟨[]⟩) (by kernel_rfl) (by kernel_rfl) (by kernel_rfl)
abbrev fd_reason_against : FuncData := fnOf "reason_against" "reason_against" (defArgs K11.sReason) (defBody K11.sReason) (defScope K11.sReason) (.none) (.none) (.none) (.str "frametongue.desks" 2279) none (.ref 1395) (.none)
theorem f_reason_against : L2.Fun (KL P) "reason_against" "reason_against" K11.sReason 1396 fd_reason_against := fun_mk (oc := .type "function") (od := none) (osl := ⟨[]⟩) (by kernel_rfl) (by kernel_rfl) (by kernel_rfl)
abbrev fd_rows_behind : FuncData := fnOf "rows_behind" "rows_behind" (defArgs K11.sBehind) (defBody K11.sBehind) (defScope K11.sBehind) (.none) (.none) (.none) (.str "frametongue.desks" 2279) none (.ref 1402) (.none)
theorem f_rows_behind : L2.Fun (KL P) "rows_behind" "rows_behind" K11.sBehind 1403 fd_rows_behind := fun_mk (oc := .type "function") (od := none) (osl := ⟨[]⟩) (by kernel_rfl) (by kernel_rfl) (by kernel_rfl)
abbrev fd_text_of_rows : FuncData := fnOf "text_of_rows" "text_of_rows" (defArgs K11.sTextOf) (defBody K11.sTextOf) (defScope K11.sTextOf) (.none) (.none) (.none) (.str "frametongue.desks" 2279) none (.ref 1407) (.none)
theorem f_text_of_rows : L2.Fun (KL P) "text_of_rows" "text_of_rows" K11.sTextOf 1408 fd_text_of_rows := fun_mk (oc := .type "function") (od := none) (osl := ⟨[]⟩) (by kernel_rfl) (by kernel_rfl) (by kernel_rfl)
abbrev fd__law_purse : FuncData := fnOf "_law_purse" "_law_purse" (defArgs K11.sPurse) (defBody K11.sPurse) (defScope K11.sPurse) (.none) (.none) (.none) (.str "law_frametongue_k11_desks_undone_and_equal" 2468) none (.ref 1503) (.none)
theorem f__law_purse : L2.Fun (KL P) "_law_purse" "_law_purse" K11.sPurse 1504 fd__law_purse := fun_mk (oc := .type "function") (od := none) (osl := ⟨[]⟩) (by kernel_rfl) (by kernel_rfl) (by kernel_rfl)
abbrev fd__law_take : FuncData := fnOf "_law_take" "_law_take" (defArgs K11.sTake) (defBody K11.sTake) (defScope K11.sTake) (.none) (.none) (.none) (.str "law_frametongue_k11_desks_undone_and_equal" 2468) none (.ref 1510) (.none)
theorem f__law_take : L2.Fun (KL P) "_law_take" "_law_take" K11.sTake 1511 fd__law_take := fun_mk (oc := .type "function") (od := none) (osl := ⟨[]⟩) (by kernel_rfl) (by kernel_rfl) (by kernel_rfl)
abbrev fd__law_pick : FuncData := fnOf "_law_pick" "_law_pick" (defArgs K11.sPick) (defBody K11.sPick) (defScope K11.sPick) (.none) (.none) (.none) (.str "law_frametongue_k11_desks_undone_and_equal" 2468) none (.ref 1517) (.none)
theorem f__law_pick : L2.Fun (KL P) "_law_pick" "_law_pick" K11.sPick 1518 fd__law_pick := fun_mk (oc := .type "function") (od := none) (osl := ⟨[]⟩) (by kernel_rfl) (by kernel_rfl) (by kernel_rfl)
abbrev fd__law_same : FuncData := fnOf "_law_same" "_law_same" (defArgs K11.sSame) (defBody K11.sSame) (defScope K11.sSame) (.none) (.none) (.none) (.str "law_frametongue_k11_desks_undone_and_equal" 2468) none (.ref 1524) (.none)
theorem f__law_same : L2.Fun (KL P) "_law_same" "_law_same" K11.sSame 1525 fd__law_same := fun_mk (oc := .type "function") (od := none) (osl := ⟨[]⟩) (by kernel_rfl) (by kernel_rfl) (by kernel_rfl)
abbrev fd__law_move : FuncData := fnOf "_law_move" "_law_move" (defArgs K11.sMove) (defBody K11.sMove) (defScope K11.sMove) (.none) (.none) (.none) (.str "law_frametongue_k11_desks_undone_and_equal" 2468) none (.ref 1531) (.none)
theorem f__law_move : L2.Fun (KL P) "_law_move" "_law_move" K11.sMove 1532 fd__law_move := fun_mk (oc := .type "function") (od := none) (osl := ⟨[]⟩) (by kernel_rfl) (by kernel_rfl) (by kernel_rfl)
abbrev fd__law_said : FuncData := fnOf "_law_said" "_law_said" (defArgs K11.sSaid) (defBody K11.sSaid) (defScope K11.sSaid) (.none) (.none) (.none) (.str "law_frametongue_k11_desks_undone_and_equal" 2468) none (.ref 1538) (.none)
theorem f__law_said : L2.Fun (KL P) "_law_said" "_law_said" K11.sSaid 1539 fd__law_said := fun_mk (oc := .type "function") (od := none) (osl := ⟨[]⟩) (by kernel_rfl) (by kernel_rfl) (by kernel_rfl)
abbrev fd__law_is_so : FuncData := fnOf "_law_is_so" "_law_is_so" (defArgs K11.sIsSo) (defBody K11.sIsSo) (defScope K11.sIsSo) (.none) (.none) (.none) (.str "law_frametongue_k11_desks_undone_and_equal" 2468) none (.ref 1545) (.none)
theorem f__law_is_so : L2.Fun (KL P) "_law_is_so" "_law_is_so" K11.sIsSo 1546 fd__law_is_so := fun_mk (oc := .type "function") (od := none) (osl := ⟨[]⟩) (by kernel_rfl) (by kernel_rfl) (by kernel_rfl)
abbrev fd__law_page : FuncData := fnOf "_law_page" "_law_page" (defArgs K11.sPage) (defBody K11.sPage) (defScope K11.sPage) (.none) (.none) (.none) (.str "law_frametongue_k11_desks_undone_and_equal" 2468) none (.ref 1552) (.none)
theorem f__law_page : L2.Fun (KL P) "_law_page" "_law_page" K11.sPage 1553 fd__law_page := fun_mk (oc := .type "function") (od := none) (osl := ⟨[]⟩) (by kernel_rfl) (by kernel_rfl) (by kernel_rfl)
abbrev fd__law_deed : FuncData := fnOf "_law_deed" "_law_deed" (defArgs K11.sDeed) (defBody K11.sDeed) (defScope K11.sDeed) (.none) (.none) (.none) (.str "law_frametongue_k11_desks_undone_and_equal" 2468) none (.ref 1559) (.none)
theorem f__law_deed : L2.Fun (KL P) "_law_deed" "_law_deed" K11.sDeed 1560 fd__law_deed := fun_mk (oc := .type "function") (od := none) (osl := ⟨[]⟩) (by kernel_rfl) (by kernel_rfl) (by kernel_rfl)
abbrev fd__law_is_empty : FuncData := fnOf "_law_is_empty" "_law_is_empty" (defArgs K11.sIsEmpty) (defBody K11.sIsEmpty) (defScope K11.sIsEmpty) (.none) (.none) (.none) (.str "law_frametongue_k11_desks_undone_and_equal" 2468) none (.ref 1566) (.none)
theorem f__law_is_empty : L2.Fun (KL P) "_law_is_empty" "_law_is_empty" K11.sIsEmpty 1567 fd__law_is_empty := fun_mk (oc := .type "function") (od := none) (osl := ⟨[]⟩) (by kernel_rfl) (by kernel_rfl) (by kernel_rfl)
abbrev fd__law_run : FuncData := fnOf "_law_run" "_law_run" (defArgs K11.sRun) (defBody K11.sRun) (defScope K11.sRun) (.none) (.none) (.none) (.str "law_frametongue_k11_desks_undone_and_equal" 2468) none (.ref 1573) (.none)
theorem f__law_run : L2.Fun (KL P) "_law_run" "_law_run" K11.sRun 1574 fd__law_run := fun_mk (oc := .type "function") (od := none) (osl := ⟨[]⟩) (by kernel_rfl) (by kernel_rfl) (by kernel_rfl)
abbrev fd__law_are_equal : FuncData := fnOf "_law_are_equal" "_law_are_equal" (defArgs K11.sAreEqual) (defBody K11.sAreEqual) (defScope K11.sAreEqual) (.none) (.none) (.none) (.str "law_frametongue_k11_desks_undone_and_equal" 2468) none (.ref 1578) (.none)
theorem f__law_are_equal : L2.Fun (KL P) "_law_are_equal" "_law_are_equal" K11.sAreEqual 1579 fd__law_are_equal := fun_mk (oc := .type "function") (od := none) (osl := ⟨[]⟩) (by kernel_rfl) (by kernel_rfl) (by kernel_rfl)
abbrev fd__law_is_refused : FuncData := fnOf "_law_is_refused" "_law_is_refused" (defArgs K11.sIsRefused) (defBody K11.sIsRefused) (defScope K11.sIsRefused) (.none) (.none) (.none) (.str "law_frametongue_k11_desks_undone_and_equal" 2468) none (.ref 1585) (.none)
theorem f__law_is_refused : L2.Fun (KL P) "_law_is_refused" "_law_is_refused" K11.sIsRefused 1586 fd__law_is_refused := fun_mk (oc := .type "function") (od := none) (osl := ⟨[]⟩) (by kernel_rfl) (by kernel_rfl) (by kernel_rfl)
abbrev fd__law_right : FuncData := fnOf "_law_right" "_law_right" (defArgs K11.sRight) (defBody K11.sRight) (defScope K11.sRight) (.none) (.none) (.none) (.str "law_frametongue_k11_desks_undone_and_equal" 2468) none (.ref 1590) (.none)
theorem f__law_right : L2.Fun (KL P) "_law_right" "_law_right" K11.sRight 1591 fd__law_right := fun_mk (oc := .type "function") (od := none) (osl := ⟨[]⟩) (by kernel_rfl) (by kernel_rfl) (by kernel_rfl)
abbrev fd_law : FuncData := fnOf "law" "law" (defArgs K11.sLaw) (defBody K11.sLaw) (defScope K11.sLaw) (.none) (.none) (.none) (.str "law_frametongue_k11_desks_undone_and_equal" 2468) none (.ref 1595) (.none)
theorem f_law : L2.Fun (KL P) "law" "law" K11.sLaw 1596 fd_law := fun_mk (oc := .type "function") (od := none) (osl := ⟨[]⟩) (by kernel_rfl) (by kernel_rfl) (by kernel_rfl)
abbrev fd_DeskW_initW : FuncData := fnOf "__init__" "Desk.__init__" (defArgs K11.sInit) (defBody K11.sInit) (defScope K11.sInit) (.none) (.none) (.none) (.str "frametongue.desks" 2279) none (.ref 1426) (.none)
theorem f_DeskW_initW : L2.Fun (KL P) "__init__" "Desk.__init__" K11.sInit 1427 fd_DeskW_initW := fun_mk (oc := .type "function") (od := none) (osl := ⟨[]⟩) (by kernel_rfl) (by kernel_rfl) (by kernel_rfl)
abbrev fd_Desk_do : FuncData := fnOf "do" "Desk.do" (defArgs K11.sDo) (defBody K11.sDo) (defScope K11.sDo) (.none) (.none) (.none) (.str "frametongue.desks" 2279) none (.ref 1433) (.none)
theorem f_Desk_do : L2.Fun (KL P) "do" "Desk.do" K11.sDo 1434 fd_Desk_do := fun_mk (oc := .type "function") (od := none) (osl := ⟨[]⟩) (by kernel_rfl) (by kernel_rfl) (by kernel_rfl)
abbrev fd_Desk_undo : FuncData := fnOf "undo" "Desk.undo" (defArgs K11.sUndo) (defBody K11.sUndo) (defScope K11.sUndo) (.none) (.none) (.none) (.str "frametongue.desks" 2279) none (.ref 1440) (.none)
theorem f_Desk_undo : L2.Fun (KL P) "undo" "Desk.undo" K11.sUndo 1441 fd_Desk_undo := fun_mk (oc := .type "function") (od := none) (osl := ⟨[]⟩) (by kernel_rfl) (by kernel_rfl) (by kernel_rfl)
abbrev fd_Desk_text : FuncData := fnOf "text" "Desk.text" (defArgs K11.sText) (defBody K11.sText) (defScope K11.sText) (.none) (.none) (.none) (.str "frametongue.desks" 2279) none (.ref 1447) (.none)
theorem f_Desk_text : L2.Fun (KL P) "text" "Desk.text" K11.sText 1448 fd_Desk_text := fun_mk (oc := .type "function") (od := none) (osl := ⟨[]⟩) (by kernel_rfl) (by kernel_rfl) (by kernel_rfl)
abbrev fd_DeskW_eqW : FuncData := fnOf "__eq__" "Desk.__eq__" (defArgs K11.sEq) (defBody K11.sEq) (defScope K11.sEq) (.none) (.none) (.none) (.str "frametongue.desks" 2279) none (.ref 1489) (.none)
theorem f_DeskW_eqW : L2.Fun (KL P) "__eq__" "Desk.__eq__" K11.sEq 1490 fd_DeskW_eqW := fun_mk (oc := .type "function") (od := none) (osl := ⟨[]⟩) (by kernel_rfl) (by kernel_rfl) (by kernel_rfl)
abbrev fd_is_number : FuncData := fnOf "is_number" "is_number" (defArgs K11.sNumber) (defBody K11.sNumber) (defScope K11.sNumber) (.ref 408) (.none) (.none) (.str "frametongue.values" 875) none (.ref 414) (.none)
theorem f_is_number : L2.FunD (KL P) "is_number" "is_number" (defArgs K11.sNumber) (defBody K11.sNumber) (defScope K11.sNumber) [.int 0, .non] [] 415 fd_is_number :=
  ⟨⟨.type "function", none, (.ref 408), (.none), (.none), (.str "frametongue.values" 875), none, (.ref 414), (.none), ⟨[]⟩, rfl, by kernel_rfl, by kernel_rfl, .inr ⟨by simp, 408, o408_3, [.int 0 884, .none], 0, rfl, by kernel_rfl, rfl, .cons ⟨884, rfl⟩ (.cons rfl .nil)⟩, .inl rfl⟩, by kernel_rfl⟩
theorem g_is_whole : nsIn (KL P) mainGlobals "is_whole" = some (some (.ref 407)) := by kernel_rfl
theorem g_is_number : nsIn (KL P) mainGlobals "is_number" = some (some (.ref 415)) := by kernel_rfl
theorem g_is_string : nsIn (KL P) mainGlobals "is_string" = some (some (.ref 422)) := by kernel_rfl
theorem g_is_row : nsIn (KL P) mainGlobals "is_row" = some (some (.ref 429)) := by kernel_rfl
theorem g_first_wrong : nsIn (KL P) mainGlobals "first_wrong" = some (some (.ref 436)) := by kernel_rfl
theorem g_is_desk_row : nsIn (KL P) mainGlobals "is_desk_row" = some (some (.ref 1368)) := by kernel_rfl
theorem g_check_rows : nsIn (KL P) mainGlobals "check_rows" = some (some (.ref 1375)) := by kernel_rfl
theorem g_has_form : nsIn (KL P) mainGlobals "has_form" = some (some (.ref 1382)) := by kernel_rfl
theorem g_check_deed : nsIn (KL P) mainGlobals "check_deed" = some (some (.ref 1389)) := by kernel_rfl
theorem g_reason_against : nsIn (KL P) mainGlobals "reason_against" = some (some (.ref 1396)) := by kernel_rfl
theorem g_rows_behind : nsIn (KL P) mainGlobals "rows_behind" = some (some (.ref 1403)) := by kernel_rfl
theorem g_text_of_rows : nsIn (KL P) mainGlobals "text_of_rows" = some (some (.ref 1408)) := by kernel_rfl
theorem g__law_purse : nsIn (KL P) mainGlobals "_law_purse" = some (some (.ref 1504)) := by kernel_rfl
theorem g__law_take : nsIn (KL P) mainGlobals "_law_take" = some (some (.ref 1511)) := by kernel_rfl
theorem g__law_pick : nsIn (KL P) mainGlobals "_law_pick" = some (some (.ref 1518)) := by kernel_rfl
theorem g__law_same : nsIn (KL P) mainGlobals "_law_same" = some (some (.ref 1525)) := by kernel_rfl
theorem g__law_move : nsIn (KL P) mainGlobals "_law_move" = some (some (.ref 1532)) := by kernel_rfl
theorem g__law_said : nsIn (KL P) mainGlobals "_law_said" = some (some (.ref 1539)) := by kernel_rfl
theorem g__law_is_so : nsIn (KL P) mainGlobals "_law_is_so" = some (some (.ref 1546)) := by kernel_rfl
theorem g__law_page : nsIn (KL P) mainGlobals "_law_page" = some (some (.ref 1553)) := by kernel_rfl
theorem g__law_deed : nsIn (KL P) mainGlobals "_law_deed" = some (some (.ref 1560)) := by kernel_rfl
theorem g__law_is_empty : nsIn (KL P) mainGlobals "_law_is_empty" = some (some (.ref 1567)) := by kernel_rfl
theorem g__law_run : nsIn (KL P) mainGlobals "_law_run" = some (some (.ref 1574)) := by kernel_rfl
theorem g__law_are_equal : nsIn (KL P) mainGlobals "_law_are_equal" = some (some (.ref 1579)) := by kernel_rfl
theorem g__law_is_refused : nsIn (KL P) mainGlobals "_law_is_refused" = some (some (.ref 1586)) := by kernel_rfl
theorem g__law_right : nsIn (KL P) mainGlobals "_law_right" = some (some (.ref 1591)) := by kernel_rfl
theorem g_law : nsIn (KL P) mainGlobals "law" = some (some (.ref 1596)) := by kernel_rfl
theorem g_InvalidRows : nsIn (KL P) mainGlobals "InvalidRows" = some (some (.ref 81)) := by kernel_rfl
theorem g_Barred : nsIn (KL P) mainGlobals "Barred" = some (some (.ref 123)) := by kernel_rfl
theorem g_NothingToUndo : nsIn (KL P) mainGlobals "NothingToUndo" = some (some (.ref 135)) := by kernel_rfl
theorem g_Desk : nsIn (KL P) mainGlobals "Desk" = some (some (.ref 1493)) := by kernel_rfl
theorem g_SIZES : nsIn (KL P) mainGlobals "SIZES" = some (some (.ref 1361)) := by kernel_rfl
theorem g_MOST_DESK : nsIn (KL P) mainGlobals "MOST_DESK" = some (some (.int 20 2281)) := by kernel_rfl
theorem g_MOST_SIGNS : nsIn (KL P) mainGlobals "MOST_SIGNS" = some (some (.int 200 2283)) := by kernel_rfl
theorem g_FULL : nsIn (KL P) mainGlobals "FULL" = some (some (.str "full" 2295)) := by kernel_rfl
theorem g_FAR : nsIn (KL P) mainGlobals "FAR" = some (some (.str "far" 2297)) := by kernel_rfl
theorem g_NONE : nsIn (KL P) mainGlobals "NONE" = some (some (.str "none" 2299)) := by kernel_rfl
theorem g_SAME : nsIn (KL P) mainGlobals "SAME" = some (some (.str "same" 2301)) := by kernel_rfl
theorem n_len : nsIn (KL P) mainGlobals "len" = some none := by kernel_rfl
theorem n_int : nsIn (KL P) mainGlobals "int" = some none := by kernel_rfl
theorem n_abs : nsIn (KL P) mainGlobals "abs" = some none := by kernel_rfl
theorem n_range : nsIn (KL P) mainGlobals "range" = some none := by kernel_rfl
theorem n_max : nsIn (KL P) mainGlobals "max" = some none := by kernel_rfl
theorem n_min : nsIn (KL P) mainGlobals "min" = some none := by kernel_rfl
theorem n_all : nsIn (KL P) mainGlobals "all" = some none := by kernel_rfl
theorem n_isinstance : nsIn (KL P) mainGlobals "isinstance" = some none := by kernel_rfl
theorem n_repr : nsIn (KL P) mainGlobals "repr" = some none := by kernel_rfl
theorem n_super : nsIn (KL P) mainGlobals "super" = some none := by kernel_rfl
theorem n_str : nsIn (KL P) mainGlobals "str" = some none := by kernel_rfl
theorem n_tuple : nsIn (KL P) mainGlobals "tuple" = some none := by kernel_rfl
theorem n_bool : nsIn (KL P) mainGlobals "bool" = some none := by kernel_rfl
theorem n_list : nsIn (KL P) mainGlobals "list" = some none := by kernel_rfl
theorem n_enumerate : nsIn (KL P) mainGlobals "enumerate" = some none := by kernel_rfl
theorem z_dic : He.dicW (KL P) 1361 = some (He.keysIn P ["put", "row", "out"]) := by kernel_rfl
theorem z_put : nsIn (KL P) 1361 "put" = some (some (.int 3 2286)) := by kernel_rfl
theorem z_row : nsIn (KL P) 1361 "row" = some (some (.int 3 2288)) := by kernel_rfl
theorem z_out : nsIn (KL P) 1361 "out" = some (some (.int 2 2290)) := by kernel_rfl
theorem d_pg : plainGet (KL P) 1493 Str.empty = true := by kernel_rfl
theorem d_hd : hasDictIn (KL P) 1493 = true := by kernel_rfl
theorem d_po : plainOver (KL P) 1493 = true := by kernel_rfl
theorem d_sa : findIn (KL P) (.ref 1493) "__setattr__" = some (some (.builtin "object.__setattr__")) := by kernel_rfl
theorem d_n_rows : findIn (KL P) (.ref 1493) "rows" = some none := by kernel_rfl
theorem d_n_begun : findIn (KL P) (.ref 1493) "begun" = some none := by kernel_rfl
theorem d_n_deeds : findIn (KL P) (.ref 1493) "deeds" = some none := by kernel_rfl
theorem d_n_past : findIn (KL P) (.ref 1493) "past" = some none := by kernel_rfl
theorem d_ca : findIn (KL P) (.ref 1493) "__class__" = some (some (.builtin "object.__class__")) := by kernel_rfl
theorem d_sp : specialIn (KL P) (.builtin "object.__class__") "__get__" = some (some (.builtin "getset_descriptor.__get__")) := by kernel_rfl
theorem d_tk : takesIn (KL P) (.builtin "object.__class__") = some true := by kernel_rfl
theorem d_mo : mroIn (KL P) 1493 (.type "object") = some true := by kernel_rfl
theorem d_kI : kitOne (KL P) (.ref 1493) (.ref 1493) = some true := by kernel_rfl
theorem d_kN : kitOne (KL P) (.type "NoneType") (.ref 1493) = some false := by kernel_rfl
theorem d_fN : notFirst (KL P) 1493 (.type "NoneType") = true := by kernel_rfl
theorem d_kT : kitOne (KL P) (.type "tuple") (.ref 1493) = some false := by kernel_rfl
theorem d_fT : notFirst (KL P) 1493 (.type "tuple") = true := by kernel_rfl
theorem d_kS : kitOne (KL P) (.type "str") (.ref 1493) = some false := by kernel_rfl
theorem d_fS : notFirst (KL P) 1493 (.type "str") = true := by kernel_rfl
theorem d_kB : kitOne (KL P) (.type "bool") (.ref 1493) = some false := by kernel_rfl
theorem d_fB : notFirst (KL P) 1493 (.type "bool") = true := by kernel_rfl
theorem d_fI : notFirst (KL P) 1493 (.ref 1493) = true := by kernel_rfl
theorem d_tb : findIn (KL P) (.ref 1493) "__bool__" = some none := by kernel_rfl
theorem d_tl : findIn (KL P) (.ref 1493) "__len__" = some none := by kernel_rfl
theorem d_mk : makesIn (KL P) 1493 = true := by kernel_rfl
theorem d_kc : keepIn (KL P) (.ref 1493) = true := by kernel_rfl
theorem m_DeskW_initW : findIn (KL P) (.ref 1493) "__init__" = some (some (.ref 1427)) := by kernel_rfl
theorem i_DeskW_initW : isFn (KL P) (.ref 1427) = true := by kernel_rfl
theorem m_Desk_do : findIn (KL P) (.ref 1493) "do" = some (some (.ref 1434)) := by kernel_rfl
theorem i_Desk_do : isFn (KL P) (.ref 1434) = true := by kernel_rfl
theorem m_Desk_undo : findIn (KL P) (.ref 1493) "undo" = some (some (.ref 1441)) := by kernel_rfl
theorem i_Desk_undo : isFn (KL P) (.ref 1441) = true := by kernel_rfl
theorem m_Desk_text : findIn (KL P) (.ref 1493) "text" = some (some (.ref 1448)) := by kernel_rfl
theorem i_Desk_text : isFn (KL P) (.ref 1448) = true := by kernel_rfl
theorem m_DeskW_eqW : findIn (KL P) (.ref 1493) "__eq__" = some (some (.ref 1490)) := by kernel_rfl
theorem i_DeskW_eqW : isFn (KL P) (.ref 1490) = true := by kernel_rfl
theorem d_ne : findIn (KL P) (.ref 1493) "__ne__" = some (some (.builtin "object.__ne__")) := by kernel_rfl
theorem e_su_InvalidRows : K11.suB (KL P) 81 78 ["index"] = true := by kernel_rfl
theorem e_in_InvalidRows : K11.inB (KL P) "InvalidRows.__init__" 77 66 81 = true := by kernel_rfl
theorem e_l_InvalidRows : (KL P).lookup 78 = some ⟨.type "function", none, .func (fnX "__init__" "InvalidRows.__init__" (defArgs K11.sRowsErr) (defBody K11.sRowsErr) (defScope K11.sRowsErr) [("__class__", 66)] .none (.none) (.none) (.str "frametongue.errors" 387) none (.ref 77) (.ref 71)), ⟨[]⟩⟩ := by kernel_rfl
theorem e_na_InvalidRows : findIn (KL P) (.ref 81) "index" = some none := by kernel_rfl
theorem e_su_Barred : K11.suB (KL P) 123 120 ["reason"] = true := by kernel_rfl
theorem e_in_Barred : K11.inB (KL P) "Barred.__init__" 119 108 123 = true := by kernel_rfl
theorem e_l_Barred : (KL P).lookup 120 = some ⟨.type "function", none, .func (fnX "__init__" "Barred.__init__" (defArgs K11.sBarErr) (defBody K11.sBarErr) (defScope K11.sBarErr) [("__class__", 108)] .none (.none) (.none) (.str "frametongue.errors" 387) none (.ref 119) (.ref 113)), ⟨[]⟩⟩ := by kernel_rfl
theorem e_na_Barred : findIn (KL P) (.ref 123) "reason" = some none := by kernel_rfl
theorem e_ei_InvalidRows : K11.eiB (KL P) 81 = true := by kernel_rfl
theorem e_k_InvalidRows : keepIn (KL P) (.ref 81) = true := by kernel_rfl
theorem e_ex_InvalidRows : exmOne (KL P) (.ref 81) (.ref 81) = some true := by kernel_rfl
theorem e_xf_InvalidRows : xfB (KL P) 81 = true := by kernel_rfl
theorem e_ei_Barred : K11.eiB (KL P) 123 = true := by kernel_rfl
theorem e_k_Barred : keepIn (KL P) (.ref 123) = true := by kernel_rfl
theorem e_ex_Barred : exmOne (KL P) (.ref 123) (.ref 123) = some true := by kernel_rfl
theorem e_xf_Barred : xfB (KL P) 123 = true := by kernel_rfl
theorem e_ei_NothingToUndo : K11.eiB (KL P) 135 = true := by kernel_rfl
theorem e_k_NothingToUndo : keepIn (KL P) (.ref 135) = true := by kernel_rfl
theorem e_ex_NothingToUndo : exmOne (KL P) (.ref 135) (.ref 135) = some true := by kernel_rfl
theorem e_xf_NothingToUndo : xfB (KL P) 135 = true := by kernel_rfl
theorem e_x0 : excIn (KL P) 135 K11.veB "ValueError.__new__" = true := by kernel_rfl
theorem t_1 : (KL P).lookup 1370 = none := by kernel_rfl
theorem t_2 : (KL P).lookup 1569 = none := by kernel_rfl
theorem c_1 : (KL P).lookup 1374 = some o1374_6 := by kernel_rfl
theorem c_2 : (KL P).lookup 1573 = some o1573_6 := by kernel_rfl
end K11H
set_option maxHeartbeats 0
/-! M28: all defs, and the law. -/
namespace K11H
open PySem PySem.Spec PySem.Calls PyProof.Rows L2 HandSHeadRun DL LamX
open PySem.W (Frag keepIn findIn typeIn subIn mroIn nsIn clsIn hasDictIn specialIn takesIn kitOne kitAny excIn excInitIn codeIn ks_superIn fnX fnOf ksEnv exmOne notFirst isFn plainGet plainOver makesIn)
/-- the tables of code objects, and the names that stand in them -/
abbrev TT : List (Addr × Str) := [(1370, K11.qC), (1569, K11.qR)]
abbrev CS : List (Addr × Addr) := [(1374, 1370), (1573, 1569)]
theorem b_is_whole (P : Params) : L2.Binds (KL P) fd_is_whole ["value"] [] := (f_is_whole P).binds fun _ _ _ _ _ _ us hl => match us, hl with | [_], _ => rfl
theorem b_is_string (P : Params) : L2.Binds (KL P) fd_is_string ["value"] [] := (f_is_string P).binds fun _ _ _ _ _ _ us hl => match us, hl with | [_], _ => rfl
theorem b_is_row (P : Params) : L2.Binds (KL P) fd_is_row ["value", "least", "most"] [] := (f_is_row P).binds fun _ _ _ _ _ _ us hl => match us, hl with | [_, _, _], _ => rfl
theorem b_first_wrong (P : Params) : L2.Binds (KL P) fd_first_wrong ["value", "is_right"] [] := (f_first_wrong P).binds fun _ _ _ _ _ _ us hl => match us, hl with | [_, _], _ => rfl
theorem b_is_desk_row (P : Params) : L2.Binds (KL P) fd_is_desk_row ["value"] [] := (f_is_desk_row P).binds fun _ _ _ _ _ _ us hl => match us, hl with | [_], _ => rfl
theorem b_check_rows (P : Params) : L2.Binds (KL P) fd_check_rows ["value"] [] := (f_check_rows P).binds fun _ _ _ _ _ _ us hl => match us, hl with | [_], _ => rfl
theorem b_has_form (P : Params) : L2.Binds (KL P) fd_has_form ["value"] [] := (f_has_form P).binds fun _ _ _ _ _ _ us hl => match us, hl with | [_], _ => rfl
theorem b_check_deed (P : Params) : L2.Binds (KL P) fd_check_deed ["value"] [] := (f_check_deed P).binds fun _ _ _ _ _ _ us hl => match us, hl with | [_], _ => rfl
theorem b_reason_against (P : Params) : L2.Binds (KL P) fd_reason_against ["rows", "deed"] [] := (f_reason_against P).binds fun _ _ _ _ _ _ us hl => match us, hl with | [_, _], _ => rfl
theorem b_rows_behind (P : Params) : L2.Binds (KL P) fd_rows_behind ["rows", "deed"] [] := (f_rows_behind P).binds fun _ _ _ _ _ _ us hl => match us, hl with | [_, _], _ => rfl
theorem b_text_of_rows (P : Params) : L2.Binds (KL P) fd_text_of_rows ["rows"] [] := (f_text_of_rows P).binds fun _ _ _ _ _ _ us hl => match us, hl with | [_], _ => rfl
theorem b__law_purse (P : Params) : L2.Binds (KL P) fd__law_purse ["cells", "at"] [] := (f__law_purse P).binds fun _ _ _ _ _ _ us hl => match us, hl with | [_, _], _ => rfl
theorem b__law_take (P : Params) : L2.Binds (KL P) fd__law_take ["draws", "many"] [] := (f__law_take P).binds fun _ _ _ _ _ _ us hl => match us, hl with | [_, _], _ => rfl
theorem b__law_pick (P : Params) : L2.Binds (KL P) fd__law_pick ["draws", "some"] [] := (f__law_pick P).binds fun _ _ _ _ _ _ us hl => match us, hl with | [_, _], _ => rfl
theorem b__law_same (P : Params) : L2.Binds (KL P) fd__law_same ["told", "due"] [] := (f__law_same P).binds fun _ _ _ _ _ _ us hl => match us, hl with | [_, _], _ => rfl
theorem b__law_move (P : Params) : L2.Binds (KL P) fd__law_move ["rows", "deed"] [] := (f__law_move P).binds fun _ _ _ _ _ _ us hl => match us, hl with | [_, _], _ => rfl
theorem b__law_said (P : Params) : L2.Binds (KL P) fd__law_said ["act"] [] := (f__law_said P).binds fun _ _ _ _ _ _ us hl => match us, hl with | [_], _ => rfl
theorem b__law_is_so (P : Params) : L2.Binds (KL P) fd__law_is_so ["desk", "rows", "deeds_here"] [] := (f__law_is_so P).binds fun _ _ _ _ _ _ us hl => match us, hl with | [_, _, _], _ => rfl
theorem b__law_page (P : Params) : L2.Binds (KL P) fd__law_page ["draws"] [] := (f__law_page P).binds fun _ _ _ _ _ _ us hl => match us, hl with | [_], _ => rfl
theorem b__law_deed (P : Params) : L2.Binds (KL P) fd__law_deed ["draws", "rows", "more"] [] := (f__law_deed P).binds fun _ _ _ _ _ _ us hl => match us, hl with | [_, _, _], _ => rfl
theorem b__law_is_empty (P : Params) : L2.Binds (KL P) fd__law_is_empty ["desk"] [] := (f__law_is_empty P).binds fun _ _ _ _ _ _ us hl => match us, hl with | [_], _ => rfl
theorem b__law_run (P : Params) : L2.Binds (KL P) fd__law_run ["draws", "first", "more", "desk"] [] := (f__law_run P).binds fun _ _ _ _ _ _ us hl => match us, hl with | [_, _, _, _], _ => rfl
theorem b__law_are_equal (P : Params) : L2.Binds (KL P) fd__law_are_equal ["desk", "first"] [] := (f__law_are_equal P).binds fun _ _ _ _ _ _ us hl => match us, hl with | [_, _], _ => rfl
theorem b__law_is_refused (P : Params) : L2.Binds (KL P) fd__law_is_refused ["odd", "index"] [] := (f__law_is_refused P).binds fun _ _ _ _ _ _ us hl => match us, hl with | [_, _], _ => rfl
theorem b__law_right (P : Params) : L2.Binds (KL P) fd__law_right ["draws"] [] := (f__law_right P).binds fun _ _ _ _ _ _ us hl => match us, hl with | [_], _ => rfl
theorem b_law (P : Params) : L2.Binds (KL P) fd_law ["cells"] [] := (f_law P).binds fun _ _ _ _ _ _ us hl => match us, hl with | [_], _ => rfl
theorem b_DeskW_initW (P : Params) : L2.Binds (KL P) fd_DeskW_initW ["self", "rows"] [] := (f_DeskW_initW P).binds fun _ _ _ _ _ _ us hl => match us, hl with | [_, _], _ => rfl
theorem b_Desk_do (P : Params) : L2.Binds (KL P) fd_Desk_do ["self", "deed"] [] := (f_Desk_do P).binds fun _ _ _ _ _ _ us hl => match us, hl with | [_, _], _ => rfl
theorem b_Desk_undo (P : Params) : L2.Binds (KL P) fd_Desk_undo ["self"] [] := (f_Desk_undo P).binds fun _ _ _ _ _ _ us hl => match us, hl with | [_], _ => rfl
theorem b_Desk_text (P : Params) : L2.Binds (KL P) fd_Desk_text ["self"] [] := (f_Desk_text P).binds fun _ _ _ _ _ _ us hl => match us, hl with | [_], _ => rfl
theorem b_DeskW_eqW (P : Params) : L2.Binds (KL P) fd_DeskW_eqW ["self", "other"] [] := (f_DeskW_eqW P).binds fun _ _ _ _ _ _ us hl => match us, hl with | [_, _], _ => rfl
theorem b_is_number (P : Params) : ∃ ds, L2.Vals [.int 0, .non] ds ∧ L2.Binds (KL P) fd_is_number ["value", "low", "high"] ds := (f_is_number P).binds1 1 0 (by simp) rfl fun T kV doc pm an cdv ct us its h1 h2 => match us, its, h1, h2 with
  | [_], [_, _], _, _ => ⟨_, rfl, rfl⟩
theorem kb_init (P : Params) : KBn (KL P) fd_DeskW_initW ["self", "rows"] 1 ["rows"] (fun us ws => us ++ ws) (fun vs zs => vs ++ zs) := ⟨fun s us ws X h1 h2 => match us, ws, h1, h2 with
  | [_], [_], _, _ => .of_eq rfl, fun h1 h2 => h1.append h2⟩
section
variable {w : World} {mg : Str → Option Value} {h : Heap}
theorem nms_ (X : (KL w.params).In h) (G : h.Ns mainGlobals mg) : K11.Nms mg := ⟨PySem.W.mg_none_of X G (n_len _), PySem.W.mg_none_of X G (n_int _), PySem.W.mg_none_of X G (n_abs _), PySem.W.mg_none_of X G (n_range _), PySem.W.mg_none_of X G (n_max _), PySem.W.mg_none_of X G (n_min _), PySem.W.mg_none_of X G (n_all _), PySem.W.mg_none_of X G (n_isinstance _), PySem.W.mg_none_of X G (n_repr _), PySem.W.mg_none_of X G (n_super _), PySem.W.mg_none_of X G (n_str _), PySem.W.mg_none_of X G (n_tuple _), PySem.W.mg_none_of X G (n_bool _), PySem.W.mg_none_of X G (n_list _), PySem.W.mg_none_of X G (n_enumerate _)⟩
theorem cns_ (X : (KL w.params).In h) (G : h.Ns mainGlobals mg) : K11.Cns mg := ⟨⟨_, PySem.W.mg_of X G (g_MOST_DESK _)⟩, ⟨_, PySem.W.mg_of X G (g_MOST_SIGNS _)⟩, ⟨_, PySem.W.mg_of X G (g_FULL _)⟩, ⟨_, PySem.W.mg_of X G (g_FAR _)⟩, ⟨_, PySem.W.mg_of X G (g_NONE _)⟩, ⟨_, PySem.W.mg_of X G (g_SAME _)⟩⟩
theorem szk_ (X : (KL w.params).In h) (G : h.Ns mainGlobals mg) : K11.SzK (KL w.params) w mg := by
  obtain ⟨es, n, D⟩ := He.dicW_ok (w := w) (z_dic w.params)
  exact ⟨1361, es, n, D, PySem.W.mg_of X G (g_SIZES _), ⟨_, z_put _⟩, ⟨_, z_row _⟩, ⟨_, z_out _⟩⟩
theorem dk_ (X : (KL w.params).In h) (G : h.Ns mainGlobals mg) : K11.Dk (KL w.params) mg 1493 := ⟨⟨d_pg _, d_hd _, d_po _, d_sa _⟩, d_n_rows _, d_n_begun _, d_n_deeds _, d_n_past _, PySem.W.mg_of X G (g_Desk _), d_ca _, d_sp _, d_tk _, d_mo _, d_kI _, d_kN _, d_kT _, d_kS _, d_kB _, d_fI _, d_fN _, d_fT _, d_fS _, d_fB _, d_tb _, d_tl _⟩
theorem x1_InvalidRows (X : (KL w.params).In h) (G : h.Ns mainGlobals mg) : K11.Ex1 w (KL w.params) mg "InvalidRows" "index" 81 := K11.ex1_of K11.stR (e_su_InvalidRows _) (e_in_InvalidRows _) (e_l_InvalidRows _) (e_ei_InvalidRows _) (e_k_InvalidRows _) (PySem.W.mg_of X G (g_InvalidRows _)) (PySem.W.mg_none_of X G (n_super _)) (e_na_InvalidRows _) (e_ex_InvalidRows _)
theorem x1_Barred (X : (KL w.params).In h) (G : h.Ns mainGlobals mg) : K11.Ex1 w (KL w.params) mg "Barred" "reason" 123 := K11.ex1_of K11.stB (e_su_Barred _) (e_in_Barred _) (e_l_Barred _) (e_ei_Barred _) (e_k_Barred _) (PySem.W.mg_of X G (g_Barred _)) (PySem.W.mg_none_of X G (n_super _)) (e_na_Barred _) (e_ex_Barred _)
theorem xc_InvalidRows (X : (KL w.params).In h) (G : h.Ns mainGlobals mg) : K11.ExC (KL w.params) mg "InvalidRows" 81 := ⟨PySem.W.mg_of X G (g_InvalidRows _), e_ex_InvalidRows _, xfB_ok (e_xf_InvalidRows _)⟩
theorem xc_Barred (X : (KL w.params).In h) (G : h.Ns mainGlobals mg) : K11.ExC (KL w.params) mg "Barred" 123 := ⟨PySem.W.mg_of X G (g_Barred _), e_ex_Barred _, xfB_ok (e_xf_Barred _)⟩
theorem xc_NothingToUndo (X : (KL w.params).In h) (G : h.Ns mainGlobals mg) : K11.ExC (KL w.params) mg "NothingToUndo" 135 := ⟨PySem.W.mg_of X G (g_NothingToUndo _), e_ex_NothingToUndo _, xfB_ok (e_xf_NothingToUndo _)⟩
theorem all_ (X : (KL w.params).In h) (G : h.Ns mainGlobals mg) (base : Heap) (TB : ∀ p ∈ CS, TabB base mg p.1 p.2) : FnG K11.prg w (KL w.params) mg base 10 1596 fd_law ["cells"] (K11.spLaw (KL w.params) TT) := by
  have N := nms_ X G
  have Z := cns_ X G
  have SZ := szk_ X G
  have D := dk_ X G
  have XR := x1_InvalidRows X G
  have XB := x1_Barred X G
  have XN := xc_NothingToUndo X G
  have t1 : (1370, K11.qC) ∈ TT := List.mem_cons_self
  have t2 : (1569, K11.qR) ∈ TT := List.mem_cons_of_mem _ List.mem_cons_self
  have u1 : ∀ p ∈ TT, p.1 = 1370 → p.2 = K11.qC := fun p m e => by
    simp only [List.mem_cons, List.not_mem_nil, or_false] at m
    rcases m with rfl | rfl
    · rfl
    · exact absurd e (by decide)
  have u2 : ∀ p ∈ TT, p.1 = 1569 → p.2 = K11.qR := fun p m e => by
    simp only [List.mem_cons, List.not_mem_nil, or_false] at m
    rcases m with rfl | rfl
    · exact absurd e (by decide)
    · rfl
  have B1 : TabB base mg 1374 1370 := TB _ List.mem_cons_self
  have B2 : TabB base mg 1573 1569 := TB _ (List.mem_cons_of_mem _ List.mem_cons_self)
  have c1 : ClO K11.prg w (KL w.params) mg base CX0 1 "is_whole" K11.spWhole [] := ⟨407, fd_is_whole, ["value"], [], K11.ok_whole (f_is_whole _) N, PySem.W.mg_of X G (g_is_whole _), (f_is_whole _).kp, b_is_whole _, .nil⟩
  have c2 : ClO K11.prg w (KL w.params) mg base CX0 1 "is_string" (K11.spString (KL w.params)) [] := ⟨422, fd_is_string, ["value"], [], K11.ok_string (f_is_string _) N, PySem.W.mg_of X G (g_is_string _), (f_is_string _).kp, b_is_string _, .nil⟩
  have c3 : ClO K11.prg w (KL w.params) mg base CX0 1 "is_row" (K11.spIsRow (KL w.params)) [] := ⟨429, fd_is_row, ["value", "least", "most"], [], K11.ok_isRow (f_is_row _) N, PySem.W.mg_of X G (g_is_row _), (f_is_row _).kp, b_is_row _, .nil⟩
  have c4 : ClO K11.prg w (KL w.params) mg base CX0 2 "is_desk_row" (K11.spDeskRow (KL w.params)) [] := ⟨1368, fd_is_desk_row, ["value"], [], K11.ok_deskRow (f_is_desk_row _) N Z.c200 c2, PySem.W.mg_of X G (g_is_desk_row _), (f_is_desk_row _).kp, b_is_desk_row _, .nil⟩
  have c5 : ClO K11.prg w (KL w.params) mg base CX0 4 "first_wrong" (K11.spWrong TT) [] := ⟨436, fd_first_wrong, ["value", "is_right"], [], K11.ok_wrong (f_first_wrong _) N c4, PySem.W.mg_of X G (g_first_wrong _), (f_first_wrong _).kp, b_first_wrong _, .nil⟩
  have c6 : ClO K11.prg w (KL w.params) mg base (L2.CX K11.prg w) 5 "check_rows" (K11.spCheck 81 TT) [] := ⟨1375, fd_check_rows, ["value"], [], K11.ok_check (f_check_rows _) rfl B1 t1 u1 Z.c20 c3 c5 XR, PySem.W.mg_of X G (g_check_rows _), (f_check_rows _).kp, b_check_rows _, .nil⟩
  obtain ⟨dsN, vN, bN⟩ := b_is_number w.params
  have c7 : ClO K11.prg w (KL w.params) mg base CX0 2 "is_number" K11.spNumber [.int 0, .non] := ⟨415, fd_is_number, ["value", "low", "high"], dsN, K11.ok_number (f_is_number _) N c1, PySem.W.mg_of X G (g_is_number _), (f_is_number _).kp, bN, vN⟩
  have c8 : ClO K11.prg w (KL w.params) mg base CX0 2 "has_form" K11.spHasForm [] := ⟨1382, fd_has_form, ["value"], [], K11.ok_hasForm (f_has_form _) N SZ c2, PySem.W.mg_of X G (g_has_form _), (f_has_form _).kp, b_has_form _, .nil⟩
  have c9 : ClO K11.prg w (KL w.params) mg base CX0 3 "check_deed" K11.spCheckDeed [] := ⟨1389, fd_check_deed, ["value"], [], K11.ok_checkDeed (f_check_deed _) N c8 c7 c4, PySem.W.mg_of X G (g_check_deed _), (f_check_deed _).kp, b_check_deed _, .nil⟩
  have c10 : ClO K11.prg w (KL w.params) mg base CX0 1 "reason_against" K11.spReason [] := ⟨1396, fd_reason_against, ["rows", "deed"], [], K11.ok_reason (f_reason_against _) N Z, PySem.W.mg_of X G (g_reason_against _), (f_reason_against _).kp, b_reason_against _, .nil⟩
  have c11 : ClO K11.prg w (KL w.params) mg base CX0 1 "rows_behind" (K11.spBehind TT) [] := ⟨1403, fd_rows_behind, ["rows", "deed"], [], K11.ok_behind (f_rows_behind _), PySem.W.mg_of X G (g_rows_behind _), (f_rows_behind _).kp, b_rows_behind _, .nil⟩
  have c12 : ClO K11.prg w (KL w.params) mg base CX0 1 "text_of_rows" (K11.spTextOf TT) [] := ⟨1408, fd_text_of_rows, ["rows"], [], K11.ok_textOf (f_text_of_rows _), PySem.W.mg_of X G (g_text_of_rows _), (f_text_of_rows _).kp, b_text_of_rows _, .nil⟩
  have cI : K11.ClI K11.prg w (KL w.params) mg base (L2.CX K11.prg w) 6 1493 ["rows"] (K11.spInit 1493 81 TT) := ⟨1427, fd_DeskW_initW, ["self", "rows"], ⟨d_mk _, m_DeskW_initW _, i_DeskW_initW _, d_kc _⟩, K11.ok_init (f_DeskW_initW _) D c6, b_DeskW_initW _, kb_init _⟩
  have cO : K11.ClM K11.prg w (KL w.params) mg base (L2.CX K11.prg w) 4 1493 "do" (K11.spDo 1493 123 TT) := ⟨1434, fd_Desk_do, ["self", "deed"], ⟨m_Desk_do _, i_Desk_do _, (f_Desk_do _).kp⟩, K11.ok_do (f_Desk_do _) D XB c9 c10 c11, b_Desk_do _⟩
  have cU : K11.ClM K11.prg w (KL w.params) mg base (L2.CX K11.prg w) 1 1493 "undo" (K11.spUndo 1493 135 TT) := ⟨1441, fd_Desk_undo, ["self"], ⟨m_Desk_undo _, i_Desk_undo _, (f_Desk_undo _).kp⟩, K11.ok_undo (f_Desk_undo _) D (e_x0 _) (e_k_NothingToUndo _) (PySem.W.mg_of X G (g_NothingToUndo _)) (K11.ei_of (e_ei_NothingToUndo _)), b_Desk_undo _⟩
  have cX : K11.ClM K11.prg w (KL w.params) mg base CX0 2 1493 "text" (K11.spText 1493 TT) := ⟨1448, fd_Desk_text, ["self"], ⟨m_Desk_text _, i_Desk_text _, (f_Desk_text _).kp⟩, K11.ok_text (f_Desk_text _) D c12, b_Desk_text _⟩
  have cE : K11.ClE K11.prg w (KL w.params) mg base 1493 (K11.spEq 1493 (KL w.params) TT) := ⟨1490, fd_DeskW_eqW, ["self", "other"], ⟨m_DeskW_eqW _, i_DeskW_eqW _, d_ne _, d_mo _⟩, K11.ok_eq (f_DeskW_eqW _) N D, b_DeskW_eqW _⟩
  have g1 : Clb K11.prg w (KL w.params) mg base 1 "_law_take" K11.spTake [] := ⟨1511, fd__law_take, ["draws", "many"], [], K11.ok_take (f__law_take _) N, PySem.W.mg_of X G (g__law_take _), (f__law_take _).kp, b__law_take _, .nil⟩
  have g2 : Clb K11.prg w (KL w.params) mg base 1 "_law_purse" (K11.spPurse (KL w.params)) [] := ⟨1504, fd__law_purse, ["cells", "at"], [], K11.ok_purse (f__law_purse _) N, PySem.W.mg_of X G (g__law_purse _), (f__law_purse _).kp, b__law_purse _, .nil⟩
  have g3 : Clb K11.prg w (KL w.params) mg base 2 "_law_pick" K11.spPick [] := ⟨1518, fd__law_pick, ["draws", "some"], [], K11.ok_pick (f__law_pick _) N g1, PySem.W.mg_of X G (g__law_pick _), (f__law_pick _).kp, b__law_pick _, .nil⟩
  have g4 : Clb K11.prg w (KL w.params) mg base 1 "_law_same" K11.spSame [] := ⟨1525, fd__law_same, ["told", "due"], [], K11.ok_same (f__law_same _) N, PySem.W.mg_of X G (g__law_same _), (f__law_same _).kp, b__law_same _, .nil⟩
  have g5 : Clb K11.prg w (KL w.params) mg base 1 "_law_move" (K11.spMove TT) [] := ⟨1532, fd__law_move, ["rows", "deed"], [], K11.ok_move (f__law_move _) N, PySem.W.mg_of X G (g__law_move _), (f__law_move _).kp, b__law_move _, .nil⟩
  have g6 : Clb K11.prg w (KL w.params) mg base 2 "_law_is_so" (K11.spIsSo 1493 TT) [] := ⟨1546, fd__law_is_so, ["desk", "rows", "deeds_here"], [], K11.ok_isSo (f__law_is_so _) D g4, PySem.W.mg_of X G (g__law_is_so _), (f__law_is_so _).kp, b__law_is_so _, .nil⟩
  have g7 : Clb K11.prg w (KL w.params) mg base 2 "_law_page" (K11.spPage TT) [] := ⟨1553, fd__law_page, ["draws"], [], K11.ok_page (f__law_page _) N g1, PySem.W.mg_of X G (g__law_page _), (f__law_page _).kp, b__law_page _, .nil⟩
  have g8 : Clb K11.prg w (KL w.params) mg base 3 "_law_deed" (K11.spDeed TT) [] := ⟨1560, fd__law_deed, ["draws", "rows", "more"], [], K11.ok_deed (f__law_deed _) N g1 g3, PySem.W.mg_of X G (g__law_deed _), (f__law_deed _).kp, b__law_deed _, .nil⟩
  have g9 : Clb K11.prg w (KL w.params) mg base 2 "_law_is_empty" (K11.spIsEmpty 1493 TT) [] := ⟨1567, fd__law_is_empty, ["desk"], [], K11.ok_isEmpty (f__law_is_empty _) D XN cU, PySem.W.mg_of X G (g__law_is_empty _), (f__law_is_empty _).kp, b__law_is_empty _, .nil⟩
  have g10 : Clb K11.prg w (KL w.params) mg base 7 "_law_run" (K11.spRun 1493 TT) [] := ⟨1574, fd__law_run, ["draws", "first", "more", "desk"], [], K11.ok_run (f__law_run _) N D rfl B2 t2 u2 g1 g8 g5 g6 cU cO (xc_Barred X G) (e_na_Barred _) (f__law_said _) (PySem.W.mg_of X G (g__law_said _)), PySem.W.mg_of X G (g__law_run _), (f__law_run _).kp, b__law_run _, .nil⟩
  have g11 : Clb K11.prg w (KL w.params) mg base 8 "_law_are_equal" (K11.spAreEqual 1493 TT) [] := ⟨1579, fd__law_are_equal, ["desk", "first"], [], K11.ok_areEqual (f__law_are_equal _) N D g4 cU cO cX cI cE, PySem.W.mg_of X G (g__law_are_equal _), (f__law_are_equal _).kp, b__law_are_equal _, .nil⟩
  have g12 : Clb K11.prg w (KL w.params) mg base 8 "_law_is_refused" (K11.spRefused TT) [] := ⟨1586, fd__law_is_refused, ["odd", "index"], [], K11.ok_refused (f__law_is_refused _) D (xc_InvalidRows X G) (e_na_InvalidRows _) cI, PySem.W.mg_of X G (g__law_is_refused _), (f__law_is_refused _).kp, b__law_is_refused _, .nil⟩
  have g13 : Clb K11.prg w (KL w.params) mg base 9 "_law_right" (K11.spRight TT) [] := ⟨1591, fd__law_right, ["draws"], [], K11.ok_right (CB := 123) (f__law_right _) N D g7 g6 g9 g10 g11 g12 cU cI cE, PySem.W.mg_of X G (g__law_right _), (f__law_right _).kp, b__law_right _, .nil⟩
  exact K11.ok_law (f_law _) N g2 g13
end
theorem heads_ {w : World} {h : Heap} (X : (KL w.params).In h) : ∀ p ∈ CS, PySem.W.CodeHd h p.1 p.2 := fun p m => by
  simp only [List.mem_cons, List.not_mem_nil, or_false] at m
  rcases m with rfl | rfl
  · exact ⟨_, _, _, _, _, _, _, _, _, X _ _ (c_1 _), rfl, rfl, rfl, rfl, rfl, rfl, rfl, rfl, by decide⟩
  · exact ⟨_, _, _, _, _, _, _, _, _, X _ _ (c_2 _), rfl, rfl, rfl, rfl, rfl, rfl, rfl, rfl, by decide⟩
theorem fin_ : PySem.Challenge.rw_frametongue_k11_desks_undone_and_equal.Holds := by
  refine holds_of (Att.attach_call (l := PySem.Challenge.rw_frametongue_k11_desks_undone_and_equal) (n := 63) rfl rfl fun w s₀ s₁ mg mb fa o pm cd doc a vs ns G Y ho hd hcd hmg hobj hints hlen hg => ?_)
  have X : (KL w.params).In s₁.heap := KL_in Y
  have e := hmg.symm.trans (PySem.W.mg_of X G.T.g (g_law _))
  cases e
  refine K11.law_GT (cs := CS) (k := 10) (x := "cells") X G.T.g G.T.b G.T.builtins G.T.nolimit hg (tabs_ Y) (fun p m => ?_) (heads_ X) G.T.bmain hobj hints (Nat.le_trans hlen (by decide)) ⟨rfl, by decide, by decide⟩ (fun base XB NB TB => all_ XB NB base TB) (fun s v => .of_eq rfl) (fun H hH hS => ⟨a, ns, rfl, hS, hlen, fun p m => ?_, fun _ => rfl⟩)
  · simp only [List.mem_cons, List.not_mem_nil, or_false] at m
    rcases m with rfl | rfl
    · exact t_1 _
    · exact t_2 _
  · simp only [List.mem_cons, List.not_mem_nil, or_false] at m
    rcases m with rfl | rfl
    · exact TabS.nil (hH (1374, 1370) List.mem_cons_self)
    · exact TabS.nil (hH (1573, 1569) (List.mem_cons_of_mem _ List.mem_cons_self))
end K11H
theorem PySem.Challenge.cw_frametongue_k11_desks_undone_and_equal_holds : PySem.Challenge.rw_frametongue_k11_desks_undone_and_equal.Holds := by
  with_reducible exact K11H.fin_
