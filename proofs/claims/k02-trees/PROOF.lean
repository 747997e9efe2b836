import PyProof.Rows.All
import Wide.All
import OpenK.AllK
import Wide.FinOn
import HandS.ForMost
import HandS.Codes
import HandS.ExcInit
import HandS.ExcField
import HandS.ExcIs
import HandS.ExcValue
import KE.KExcSuper
import HandS.IsInst
import HandS.ExcOwn
import HandS.HotCalls
import KE.KExcIs
import PyProof.ReprRoads
import PyProof.CallFns
import HandS.RaiseMore
import HandS.OwnEq
import HandS.DictSub
import HandS.TupAny
import HandS.TupMul
import HandS.Defaults
import HandS.MakeKw
import PyProof.Draws
import PyProof.EnumMake
import HandS.Iter
import HandS.GenYield
import HandS.Style
import KE.KRevSl
import PyProof.StrOps2
import PyProof.ListStr
import HandS.NoneIn
import HandS.More
import HandS.New
import KE.GoesMore
import KE.KDictOf
import PySem.Challenge.RW_frametongue_k02_whole_trees_told_and_rea
import HandS.Steps
import HandS.Zip
import HandS.Text
import HandS.Star
import HandS.Wide
import PyProof.ReprBulk
import HandS.Words
import HandS.Head0
import HandS.Head3
import Open.Pieces
import HandS.Head1
import HandS.HeadHook3
set_option Elab.async false
set_option linter.all false
set_option maxRecDepth 100000
set_option maxHeartbeats 4000000
/-! DL0: defs that run where no repr is under way (guards = some []): their promise, their body, their call, the law's end. -/
namespace DL
open PySem PySem.Spec L2
open PyProof.Rows hiding St

/-- what a def keeps where no repr is under way -/
structure FnG (P : Program) (w : World) (K : PySem.W.Frag) (mg : Str → Option Value) (base : Heap) (k : Nat) (f : Addr) (fd : FuncData) (ps : List Str) (sp : Sp) : Prop where
  size : ∀ vs H Q E, sp vs H Q E → vs.length = ps.length
  goes : ∀ (A : Around) (outer : List Env) (s : Shared) (H : Hp) (args : Args) (us : List Value) (vs : List V) (Q : VK) (E : XK), Room k A → A.guards = some [] → Env0 P w K mg base A outer s H →
    BindsTo s fd args (ps.zip us) → Vals vs us → sp vs H Q E → codeAny (model P w) A (.call (.ref f) args) (CR CX0 outer P w H s Q E) s

section
variable {P : Program} {w : World} {K : PySem.W.Frag} {mg : Str → Option Value} {base : Heap}
/-- a def by its body, its code object told -/
theorem fnG_mk0 {x qual : Str} {st : Stmt} {f : Addr} {fd : FuncData} {N ps : List Str} {k : Nat} {sp : Sp} (F : Fun K x qual st f fd) (S : FnScope N ps (defScope st)) (len : ∀ vs H Q E, sp vs H Q E → vs.length = ps.length)
    (body : ∀ (cdv : Value), fd.code = cdv → ∀ (A : Around) (outer : List Env) (s : Shared) (H : Hp) (vs : List V) (Q : VK) (E : XK), Room k (A.deeper (envOfC qual (defScope st) s.heap.objs.size f cdv)) → (A.deeper (envOfC qual (defScope st) s.heap.objs.size f cdv)).guards = some [] → sp vs H Q E →
      ∃ t, PSs (cxOf CX0 P w K mg base N qual (defScope st) f cdv A outer s H E).nox (defBody st) t ∧ t { nx := fun _ H' => Q .non H', rt := Q } (start N vs) H) : FnG P w K mg base (k + 1) f fd ps sp := by
  obtain ⟨oc, od, kV, doc, pm, an, cdv, ct, osl, rfl, look, code⟩ := F.ex
  refine ⟨len, fun A outer s H args us vs Q E room gd e0 bnd vals told => ?_⟩
  have lens := len _ _ _ _ told
  have inK : K.In s.heap := e0.mod.kin.keeps fun b o e => (e0.bs b o e).1
  have nol : s.heap.NoLimit := e0.mod.nolimit.keeps fun b o e => (e0.bs b o e).1
  have kinds : ∀ y ∈ ps.zip us, (defScope st).names.lookup y.1 = some .local ∨ ((defScope st).names.lookup y.1 = some .cell ∧ ((cellsFrom (s.heap.objs.size + 1) (defScope st).names []).lookup y.1).isSome = true) := by
    rintro ⟨n, v⟩ hy
    cases S.par n (List.of_mem_zip hy).1 with
    | inl q => exact .inl q
    | inr q => exact .inr ⟨q, PySem.W.cellsFrom_some _ _ _ (.inl q)⟩
  refine codeAny_call_function room.depth (inK _ _ look) rfl S.co S.gen rfl (PySem.W.codeRec_of inK code) ?_
  refine bnd _ _ _ _ (wpAny_newFunctionEnv_cells S.kind kinds fun env he s1 x => ?_)
  subst he
  refine ⟨nol.keeps x.toInCall.keep, codeAny_func ?_⟩
  obtain ⟨t, ht, hq⟩ := body cdv rfl A outer s H vs Q E (room.deeper _) gd told
  have I : Inv (cxOf CX0 P w K mg base N qual (defScope st) f cdv A outer s H E) [] (start N vs) H s1 := inv_start S room.hd e0 lens vals x
  refine wpAny_mono (ht.nox.run [] s1 (start N vs) H _ I hq) (fun fl s' hs => ?_) fun _ _ hs => hs
  cases fl with
  | ret u =>
    obtain ⟨v, σ', H', J, rv, q⟩ := hs
    exact ⟨v, H', J.os, J.bare, J.base, J.hok, rv, q⟩
  | next =>
    obtain ⟨σ', H', J, q⟩ := hs
    exact ⟨V.non, H', J.os, J.bare, J.base, J.hok, rfl, q⟩
  | brk =>
    obtain ⟨_, _, _, q⟩ := hs
    exact q.elim
  | cont =>
    obtain ⟨_, _, _, q⟩ := hs
    exact q.elim
/-- a def by its body -/
theorem fnG_mk {x qual : Str} {st : Stmt} {f : Addr} {fd : FuncData} {N ps : List Str} {k : Nat} {sp : Sp} (F : Fun K x qual st f fd) (S : FnScope N ps (defScope st)) (len : ∀ vs H Q E, sp vs H Q E → vs.length = ps.length)
    (body : ∀ (cdv : Value) (A : Around) (outer : List Env) (s : Shared) (H : Hp) (vs : List V) (Q : VK) (E : XK), Room k (A.deeper (envOfC qual (defScope st) s.heap.objs.size f cdv)) → (A.deeper (envOfC qual (defScope st) s.heap.objs.size f cdv)).guards = some [] → sp vs H Q E →
      ∃ t, PSs (cxOf CX0 P w K mg base N qual (defScope st) f cdv A outer s H E).nox (defBody st) t ∧ t { nx := fun _ H' => Q .non H', rt := Q } (start N vs) H) : FnG P w K mg base (k + 1) f fd ps sp := fnG_mk0 F S len fun cdv _ => body cdv
theorem FnG.up {j k : Nat} {f : Addr} {fd : FuncData} {ps : List Str} {sp : Sp} (F : FnG P w K mg base j f fd ps sp) (h : j ≤ k) : FnG P w K mg base k f fd ps sp :=
  ⟨F.size, fun A outer s H args us vs Q E hr => F.goes A outer s H args us vs Q E (hr.mono h)⟩
end

section
variable {X : Cx} {k : Nat} {f : Addr} {fd : FuncData} {ps : List Str} {sp : Sp} {dvs : List V} {ds : List Value} {x : Str} {p pos : Pos} {e : Expr} {es : List Expr} {t : TA}
theorem runG {pins : List (Addr × Obj)} {σ : St} {H : Hp} {s : Shared} {Q : VK} {us : List Value} {vs : List V} (F : FnG X.prog X.w X.K X.mg X.base k f fd ps sp) (room : Room k X.A) (gd : X.A.guards = some []) (bnd : Binds X.K fd ps ds) (dv : Vals dvs ds)
    (I : Inv X pins σ H s) (r : Vals vs us) (h : sp (vs ++ dvs) H Q E0) : wpAny (model X.prog X.w) X.A (call (.ref f) us) (EP X pins σ Q) X.xe s := by
  have both : Vals (vs ++ dvs) (us ++ ds) := r.append dv
  have lens : (us ++ ds).length = ps.length := both.length.symm.trans (F.size _ _ _ _ h)
  refine wpAny_call (codeAny_mono (F.goes X.A X.stack s H ⟨us, []⟩ (us ++ ds) (vs ++ dvs) Q E0 room gd I.env0 (bnd s us I.kIn lens) both h) fun res s' hq => ?_)
  match res, hq with
  | .error e, hq => exact hq.elim
  | .ok (.ret u), hq => exact I.after hq
theorem pe_cG (F : FnG X.prog X.w X.K X.mg X.base k f fd ps sp) (room : Room k X.A) (gd : X.A.guards = some []) (hg : Gl X x) (hm : X.mg x = some (.ref f)) (hk : PySem.W.keepIn X.K (.ref f) = true) (bnd : Binds X.K fd ps ds) (dv : Vals dvs ds)
    (ha : PA X (e :: es) t) (hdb : (x == ("__debug__" : Str)) = false := by decide) (he : starEach (e :: es) X.env = (false, eval e X.env) :: starEach es X.env := by rfl) (hpl : (backTo pos (starEach es X.env)).any (·.1) = false := by rfl) :
    PE X (.Call (.Name x p) (e :: es) [] pos) (tCall sp dvs E0 t) := ⟨fun pins s σ H Q I h => wpAny_Call_Name_kw (ld_glob I hg hm
    (PySem.W.callWith_K (h₀ := X.base) I.ok.mod.kin hk (thn (ha.run pos pins s σ H _ I h) fun us s1 ⟨vs, H1, I1, r, q⟩ => ⟨I1.kIn, runG F room gd bnd dv I1 r q⟩) he hpl) hdb)⟩
theorem pe_cG0 (F : FnG X.prog X.w X.K X.mg X.base k f fd ps sp) (room : Room k X.A) (gd : X.A.guards = some []) (hg : Gl X x) (hm : X.mg x = some (.ref f)) (hk : PySem.W.keepIn X.K (.ref f) = true) (bnd : Binds X.K fd ps ds) (dv : Vals dvs ds)
    (hdb : (x == ("__debug__" : Str)) = false := by decide) : PE X (.Call (.Name x p) [] [] pos) (tCall sp dvs E0 tNil) := ⟨fun pins s σ H Q I h => wpAny_Call_Name_kw (ld_glob I hg hm (PySem.W.callWith_K0 I.kIn hk (runG (us := []) F room gd bnd dv I .nil h)) hdb)⟩
/-- a def of the module, ready to be called by its name: the values of the defaults that the call leaves out -/
structure Clb (P : Program) (w : World) (K : PySem.W.Frag) (mg : Str → Option Value) (base : Heap) (k : Nat) (x : Str) (sp : Sp) (dvs : List V) : Prop where
  ex : ∃ (f : Addr) (fd : FuncData) (ps : List Str) (ds : List Value), FnG P w K mg base k f fd ps sp ∧ mg x = some (.ref f) ∧ PySem.W.keepIn K (.ref f) = true ∧ Binds K fd ps ds ∧ Vals dvs ds
theorem pe_clb {j : Nat} (c : Clb X.prog X.w X.K X.mg X.base k x sp dvs) (room : Room j X.A) (hk : k ≤ j) (gd : X.A.guards = some []) (hg : Gl X x)
    (ha : PA X (e :: es) t) (hdb : (x == ("__debug__" : Str)) = false := by decide) (he : starEach (e :: es) X.env = (false, eval e X.env) :: starEach es X.env := by rfl) (hpl : (backTo pos (starEach es X.env)).any (·.1) = false := by rfl) :
    PE X (.Call (.Name x p) (e :: es) [] pos) (tCall sp dvs E0 t) := by
  obtain ⟨f, fd, ps, ds, F, hm, kp, b, d⟩ := c.ex
  exact pe_cG F (room.mono hk) gd hg hm kp b d ha hdb he hpl
theorem pe_clb0 {j : Nat} (c : Clb X.prog X.w X.K X.mg X.base k x sp dvs) (room : Room j X.A) (hk : k ≤ j) (gd : X.A.guards = some []) (hg : Gl X x)
    (hdb : (x == ("__debug__" : Str)) = false := by decide) : PE X (.Call (.Name x p) [] [] pos) (tCall sp dvs E0 tNil) := by
  obtain ⟨f, fd, ps, ds, F, hm, kp, b, d⟩ := c.ex
  exact pe_cG0 F (room.mono hk) gd hg hm kp b d hdb
end

/-! ### the law's end -/
section
variable {P : Program} {w : World} {K : PySem.W.Frag} {mg mb : Str → Option Value} {k : Nat} {fa a : Addr} {fd : FuncData} {x : Str} {sp : Sp} {s₁ : Shared} {vs : List Value} {ns : List Int}
/-- from a heap H in which nothing but the script is tracked -/
theorem law_at (H : Hp) (KX : K.In s₁.heap) (hns : s₁.heap.Ns mainGlobals mg) (hb : s₁.heap.Ns builtinsNs mb) (hbb : ∀ x : Str, x ≠ "__name__" → mb x = bootBuiltins x) (hlim : s₁.heap.NoLimit) (hg : s₁.gens = #[])
    (room : Room k callerA) (F : ∀ base : Heap, K.In base → base.Ns mainGlobals mg → FnG P w K mg base k fa fd [x] sp) (hbind : ∀ (s : Shared) (u : Value), BindsTo s fd ⟨[u], []⟩ [(x, u)])
    (told : sp [.ref a] H (fun v _ => v = .bl true) fun _ _ _ => False) (ok : HOk P w H s₁.heap)
    (only : ∀ b, H b = none ∨ ∃ o xs, H b = some (.frz o (.lst xs))) (nod : ∀ b o es ep, s₁.heap.get? b = some o → o.data = .dict es ep → H b = none) (noK : ∀ b o, K.lookup b = some o → H b = none) :
    codeAny (model P w) callerA (.call (.ref fa) ⟨[.ref a], []⟩) (fun r s' => r = .ok (.ret (.bool true)) ∧ OldK s₁.heap s'.heap ∧ s'.os = s₁.os ∧ AllBare s'.gens) s₁ := by
  have space : ∀ {b : Addr} {m : Str → Option Value}, s₁.heap.Ns b m → (hidT s₁.heap H).Ns b m := by
    rintro b m ⟨o, es, ep, e, d, r⟩
    exact ⟨o, es, ep, hidT_get e (nod b o es ep e d), d, r⟩
  have inB : K.In (hidT s₁.heap H) := fun b o e => hidT_get (KX b o e) (noK b o e)
  obtain ⟨mc, c1, c2⟩ := id hlim
  have e0 : Env0 P w K mg (hidT s₁.heap H) callerA [] s₁ H := {
    frames := rfl
    mod := ⟨inB, space hns, ⟨mb, space hb, hbb⟩, ⟨mc, space c1, c2⟩⟩
    bs := fun b o e => of_hidT e
    bsz := Nat.le_of_eq (hidT_size _ _)
    funs := trivial
    frf := fun b z => nomatch (show b ∈ ([] : List Addr) from z)
    hok := ok
    bare := .of_eq hg }
  refine codeAny_mono ((F _ inB (space hns)).goes callerA [] s₁ H ⟨[.ref a], []⟩ [.ref a] [.ref a] _ _ room rfl e0 (hbind s₁ (.ref a)) (.cons rfl .nil) told) fun res s' h => ?_
  match res, h with
  | .error e, h => exact h.elim
  | .ok (.ret u), ⟨v, H', os, bare, un, hok', r', q⟩ =>
    obtain rfl : v = .bl true := q
    obtain rfl : u = Value.bool true := r'
    refine ⟨rfl, OldK.of_keep fun b o e => ?_, os, bare⟩
    rcases only b with z | ⟨ob, xs, z⟩
    · exact un.keep b o e z (fun y => nomatch (show b ∈ ([] : List Addr) from y)) (fun y => nomatch y)
    · obtain ⟨e1, _⟩ := ok b _ z
      obtain ⟨e2, _⟩ := hok' b _ (un.frzs b ob _ z)
      rw [e] at e1
      cases e1
      exact e2
theorem law_G (KX : K.In s₁.heap) (hns : s₁.heap.Ns mainGlobals mg) (hb : s₁.heap.Ns builtinsNs mb) (hbb : ∀ x : Str, x ≠ "__name__" → mb x = bootBuiltins x) (hlim : s₁.heap.NoLimit) (hg : s₁.gens = #[])
    (ha : s₁.heap.get? a = some { cls := .type "list", data := .seq vs.toArray }) (hi : IntsAre vs ns) (hl : ns.length ≤ sizeLine) (room : Room k callerA)
    (F : ∀ base : Heap, K.In base → base.Ns mainGlobals mg → FnG P w K mg base k fa fd [x] sp) (hbind : ∀ (s : Shared) (u : Value), BindsTo s fd ⟨[u], []⟩ [(x, u)])
    (hsp : ∀ H : Hp, SqL K H a (ns.map V.int) → sp [.ref a] H (fun v _ => v = .bl true) fun _ _ _ => False) :
    codeAny (model P w) callerA (.call (.ref fa) ⟨[.ref a], []⟩) (fun r s' => r = .ok (.ret (.bool true)) ∧ OldK s₁.heap s'.heap ∧ s'.os = s₁.os ∧ AllBare s'.gens) s₁ := by
  have rv := vals_ints hi
  by_cases hk : ∃ o, K.lookup a = some o
  · obtain ⟨o, hk⟩ := hk
    have e := KX a o hk
    rw [ha] at e
    cases e
    refine law_at (fun _ => none) KX hns hb hbb hlim hg room F hbind (hsp _ (.inr ⟨_, vs.toArray, _, hk, rfl, rfl, rfl, ?_, by simpa using rv⟩)) (fun b u z => nomatch z) (fun _ => .inl rfl) (fun _ _ _ _ _ _ => rfl) (fun _ _ _ => rfl)
    rw [List.size_toArray, hi.length]
    exact hl
  · have nk : K.lookup a = none := by
      cases e : K.lookup a with
      | none => rfl
      | some o => exact absurd ⟨o, e⟩ hk
    let H : Hp := upd (fun _ => none) a (.frz { cls := .type "list", data := .seq vs.toArray } (.lst (ns.map V.int)))
    have at_ : ∀ b, (b = a ∧ H b = some (.frz { cls := .type "list", data := .seq vs.toArray } (.lst (ns.map V.int)))) ∨ (b ≠ a ∧ H b = none) := fun b => by
      by_cases q : b = a
      · exact .inl ⟨q, by rw [q]; exact upd_same⟩
      · exact .inr ⟨q, upd_ne q⟩
    refine law_at H KX hns hb hbb hlim hg room F hbind (hsp H (.inl (.inr ⟨_, upd_same⟩))) (fun b u z => ?_) (fun b => ?_) (fun b o es ep e d => ?_) (fun b o e => ?_)
    · rcases at_ b with ⟨rfl, q⟩ | ⟨_, q⟩
      · rw [q] at z
        cases z
        exact ⟨ha, by rw [List.length_map]; exact hl, vs, _, rv, ha⟩
      · rw [q] at z
        cases z
    · rcases at_ b with ⟨_, q⟩ | ⟨_, q⟩
      · exact .inr ⟨_, _, q⟩
      · exact .inl q
    · rcases at_ b with ⟨rfl, q⟩ | ⟨_, q⟩
      · rw [ha] at e
        cases e
        have d' : Data.seq vs.toArray _ = Data.dict es ep := d
        cases d'
      · exact q
    · rcases at_ b with ⟨rfl, q⟩ | ⟨_, q⟩
      · rw [nk] at e
        cases e
      · exact q
end
/-- the goal that k_head leaves, from the law's promise -/
theorem walkG {l : PySem.W.OpenLaw} {n k : Nat} {q : Program} {loose : List Str} {XP : (Str → Option Value) → Heap → Prop} {YP : World → Heap → Prop} {d : DefRec} {K : Params → PySem.W.Frag} {sp : PySem.W.Frag → Sp} {x : Str}
    (hn : l.most = some n) (hn2 : n ≤ sizeLine) (hdf : d.params.defaults = []) (room : Room k callerA) (hY : ∀ (w : World) (h : Heap), YP w h → (K w.params).In h)
    (F : ∀ (w : World) (mg : Str → Option Value) (fa : Addr) (h : Heap), (K w.params).In h → h.Ns mainGlobals mg → mg d.name = some (.ref fa) →
      ∃ fd : FuncData, (∀ (s : Shared) (u : Value), BindsTo s fd ⟨[u], []⟩ [(x, u)]) ∧ ∀ base : Heap, (K w.params).In base → base.Ns mainGlobals mg → FnG l.prog w (K w.params) mg base k fa fd [x] (sp (K w.params)))
    (hsp : ∀ (K : PySem.W.Frag) (H : Hp) (a : Addr) (ns : List Int), ns.length ≤ n → SqL K H a (ns.map V.int) → sp K [.ref a] H (fun v _ => v = .bl true) fun _ _ _ => False) :
    PySem.W.WalkO q loose XP YP l.row.toRowW d [] (fun f vs => PySem.call f vs) := by
  refine Att.attach_call hn hdf fun w s₀ s₁ mg mb fa o pm cd doc a vs ns G Y ho hd hcd hmg hobj hints hlen hg => ?_
  obtain ⟨fd, hb, hF⟩ := F w mg fa _ (hY w _ Y) G.T.g hmg
  exact law_G (hY w _ Y) G.T.g G.T.b G.T.builtins G.T.nolimit hg hobj hints (Nat.le_trans hlen hn2) room hF hb fun H hS => hsp (K w.params) H a ns hlen hS
end DL
set_option maxHeartbeats 4000000
/-! E1: own exceptions whose __init__ says super().__init__(p, ..); self.p = p; ..: how they are made. -/
namespace DL
open PySem PySem.Spec PySem.W PySem.Calls L2
open PyProof.Rows hiding St wpAt

section
variable {prog : Program} {w : World} {A : Around} {E : Value → Shared → Prop} {s : Shared} {K : Frag} {mg mb m : Str → Option Value} {x C L f cda cc : Addr}

/-- Exception's __init__ by the wrapper, called -/
theorem su_call {u t0 : Addr} {us : List Value} {h : Heap} {g : Array GenState} {d : Drawn} {tk : Nat} {os : OsState} {Q : Value → Shared → Prop} (X : K.In h) (q : excInitIn K C [.type "ValueError", .type "Exception", .type "BaseException", .type "object"] "ValueError.__new__" = true)
    (hu : h.get? u = some (kxs_mw "ValueError.__init__" x)) (hx : h.get? x = some (HandSPX.excO C t0)) (hz : us.length ≤ sizeLine)
    (hq : ∀ h' t1, (∀ b o, b ≠ x → h.get? b = some o → h'.get? b = some o) → h'.get? x = some (HandSPX.excO C t1) → Q .none ⟨h', g, d, tk, os⟩) :
    wpAny (model prog w) A (call (.ref u) us) Q E ⟨h, g, d, tk, os⟩ := by
  have FB := F.excBase_ValueError
  obtain ⟨nm, N', qn, bs, bm, hdct, sn, sub, ab, col, dd, k0, k1, k2, k3, k5, hC, hT⟩ := excInit_of X q
  refine wpAny_call (codeAny_of_tree ?_)
  show wpAny _ A.in1 (callAny (.ref u) ⟨us, []⟩) _ _ _
  simp only [callAny]
  refine wpAny_bind (wpAny_load hu ?_)
  simp only [kxs_mw, show (Value.type "method-wrapper" == Value.type "method" || Value.type "method-wrapper" == Value.type "builtin_function_or_method" || Value.type "method-wrapper" == Value.type "method-wrapper") = true by decide, if_true]
  refine KFB.if_so (by decide) ?_
  refine wpAny_bind (check_bound_init FB.toExcCallFacts hC hx rfl ?_)
  refine wpAny_bind (wpAny_pure (wpAny_pure ?_))
  refine ⟨plainId_quiet FB.init.plain _, codeAny_builtin FB.initEntry ?_⟩
  exact exc_init_tree (cls := .ref C) (t0 := t0) (dv := none) (c2 := .none) (c3 := .none) (b4 := .bool false) hx hz fun h' k e' _ => hq h' _ k e'

theorem su_super {body : List Stmt} {q : Str} {scope : Scope} {p0 p1 p2 p3 p4 : Pos} {fd : FuncData} {ar : Arg} {vs : Array Value} {file : Str} {tf : Tok} {oc ccl cl : Value} {od cdd cld : Option Addr} {osl ccs csl : Array (Option Value)} {t0 : Addr} {e : Expr} {es : List Expr} {us : List Value} {Q : Flow → Shared → Prop}
    (X : K.In s.heap) (hg : s.heap.Ns mainGlobals mg) (hmg : mg "super" = none) (hb : s.heap.Ns builtinsNs mb) (hbs : mb "super" = some (.type "super")) (hn : s.heap.Ns L m) (hx : s.heap.get? x = some (HandSPX.excO C t0)) (hxC : x ≠ C)
    (hf : K.lookup f = some ⟨oc, od, .func fd, osl⟩) (hp : (fd.params.posonlyargs ++ fd.params.args).head? = some ar) (hv : m ar.arg = some (.ref x))
    (hcode : K.lookup cda = some ⟨ccl, cdd, .fields vs, ccs⟩) (hvs : vs[2]? = some (.str file tf)) (hfile : ((prog.main.file : Str) == file) = true)
    (hcell : K.lookup cc = some ⟨cl, cld, .cell (some (.ref C)), csl⟩) {cdC : ClassData} (hcls : clsIn K C = some cdC) (hsub : mroIn K C (.ref C) = some true)
    (hks : scope.names.lookup ("super" : Str) = some .globalImplicit) (hkc : scope.names.lookup ("__class__" : Str) = some .free) (hka : scope.names.lookup ar.arg = some .local) (hk : scope.kind = .function)
    (htop : (prog.main.scope.names.lookup ("super" : Str)).isSome = false) (hsup : ks_superIn K C C "__init__" = some (some (.builtin "ValueError.__init__"))) (hB : subIn K (.ref C) (.type "ValueError") = some true)
    (hop : nsIn K cStatics "thirdparty.any" = some none) (qx : excInitIn K C [.type "ValueError", .type "Exception", .type "BaseException", .type "object"] "ValueError.__new__" = true) (hz : us.length ≤ sizeLine)
    (hi : interactive (ksEnv q scope L f (.ref cda) cc) = false) {pl : Sem Bool}
    (hev : eval (.Call (.Attribute (.Call (.Name "super" p0) [] [] p1) "__init__" p2) (e :: es) [] p3) (ksEnv q scope L f (.ref cda) cc) = (do
      let ov ← attributeBase (.Call (.Name "super" p0) [] [] p1) "__init__" (ksEnv q scope L f (.ref cda) cc) (eval (.Call (.Name "super" p0) [] [] p1) (ksEnv q scope L f (.ref cda) cc))
      standAt p2.atName
      let (f', first) ← holding [ov] (getMethod ov "__init__" pl)
      callWith p3 f' first (backTo p3 (starEach (e :: es) (ksEnv q scope L f (.ref cda) cc))) []))
    (he : starEach (e :: es) (ksEnv q scope L f (.ref cda) cc) = (false, eval e (ksEnv q scope L f (.ref cda) cc)) :: starEach es (ksEnv q scope L f (.ref cda) cc)) (hpl : (backTo p3 (starEach es (ksEnv q scope L f (.ref cda) cc))).any (·.1) = false)
    (ha : ∀ s' : Shared, (∀ b o, s.heap.get? b = some o → s'.heap.get? b = some o) → wpAny (model prog w) A (spliced (backTo p3 (starEach (e :: es) (ksEnv q scope L f (.ref cda) cc)))) (fun vs s'' => s'' = s' ∧ vs = us) E s')
    (hq : ∀ h' tk t1, (∀ b o, b ≠ x → s.heap.get? b = some o → h'.get? b = some o) → h'.get? x = some (HandSPX.excO C t1) → Q .next { s with heap := h', toks := tk }) :
    wpAt (model prog w) A (.func body (ksEnv q scope L f (.ref cda) cc)) (exec (.Expr (.Call (.Attribute (.Call (.Name "super" p0) [] [] p1) "__init__" p2) (e :: es) [] p3) p4) (ksEnv q scope L f (.ref cda) cc)) Q E s := by
  obtain ⟨hh, g, d, t, os⟩ := s
  obtain ⟨oD, hD1, hD2⟩ : ∃ oD, hh.get? C = some oD ∧ oD.data = .cls cdC := by
    unfold clsIn at hcls
    split at hcls
    · rename_i c d cd' sl ho
      cases hcls
      exact ⟨_, X _ _ ho, rfl⟩
    · cases hcls
  refine ks_wpAt_Expr_any (ks_wpAt_MethodCall (pl := pl) ?_ hev) hi
  refine ks_wpAt_super_base (env := ksEnv q scope L f (.ref cda) cc) hks hkc (by decide) rfl (X _ _ hf) rfl hp rfl (X _ _ hcode) rfl hvs hfile htop ?_
  refine ks_loadName_global hk hks (loadGlobal_builtin (env := ksEnv q scope L f (.ref cda) cc) hg hmg hb hbs ⟨rfl, ?_⟩)
  refine wpAny_loadName_free hk hkc rfl ⟨_, X _ _ hcell, rfl⟩ ?_
  refine wpAny_loadName_local hk hka hn hv ?_
  refine ks_wpAny_isType_cls hD1 hD2 ⟨rfl, ?_⟩
  have I : InstAt hh x (HandSPX.excO C t0) C none := ⟨hx, rfl, rfl, trivial⟩
  refine ks_wpAny_call_super hD1 hD2 I.at_ I.cls (fun c e => ?_) (looks_mroIn X hsub) (fun h1 e1 k1 => ?_)
  · have := I.no
    unfold notCls at this
    rw [e] at this
    exact Bool.noConfusion this
  have X1 : K.In h1 := X.keeps k1
  have I1 : InstAt h1 x (HandSPX.excO C t0) C none := ⟨k1 _ _ hx, rfl, rfl, trivial⟩
  have hI : Looks (model prog w) h1 (isInstance (.ref x) (.type "ValueError")) true := I1.type.andThen (looks_subIn X1 hB)
  have hm : alongIn K "__init__" ((cdC.mro.dropWhile (· != .ref C)).drop 1) = some (some (.builtin "ValueError.__init__")) := by
    unfold ks_superIn at hsup
    rw [hcls] at hsup
    exact hsup
  refine kxs_getMethod kxs_ValueError e1 (looks_opaque X1 hop) (l₀ := cdC.mro) (fun A Q E s k q => wpAny_bind ((looks_clsIn X1 hcls) A _ E s k (wpAny_pure q))) rfl X1 hm hI hxC (by decide) ?_
  dsimp only
  have k2 : ∀ b o, hh.get? b = some o → (h1.push (kxs_mw "ValueError.__init__" x)).get? b = some o := fun b o z => Heap.get?_push_of_some _ (k1 b o z)
  have hu : (h1.push (kxs_mw "ValueError.__init__" x)).get? h1.objs.size = some (kxs_mw "ValueError.__init__" x) := Heap.get?_push_size h1 rfl
  have ha' := ha ⟨h1.push (kxs_mw "ValueError.__init__" x), g, d, t + 1, os⟩ k2
  rw [he] at ha' ⊢
  refine kxs_callWith (i := "ValueError.__init__") (x := x) (by show (false || (backTo p3 (starEach es (ksEnv q scope L f (.ref cda) cc))).any (·.1)) = false; rw [hpl]; rfl) ?_
  refine evalArgs_plain (wpAny_mono ha' (fun vs s2 hs => ?_) fun _ _ z => z)
  obtain ⟨rfl, rfl⟩ := hs
  refine ⟨hu, ?_⟩
  show wpAny _ _ (call (.ref h1.objs.size) vs) _ _ _
  refine su_call (X.keeps k2) qx hu (k2 _ _ hx) hz fun h' t1 k3 e3 => ?_
  exact hq h' _ t1 (fun b o hb z => k3 b o hb (k2 b o z)) e3

/-- what stands for the class C and its __init__, the def st at fI, whose parameters behind self are ps -/
structure SuC (K : Frag) (prog : Program) (C fI : Addr) (ps : List Str) (st : Stmt) : Prop where
  cls : ∃ nm q N bs bm sn sub ab col dd k0 k1 k2 k3 k5, K.lookup C = some (excClassObj nm q C N bs bm true sn sub ab col dd k0 k1 k2 k3 k5 "ValueError.__new__") ∧ HandSPX.refsVE bm = true
  qx : excInitIn K C [.type "ValueError", .type "Exception", .type "BaseException", .type "object"] "ValueError.__new__" = true
  sa : findIn K (.ref C) "__setattr__" = some (some (.builtin "object.__setattr__"))
  no : ∀ n ∈ ps, findIn K (.ref C) n = some none
  iC : findIn K (.ref C) "__init__" = some (some (.ref fI))
  tI : typeIn K (.ref fI) = some (.type "function")
  sup : ks_superIn K C C "__init__" = some (some (.builtin "ValueError.__init__"))
  hB : subIn K (.ref C) (.type "ValueError") = some true
  hsub : mroIn K C (.ref C) = some true
  hop : nsIn K cStatics "thirdparty.any" = some none
  fn : ∃ (qual : Str) (oc : Value) (od : Option Addr) (kV doc pm : Value) (an : Option Addr) (cda : Addr) (ct : Value) (osl : Array (Option Value)) (cc : Addr) (ccl : Value) (cdd : Option Addr) (vs : Array Value) (ccs : Array (Option Value)) (file : Str) (tf : Tok) (cl : Value) (cld : Option Addr) (csl : Array (Option Value)),
    K.lookup fI = some ⟨oc, od, .func (fnX "__init__" qual (defArgs st) (defBody st) (defScope st) [("__class__", cc)] .none kV doc pm an (.ref cda) ct), osl⟩ ∧ codeIn K (.ref cda) qual = true ∧ K.lookup cda = some ⟨ccl, cdd, .fields vs, ccs⟩ ∧
    vs[2]? = some (.str file tf) ∧ ((prog.main.file : Str) == file) = true ∧ K.lookup cc = some ⟨cl, cld, .cell (some (.ref C)), csl⟩
  top : (prog.main.scope.names.lookup ("super" : Str)).isSome = false
/-- what an __init__ leaves of a new exception at x -/
structure SuEnd (h h' : Heap) (x C dx t1 : Addr) (mA : Str → Option Value) : Prop where
  keep : ∀ b o, b ≠ x → h.get? b = some o → h'.get? b = some o
  obj : h'.get? x = some { cls := .ref C, dict := some dx, data := .fields #[.ref t1, .none, .none, .none, .bool false, .none] }
  dbig : h.objs.size ≤ dx
  dne : dx ≠ x
  ns : h'.Ns1 dx mA
/-- the module's names that super() asks -/
structure SuMod (mg : Str → Option Value) (h : Heap) : Prop where
  g : h.Ns mainGlobals mg
  no : mg "super" = none
  b : ∃ mb, h.Ns builtinsNs mb ∧ mb "super" = some (.type "super")
  lim : h.NoLimit
theorem SuMod.keeps {h h' : Heap} (M : SuMod mg h) (k : ∀ b o, h.get? b = some o → h'.get? b = some o) : SuMod mg h' :=
  ⟨M.g.keeps k, M.no, let ⟨mb, a, b⟩ := M.b; ⟨mb, a.keeps k, b⟩, M.lim.keeps k⟩
theorem su_init1 {R : Result → Shared → Prop} {fI : Addr} {n : Str} {st : Stmt} {p0 p1 p2 p3 p4 q0 q1 q2 q3 q4 : Pos} {pars : Arguments} (T : SuC K prog C fI [n] st) {t0 : Addr} {v : Value} {args : Args} (X : K.In s.heap) (Md : SuMod mg s.heap) (hx : s.heap.get? x = some (HandSPX.excO C t0)) (hxC : x ≠ C) (hnx : K.lookup x = none)
    (hroom : A.depth < recursionLimit) (hbody : defBody st = [.Expr (.Call (.Attribute (.Call (.Name "super" p0) [] [] p1) "__init__" p2) [.Name n q0] [] p3) p4, .Assign [.Attribute (.Name "self" q1) n q2] (.Name n q3) q4])
    (hk : (defScope st).kind = .function) (hks : (defScope st).names.lookup ("super" : Str) = some .globalImplicit) (hkc : (defScope st).names.lookup ("__class__" : Str) = some .free) (hls : (defScope st).names.lookup ("self" : Str) = some .local) (hln : (defScope st).names.lookup n = some .local)
    (hcell : ∀ y ∈ (defScope st).names, y.2 ≠ .cell) (hco : (defScope st).isCoroutine = false) (hgen : (defScope st).isGenerator = false) {ar : Arg} (hp : ((defArgs st).posonlyargs ++ (defArgs st).args).head? = some ar) (har : ar.arg = "self") (hn0 : (n == ("__debug__" : Str)) = false) (hns : (n == ("self" : Str)) = false)
    (hbind : ∀ (qual : Str) (kV doc pm : Value) (an : Option Addr) (cdv ct : Value) (cc : Addr), BindsTo s (fnX "__init__" qual (defArgs st) (defBody st) (defScope st) [("__class__", cc)] .none kV doc pm an cdv ct) args [("self", .ref x), (n, v)])
    (hi : ∀ q L f cda cc, interactive (ksEnv q (defScope st) L f cda cc) = false) (pl : Str → Addr → Addr → Value → Addr → Sem Bool)
    (hev : ∀ q L f cda cc, eval (.Call (.Attribute (.Call (.Name "super" p0) [] [] p1) "__init__" p2) [.Name n q0] [] p3) (ksEnv q (defScope st) L f cda cc) = (do
      let ov ← attributeBase (.Call (.Name "super" p0) [] [] p1) "__init__" (ksEnv q (defScope st) L f cda cc) (eval (.Call (.Name "super" p0) [] [] p1) (ksEnv q (defScope st) L f cda cc))
      standAt p2.atName
      let (f', first) ← holding [ov] (getMethod ov "__init__" (pl q L f cda cc))
      callWith p3 f' first (backTo p3 (starEach [.Name n q0] (ksEnv q (defScope st) L f cda cc))) []))
    (hsw : ∀ q L f cda cc, swapsWith (.Name n q3) (some (.Attribute (.Name "self" q1) n q2)) q4.line (ksEnv q (defScope st) L f cda cc) = pure false)
    (hq : ∀ h' tk dx t1, SuEnd s.heap h' x C dx t1 (fun y => if y = n then some v else none) → R (.ok (.ret .none)) { s with heap := h', toks := tk }) :
    codeAny (model prog w) A (.call (.ref fI) args) R s := by
  obtain ⟨qual, oc, od, kV, doc, pm, an, cda, ct, osl, cc, ccl, cdd, vs, ccs, file, tf, cl, cld, csl, ho, hcd, hcode, hvs, hfile, hcellK⟩ := T.fn
  obtain ⟨nm, qn, N, bs, bm, sn, sub, ab, col, dd, k0, k1, k2, k3, k5, hC, hbm⟩ := T.cls
  have hcl : clsIn K C = some { name := nm, bases := bs, mro := .ref C :: bm, ns := N, qualname := qn, hasDict := true, slotNames := sn, subclasses := sub, abstract := ab, collection := col, hasDel := false } := by unfold clsIn; rw [hC] <;> rfl
  refine ks_codeAny_call_defAt (body := defBody st) (binds := [("self", .ref x), (n, v)]) hroom (X _ _ ho) rfl Md.lim (codeRec_of X hcd) rfl (hbind qual kV doc pm an (.ref cda) ct cc) hcell ?_ (fun h0 hn0' k0' => ?_) hco hgen hk
  · intro y hy
    simp only [List.mem_cons, List.not_mem_nil, or_false] at hy
    rcases hy with rfl | rfl
    · exact hls
    · exact hln
  have M0 := Md.keeps k0'
  obtain ⟨mb, b1, b2⟩ := M0.b
  have X0 : K.In h0 := X.keeps k0'
  have hx0 := k0' _ _ hx
  have vself : (fun y : Str => List.lookup y [(n, v), (("self" : Str), Value.ref x)]) "self" = some (.ref x) := by
    show (match (("self" : Str) == n) with | true => some v | false => List.lookup ("self" : Str) [(("self" : Str), Value.ref x)]) = _
    have z : (("self" : Str) == n) = false := by
      rw [← hns]
      exact Bool.beq_comm ..
    rw [z]
    simp
  have vn : (fun y : Str => List.lookup y [(n, v), (("self" : Str), Value.ref x)]) n = some v := by simp
  show wpAt _ _ (.func (defBody st) (ksEnv qual (defScope st) s.heap.objs.size fI (.ref cda) cc)) (execs (defBody st) (ksEnv qual (defScope st) s.heap.objs.size fI (.ref cda) cc)) _ _ _
  rw [show execs (defBody st) (ksEnv qual (defScope st) s.heap.objs.size fI (.ref cda) cc) = execs [.Expr (.Call (.Attribute (.Call (.Name "super" p0) [] [] p1) "__init__" p2) [.Name n q0] [] p3) p4, .Assign [.Attribute (.Name "self" q1) n q2] (.Name n q3) q4] (ksEnv qual (defScope st) s.heap.objs.size fI (.ref cda) cc) by rw [hbody]]
  refine ks_wpAt_execs_cons ?_
  refine su_super (K := K) (mg := mg) (mb := mb) (x := x) (C := C) (L := s.heap.objs.size) (us := [v]) X0 M0.g M0.no b1 b2 hn0' hx0 hxC ho hp (by rw [har]; exact vself) hcode hvs hfile hcellK hcl T.hsub hks hkc (by rw [har]; exact hls) hk T.top T.sup T.hB T.hop T.qx (by rw [sizeLine_eq]; show 1 ≤ 16777216; decide)
    (hi _ _ _ _ _) (hev _ _ _ _ _) rfl rfl (fun s' ks => ?_) fun h1 tk1 t1 k1 hx1 => ?_
  · refine spliced_cons ?_
    refine wpAny_Name (wpAny_loadName_local hk hln (hn0'.keeps ks) vn ?_) hn0
    exact spliced_nil ⟨rfl, rfl⟩
  · have hnL : h1.Ns s.heap.objs.size (fun y : Str => List.lookup y [(n, v), (("self" : Str), Value.ref x)]) := by
      obtain ⟨o, es, ep, e1, r⟩ := hn0'
      exact ⟨o, es, ep, k1 _ _ (Nat.ne_of_gt (Heap.lt_size hx)) e1, r⟩
    refine wpAt_of_wpAny ?_
    refine wpAny_execs_cons (plainObj_wpAny_Assign_Attribute ?_ (hsw _ _ _ _ _))
    refine wpAny_Name (wpAny_loadName_local hk hln hnL vn ?_) hn0
    refine wpAny_Name (wpAny_loadName_local hk hls hnL vself ?_) (by decide)
    have XC : x ≠ C := hxC
    have X1 : K.In h1 := fun b o e => k1 b o (fun z => by rw [z, hnx] at e; cases e) (X0 b o e)
    refine set_plain X1 (ox := HandSPX.excO C t1) (od := none) ⟨hx1, rfl, rfl, trivial⟩ T.sa ?_
    refine HandSPX.exc_osa X1 hx1 hcl (show HandSPX.refsVE (.ref C :: bm) = true from hbm) rfl (T.no n (by simp)) (fun h3 tk3 dx k3 dn dne hx3 hn3 => ?_)
    show wpAny _ _ (execs _ _) _ _ _
    refine wpAny_execs_nil (hq h3 tk3 dx t1 ⟨fun b o hb e => k3 b o hb (k1 b o hb (k0' b o e)), hx3, ?_, dne, hn3⟩)
    have z2 : s.heap.objs.size < h1.objs.size := hnL.lt
    exact Nat.le_of_lt (Nat.lt_of_lt_of_le z2 dn)

theorem su_init2 {R : Result → Shared → Prop} {fI : Addr} {st : Stmt} {p0 p1 p2 p3 p4 q0 q0' q1 q2 q3 q4 r1 r2 r3 r4 : Pos} (T : SuC K prog C fI ["row", "word"] st) {t0 : Addr} {v u : Value} {args : Args} (X : K.In s.heap) (Md : SuMod mg s.heap) (hx : s.heap.get? x = some (HandSPX.excO C t0)) (hxC : x ≠ C) (hnx : K.lookup x = none)
    (hroom : A.depth < recursionLimit) (hbody : defBody st = [.Expr (.Call (.Attribute (.Call (.Name "super" p0) [] [] p1) "__init__" p2) [.Name "row" q0, .Name "word" q0'] [] p3) p4, .Assign [.Attribute (.Name "self" q1) "row" q2] (.Name "row" q3) q4, .Assign [.Attribute (.Name "self" r1) "word" r2] (.Name "word" r3) r4])
    (hk : (defScope st).kind = .function) (hks : (defScope st).names.lookup ("super" : Str) = some .globalImplicit) (hkc : (defScope st).names.lookup ("__class__" : Str) = some .free) (hls : (defScope st).names.lookup ("self" : Str) = some .local) (hln : (defScope st).names.lookup ("row" : Str) = some .local) (hlw : (defScope st).names.lookup ("word" : Str) = some .local)
    (hcell : ∀ y ∈ (defScope st).names, y.2 ≠ .cell) (hco : (defScope st).isCoroutine = false) (hgen : (defScope st).isGenerator = false) {ar : Arg} (hp : ((defArgs st).posonlyargs ++ (defArgs st).args).head? = some ar) (har : ar.arg = "self")
    (hbind : ∀ (qual : Str) (kV doc pm : Value) (an : Option Addr) (cdv ct : Value) (cc : Addr), BindsTo s (fnX "__init__" qual (defArgs st) (defBody st) (defScope st) [("__class__", cc)] .none kV doc pm an cdv ct) args [("self", .ref x), ("row", v), ("word", u)])
    (hi : ∀ q L f cda cc, interactive (ksEnv q (defScope st) L f cda cc) = false) (pl : Str → Addr → Addr → Value → Addr → Sem Bool)
    (hev : ∀ q L f cda cc, eval (.Call (.Attribute (.Call (.Name "super" p0) [] [] p1) "__init__" p2) [.Name "row" q0, .Name "word" q0'] [] p3) (ksEnv q (defScope st) L f cda cc) = (do
      let ov ← attributeBase (.Call (.Name "super" p0) [] [] p1) "__init__" (ksEnv q (defScope st) L f cda cc) (eval (.Call (.Name "super" p0) [] [] p1) (ksEnv q (defScope st) L f cda cc))
      standAt p2.atName
      let (f', first) ← holding [ov] (getMethod ov "__init__" (pl q L f cda cc))
      callWith p3 f' first (backTo p3 (starEach [.Name "row" q0, .Name "word" q0'] (ksEnv q (defScope st) L f cda cc))) []))
    (hsw : ∀ q L f cda cc, swapsWith (.Name "row" q3) (some (.Attribute (.Name "self" q1) "row" q2)) q4.line (ksEnv q (defScope st) L f cda cc) = pure false)
    (hsw' : ∀ q L f cda cc, swapsWith (.Name "word" r3) (some (.Attribute (.Name "self" r1) "word" r2)) r4.line (ksEnv q (defScope st) L f cda cc) = pure false)
    (hq : ∀ h' tk dx t1, SuEnd s.heap h' x C dx t1 (fun y => if y = "word" then some u else if y = "row" then some v else none) → R (.ok (.ret .none)) { s with heap := h', toks := tk }) :
    codeAny (model prog w) A (.call (.ref fI) args) R s := by
  obtain ⟨qual, oc, od, kV, doc, pm, an, cda, ct, osl, cc, ccl, cdd, vs, ccs, file, tf, cl, cld, csl, ho, hcd, hcode, hvs, hfile, hcellK⟩ := T.fn
  obtain ⟨nm, qn, N, bs, bm, sn, sub, ab, col, dd, k0, k1, k2, k3, k5, hC, hbm⟩ := T.cls
  have hcl : clsIn K C = some { name := nm, bases := bs, mro := .ref C :: bm, ns := N, qualname := qn, hasDict := true, slotNames := sn, subclasses := sub, abstract := ab, collection := col, hasDel := false } := by unfold clsIn; rw [hC] <;> rfl
  refine ks_codeAny_call_defAt (body := defBody st) (binds := [("self", .ref x), ("row", v), ("word", u)]) hroom (X _ _ ho) rfl Md.lim (codeRec_of X hcd) rfl (hbind qual kV doc pm an (.ref cda) ct cc) hcell ?_ (fun h0 hn0' k0' => ?_) hco hgen hk
  · intro y hy
    simp only [List.mem_cons, List.not_mem_nil, or_false] at hy
    rcases hy with rfl | rfl | rfl
    · exact hls
    · exact hln
    · exact hlw
  have M0 := Md.keeps k0'
  obtain ⟨mb, b1, b2⟩ := M0.b
  have X0 : K.In h0 := X.keeps k0'
  have hx0 := k0' _ _ hx
  have vself : (fun y : Str => List.lookup y [(("word" : Str), u), (("row" : Str), v), (("self" : Str), Value.ref x)]) "self" = some (.ref x) := rfl
  have vn : (fun y : Str => List.lookup y [(("word" : Str), u), (("row" : Str), v), (("self" : Str), Value.ref x)]) "row" = some v := rfl
  have vw : (fun y : Str => List.lookup y [(("word" : Str), u), (("row" : Str), v), (("self" : Str), Value.ref x)]) "word" = some u := rfl
  show wpAt _ _ (.func (defBody st) (ksEnv qual (defScope st) s.heap.objs.size fI (.ref cda) cc)) (execs (defBody st) (ksEnv qual (defScope st) s.heap.objs.size fI (.ref cda) cc)) _ _ _
  rw [show execs (defBody st) (ksEnv qual (defScope st) s.heap.objs.size fI (.ref cda) cc) = execs [.Expr (.Call (.Attribute (.Call (.Name "super" p0) [] [] p1) "__init__" p2) [.Name "row" q0, .Name "word" q0'] [] p3) p4, .Assign [.Attribute (.Name "self" q1) "row" q2] (.Name "row" q3) q4, .Assign [.Attribute (.Name "self" r1) "word" r2] (.Name "word" r3) r4] (ksEnv qual (defScope st) s.heap.objs.size fI (.ref cda) cc) by rw [hbody]]
  refine ks_wpAt_execs_cons ?_
  refine su_super (K := K) (mg := mg) (mb := mb) (x := x) (C := C) (L := s.heap.objs.size) (us := [v, u]) X0 M0.g M0.no b1 b2 hn0' hx0 hxC ho hp (by rw [har]; exact vself) hcode hvs hfile hcellK hcl T.hsub hks hkc (by rw [har]; exact hls) hk T.top T.sup T.hB T.hop T.qx (by rw [sizeLine_eq]; show 2 ≤ 16777216; decide)
    (hi _ _ _ _ _) (hev _ _ _ _ _) rfl rfl (fun s' ks => ?_) fun h1 tk1 t1 k1 hx1 => ?_
  · refine spliced_cons ?_
    refine wpAny_Name (wpAny_loadName_local hk hln (hn0'.keeps ks) vn ?_) (by decide)
    refine spliced_cons ?_
    refine wpAny_Name (wpAny_loadName_local hk hlw (hn0'.keeps ks) vw ?_) (by decide)
    exact spliced_nil ⟨rfl, rfl⟩
  · have nLx : s.heap.objs.size ≠ x := Nat.ne_of_gt (Heap.lt_size hx)
    have hnL : h1.Ns s.heap.objs.size (fun y : Str => List.lookup y [(("word" : Str), u), (("row" : Str), v), (("self" : Str), Value.ref x)]) := by
      obtain ⟨o, es, ep, e1, r⟩ := hn0'
      exact ⟨o, es, ep, k1 _ _ nLx e1, r⟩
    refine wpAt_of_wpAny ?_
    refine wpAny_execs_cons (plainObj_wpAny_Assign_Attribute ?_ (hsw _ _ _ _ _))
    refine wpAny_Name (wpAny_loadName_local hk hln hnL vn ?_) (by decide)
    refine wpAny_Name (wpAny_loadName_local hk hls hnL vself ?_) (by decide)
    have X1 : K.In h1 := fun b o e => k1 b o (fun z => by rw [z, hnx] at e; cases e) (X0 b o e)
    refine set_plain X1 (ox := HandSPX.excO C t1) (od := none) ⟨hx1, rfl, rfl, trivial⟩ T.sa ?_
    refine HandSPX.exc_osa X1 hx1 hcl (show HandSPX.refsVE (.ref C :: bm) = true from hbm) rfl (T.no "row" (by decide)) (fun h3 tk3 dx k3 dn dne hx3 hn3 => ?_)
    show wpAny _ _ (execs _ _) _ _ _
    have hnL3 : h3.Ns s.heap.objs.size (fun y : Str => List.lookup y [(("word" : Str), u), (("row" : Str), v), (("self" : Str), Value.ref x)]) := by
      obtain ⟨o, es, ep, e1, r⟩ := hnL
      exact ⟨o, es, ep, k3 _ _ nLx e1, r⟩
    have X3 : K.In h3 := fun b o e => k3 b o (fun z => by rw [z, hnx] at e; cases e) (X1 b o e)
    obtain ⟨oD, esD, epD, hoD, hdD, _⟩ := hn3.count (Within.cons "row" v Within.nil)
    refine wpAny_execs_cons (plainObj_wpAny_Assign_Attribute ?_ (hsw' _ _ _ _ _))
    refine wpAny_Name (wpAny_loadName_local hk hlw hnL3 vw ?_) (by decide)
    refine wpAny_Name (wpAny_loadName_local hk hls hnL3 vself ?_) (by decide)
    refine set_plain X3 (ox := { cls := .ref C, dict := some dx, data := .fields #[.ref t1, .none, .none, .none, .bool false, .none] }) (od := some oD) ⟨hx3, rfl, rfl, hoD⟩ T.sa ?_
    have z2 : s.heap.objs.size < h1.objs.size := hnL.lt
    have ndx : ∀ b o, s.heap.get? b = some o → b ≠ dx := fun b o e => Nat.ne_of_lt (Nat.lt_trans (Heap.lt_size e) (Nat.lt_of_lt_of_le z2 dn))
    refine OEX.osa_old X3 hx3 hn3 (Within.cons "row" v Within.nil) (by decide) hcl (show HandSPX.refsVE (.ref C :: bm) = true from hbm) rfl (T.no "word" (by decide)) (fun h4 tk4 k4 hn4 => ?_)
    show wpAny _ _ (execs _ _) _ _ _
    exact wpAny_execs_nil (hq h4 tk4 dx t1 ⟨fun b o hb e => k4 b o (ndx b o e) (k3 b o hb (k1 b o hb (k0' b o e))), k4 _ _ (Ne.symm dne) hx3, Nat.le_of_lt (Nat.lt_of_lt_of_le z2 dn), dne, hn4⟩)
end
end DL
set_option maxHeartbeats 4000000
/-! E2: making own exceptions, by place and by name. -/
namespace DL
open PySem PySem.Spec PySem.W PySem.Calls L2
open PyProof.Rows hiding St wpAt wpAt_bind wpAt_stack wpAt_mono

section
variable {M : Model} {A : Around} {E : Value → Shared → Prop} {h : Heap} {g : Array GenState} {d : Drawn} {t : Nat} {os : OsState}
variable {nm q : Str} {C N : Addr} {bs bm bmB : List Value} {hdct : Bool} {sn : List Str} {sub : List Value} {ab : Bool} {col : Option Bool} {dd : Option Addr} {k0 k1 k2 k3 k5 : Option Value} {B newId initId : String}

theorem kw_check_new (F : ExcBaseFacts B newId initId bmB) (hT : ∀ X : String, bm.contains (.type X) = bmB.contains (.type X)) {rest : List Value} {kw : List (Str × Value)} {Q : Unit → Shared → Prop}
    (hC : h.get? C = some (excClassObj nm q C N bs bm hdct sn sub ab col dd k0 k1 k2 k3 k5 newId)) (hq : Q () ⟨h, g, d, t, os⟩) : wpAny M A (checkBuiltinCall newId ⟨.ref C :: rest, kw⟩) Q E ⟨h, g, d, t, os⟩ := by
  have hcont : (Value.ref C :: bm).contains (.type B) = true := by rw [List.contains_cons, hT, F.hasB, Bool.or_true]
  have hstar := F.noStar
  simp only [checkBuiltinCall, F.newKind, F.newSplit, F.newRow]
  repeat (first | refine wpAny_loadPart_at hC ?_ | (refine wpAny_isSubtype_exc hC ?_; rw [hcont]) | refine wpAny_staticBase_exc hC ?_ | refine wpAny_madeBy_exc hC ?_ | simp only [bne_self_eq_false, Bool.false_eq_true, if_false] | wp_step)
  exact hq
end
section
variable {prog : Program} {w : World} {A : Around} {E : Value → Shared → Prop} {R : Result → Shared → Prop} {h : Heap} {g : Array GenState} {d : Drawn} {t : Nat} {os : OsState}
variable {nm q : Str} {C N : Addr} {bs bm bmB : List Value} {hdct : Bool} {sn : List Str} {sub : List Value} {ab : Bool} {col : Option Bool} {dd : Option Addr} {k0 k1 k2 k3 k5 : Option Value} {B newId initId : String}

theorem kw_new (F : ExcBaseFacts B newId initId bmB) (hT : ∀ X : String, bm.contains (.type X) = bmB.contains (.type X)) {rest : List Value} {kw : List (Str × Value)}
    (hC : h.get? C = some (excClassObj nm q C N bs bm hdct sn sub ab col dd k0 k1 k2 k3 k5 newId))
    (hq : R (.ok (.ret (.ref (h.objs.size + 1)))) ⟨(h.push { cls := .type "tuple", data := .seq rest.toArray }).push
      { cls := .ref C, data := .fields #[.ref h.objs.size, .none, .none, .none, .bool false, .none] }, g, d, t, os⟩) (hrest : rest.length ≤ sizeLine) :
    codeAny (model prog w) A (.builtin newId ⟨.ref C :: rest, kw⟩) R ⟨h, g, d, t, os⟩ := by
  have hends := F.ends
  have hcB : (Value.ref C :: bm).contains (.type B) = true := by rw [List.contains_cons, hT, F.hasB, Bool.or_true]
  have hcA : (Value.ref C :: bm).contains (.type "AttributeError") = false := by rw [List.contains_cons, hT, F.noAttr]; rfl
  have hcN : (Value.ref C :: bm).contains (.type "NameError") = false := by rw [List.contains_cons, hT, F.noName]; rfl
  refine codeAny_builtinAt F.entry ?_
  unfold Builtin.«BaseException.__new__»
  refine wpAt_bind ?_
  show wpAt _ _ _ (stack >>= _) _ _ _
  refine wpAt_bind (wpAt_stack fun p below => wpAt_of_wpAny ?_)
  wp_walk
  refine wpAt_of_wpAny ?_
  rw [F.owner]
  repeat (first | with_reducible refine wpAny_madeHere_exc F.canon hC ?_ | with_reducible refine wpAny_loadPart_at hC ?_ | (with_reducible refine wpAny_isSubtype_exc hC ?_; first | rw [hcB] | rw [hcA] | rw [hcN]) | wp_step)
  show R _ _
  rw [Heap.size_push]
  exact hq

theorem kw_type_call (F : ExcBaseFacts B newId initId bmB) (hT : ∀ X : String, bm.contains (.type X) = bmB.contains (.type X)) {rest : List Value} {kw : List (Str × Value)} {fI : Addr} {Q : Fin → Shared → Prop}
    (hC : h.get? C = some (excClassObj nm q C N bs bm hdct sn sub ab col dd k0 k1 k2 k3 k5 newId))
    (hi : W.Looks (model prog w) h (typeLookup (.ref C) "__init__") (some (.ref fI))) (hb : ∀ self, W.Looks (model prog w) h (bindSpecial (.ref fI) self) (.ref fI, [self])) (hrest : rest.length ≤ sizeLine)
    (hq : codeAny (model prog w) A (.call (.ref fI) ⟨.ref (h.objs.size + 1) :: rest, kw⟩)
      (fun r s' => match r with | .ok (.ret v) => v = .none ∧ Q (.done (.ret (.ref (h.objs.size + 1)))) s' | .ok _ => False | .error e => E e s')
      ⟨(h.push (W.kdv_tup rest)).push (HandSPX.excO C h.objs.size), g, d, t, os⟩) :
    wpAny (model prog w) A (Builtin.«type.__call__» ⟨.ref C :: rest, kw⟩) Q E ⟨h, g, d, t, os⟩ := by
  repeat (first | with_reducible refine wpAny_loadPart_at hC ?_ | with_reducible refine wpAny_madeBy_exc hC ?_ | wp_step)
  refine codeAny_call_builtin_code (Code.quiet_builtin _ F.quiet) (kw_check_new F hT hC ?_)
  refine kw_new F hT hC ?_ hrest
  show wpAny _ _ _ _ _ _
  have k : ∀ b o, h.get? b = some o → ((h.push (W.kdv_tup rest)).push (HandSPX.excO C h.objs.size)).get? b = some o := fun b o e => Heap.get?_push_of_some _ (Heap.get?_push_of_some _ e)
  have hC₁ := k _ _ hC
  have hget : ((h.push (W.kdv_tup rest)).push (HandSPX.excO C h.objs.size)).get? (h.objs.size + 1) = some (HandSPX.excO C h.objs.size) := by heap_get
  have hcC : (Value.ref C :: bm).contains (.ref C) = true := by simp
  have i1 := hi.keeps k
  have b1 := (hb (.ref (h.objs.size + 1))).keeps k
  unfold isInstance
  repeat (first | with_reducible refine wpAny_loadPart_at hget ?_ | (with_reducible refine wpAny_isSubtype_exc hC₁ ?_; rw [hcC]) | wp_step)
  show wpAny _ _ (typeLookup (.ref C) _) _ _ _
  refine i1.at ?_
  refine wpAny_holding (wpAny_bind (b1.at ?_))
  refine wpAny_bind (wpAny_call (codeAny_mono hq fun r s' z => ?_))
  rcases r with e | (v | _ | _ | _) <;> first | exact z | exact z.elim | skip
  obtain ⟨rfl, z⟩ := z
  first
    | exact wpAny_pure (wpAny_pure z)
    | (wp_walk; exact z)

theorem kw_call_own (F : ExcBaseFacts B newId initId bmB) (hT : ∀ X : String, bm.contains (.type X) = bmB.contains (.type X)) {rest : List Value} {kw : List (Str × Value)} {fI : Addr}
    (hC : h.get? C = some (excClassObj nm q C N bs bm hdct sn sub ab col dd k0 k1 k2 k3 k5 newId))
    (hi : W.Looks (model prog w) h (typeLookup (.ref C) "__init__") (some (.ref fI))) (hb : ∀ self, W.Looks (model prog w) h (bindSpecial (.ref fI) self) (.ref fI, [self])) (hrest : rest.length ≤ sizeLine)
    (hq : codeAny (model prog w) (A.under (.builtin "type.__call__" ⟨.ref C :: rest, kw⟩)) (.call (.ref fI) ⟨.ref (h.objs.size + 1) :: rest, kw⟩) (W.InitBack (h.objs.size + 1) R)
      ⟨(h.push (W.kdv_tup rest)).push (HandSPX.excO C h.objs.size), g, d, t, os⟩) :
    codeAny (model prog w) A (.call (.ref C) ⟨rest, kw⟩) R ⟨h, g, d, t, os⟩ := by
  have f1 := tc_lookup
  have f2 := tc_bind (.ref C)
  have hTy : (⟨h, g, d, t, os⟩ : Shared).TypeIs (.ref C) "type" := ⟨_, hC, rfl⟩
  refine codeAny_of_tree ?_
  show wpAny _ _ (callAny (.ref C) _) _ _ _
  repeat (any_goals (first | assumption | with_reducible refine wpAny_loadPart_at hC ?_ | wp_step))
  refine ⟨rfl, ?_⟩
  refine codeAny_call_builtin_at (Code.quiet_builtin _ (by decide +kernel)) entry_typeCall (wpAny_check_type_call_sub hC (kw_type_call F hT hC hi hb hrest ?_))
  refine codeAny_mono hq fun r s' z => ?_
  rcases r with e | (v | _ | _ | _) <;> exact z
end

/-! ### what a call of such a class leaves -/
structure SuMade (h h' : Heap) (e C d : Addr) (mA : Str → Option Value) : Prop where
  keep : ∀ b o, h.get? b = some o → h'.get? b = some o
  new : h.objs.size ≤ e
  obj : ∃ t1, h'.get? e = some { cls := .ref C, dict := some d, data := .fields #[.ref t1, .none, .none, .none, .bool false, .none] }
  dbig : h.objs.size ≤ d
  dne : d ≠ e
  ns : h'.Ns1 d mA
/-- the class C, called with such arguments, makes an exception whose attributes are mA -/
def MkC (prog : Program) (w : World) (K : Frag) (mg : Str → Option Value) (C : Addr) (pos : List Value) (kw : List (Str × Value)) (mA : Str → Option Value) : Prop :=
  ∀ (A : Around) (s : Shared) (R : Result → Shared → Prop), K.In s.heap → SuMod mg s.heap → A.depth + 1 < recursionLimit →
    (∀ h' tk e d, SuMade s.heap h' e C d mA → R (.ok (.ret (.ref e))) { s with heap := h', toks := tk }) → codeAny (model prog w) A (.call (.ref C) ⟨pos, kw⟩) R s
section
variable {prog : Program} {w : World} {K : Frag} {mg : Str → Option Value} {C fI : Addr} {ps : List Str} {st : Stmt} {pos : List Value} {kw : List (Str × Value)} {mA : Str → Option Value}
theorem mkC_of (T : SuC K prog C fI ps st) (hz : pos.length ≤ sizeLine)
    (hinit : ∀ (A : Around) (s : Shared) (x t0 : Addr) (R : Result → Shared → Prop), K.In s.heap → SuMod mg s.heap → s.heap.get? x = some (HandSPX.excO C t0) → x ≠ C → K.lookup x = none → A.depth < recursionLimit →
      (∀ h' tk dx t1, SuEnd s.heap h' x C dx t1 mA → R (.ok (.ret .none)) { s with heap := h', toks := tk }) → codeAny (model prog w) A (.call (.ref fI) ⟨.ref x :: pos, kw⟩) R s) : MkC prog w K mg C pos kw mA := by
  intro A s R X Md hroom hq
  obtain ⟨nm, q, N, bs, bm, sn, sub, ab, col, dd, k0, k1, k2, k3, k5, hC, hbm⟩ := T.cls
  obtain ⟨hp, g, dr, tk, os⟩ := s
  have k : ∀ b o, hp.get? b = some o → ((hp.push (kdv_tup pos)).push (HandSPX.excO C hp.objs.size)).get? b = some o := fun b o e => Heap.get?_push_of_some _ (Heap.get?_push_of_some _ e)
  have hget : ((hp.push (kdv_tup pos)).push (HandSPX.excO C hp.objs.size)).get? (hp.objs.size + 1) = some (HandSPX.excO C hp.objs.size) := by heap_get
  have lt : ∀ {b : Addr} {o : Obj}, hp.get? b = some o → b ≠ hp.objs.size + 1 := fun e => Nat.ne_of_lt (Nat.lt_succ_of_lt (Heap.lt_size e))
  have hnx : K.lookup (hp.objs.size + 1) = none := by
    cases e : K.lookup (hp.objs.size + 1) with
    | none => rfl
    | some o => exact absurd rfl (lt (X _ _ e))
  refine kw_call_own F.excBase_ValueError (fun X => HandSPX.refsVE_contains X bm hbm) (X _ _ hC) (looks_findIn X T.iC) (fun self => bind_fn X self T.tI) hz ?_
  refine hinit _ ⟨(hp.push (kdv_tup pos)).push (HandSPX.excO C hp.objs.size), g, dr, tk, os⟩ _ hp.objs.size _ (X.keeps k) (Md.keeps k) hget (Ne.symm (lt (X _ _ hC))) hnx ?_ fun h' tk' dx t1 E => ?_
  · show A.depth + 1 < recursionLimit
    exact hroom
  · have z : hp.objs.size + 1 + 1 ≤ dx := by
      have q := E.dbig
      first
        | exact q
        | (simpa only [Heap.size_push] using q)
        | (rw [Heap.size_push, Heap.size_push] at q; exact q)
    exact ⟨rfl, hq h' tk' _ dx ⟨fun b o e => E.keep b o (lt e) (k b o e), Nat.le_succ _, ⟨t1, E.obj⟩, Nat.le_trans (Nat.le_trans (Nat.le_succ _) (Nat.le_succ _)) z, E.dne, E.ns⟩⟩
end
end DL
set_option maxHeartbeats 4000000
/-! E3: own exceptions as values: made, asked, read, raised. -/
namespace DL
open PySem PySem.Spec PySem.W PySem.Calls L2
open PyProof.Rows hiding St wpAt wpAt_bind wpAt_stack wpAt_mono

/-- an object that stands as it stands -/
def ExF (oe : Obj) (a : Addr) : HO := .ext fun h => h.get? a = some oe
theorem exF_ok {P : Program} {w : World} {H : Hp} {h : Heap} {a : Addr} {oe : Obj} (e : h.get? a = some oe) : ObjOk P w H h a (ExF oe a) := ⟨e, ⟨oe, e⟩, fun _ _ q k => k _ q⟩
theorem exF_at {P : Program} {w : World} {H : Hp} {h : Heap} {a : Addr} {oe : Obj} (x : HOk P w H h) (e : H a = some (ExF oe a)) : h.get? a = some oe := (x a _ e).1
/-- at a stands an exception of the class at C that never flew, its attributes fs -/
structure ExI (H : Hp) (C a : Addr) (fs : List (Str × V)) : Prop where
  ex : ∃ (oe : Obj) (vs : Array Value), H a = some (ExF oe a) ∧ oe.cls = .ref C ∧ oe.data = .fields vs ∧ vs[1]? = some .none ∧ ((oe.dict = none ∧ fs = []) ∨ ∃ d, oe.dict = some d ∧ H d = some (.xd fs))
theorem ExI.mono {H H' : Hp} {C a : Addr} {fs : List (Str × V)} (x : ExI H C a fs) (e : ∀ b o, (∀ xs, o ≠ .lst xs) → H b = some o → H' b = some o) : ExI H' C a fs := by
  obtain ⟨oe, vs, h1, h2, h3, h4, h5⟩ := x.ex
  refine ⟨oe, vs, e _ _ (fun _ z => nomatch z) h1, h2, h3, h4, ?_⟩
  rcases h5 with h5 | ⟨d, h5, h6⟩
  · exact .inl h5
  · exact .inr ⟨d, h5, e _ _ (fun _ z => nomatch z) h6⟩
theorem ExI.same {H H' : Hp} {C a : Addr} {fs : List (Str × V)} (x : ExI H C a fs) (e : Same H H') : ExI H' C a fs := x.mono fun b o _ h => e b o h

section
variable {X : Cx} {pins : List (Addr × Obj)} {σ : St} {H : Hp} {s : Shared}
/-- two new objects laid and tracked -/
theorem inv_laid2 {h' : Heap} {a d : Addr} {o u : HO} {t' : Nat} (I : Inv X pins σ H s) (k : ∀ b v, s.heap.get? b = some v → h'.get? b = some v) (ha : s.heap.objs.size ≤ a) (hd : s.heap.objs.size ≤ d) (hne : d ≠ a)
    (nu : ObjOk X.prog X.w (upd (upd H d u) a o) h' d u) (no : ObjOk X.prog X.w (upd (upd H d u) a o) h' a o) : Inv X pins σ (upd (upd H d u) a o) { s with heap := h', toks := t' } := by
  have na : H a = none := I.hok.fresh ha
  have nd : H d = none := I.hok.fresh hd
  have old : ∀ {b : Addr} {v : Obj}, s.heap.get? b = some v → b ≠ a ∧ b ≠ d := fun e => ⟨Nat.ne_of_lt (Nat.lt_of_lt_of_le (Heap.lt_size e) ha), Nat.ne_of_lt (Nat.lt_of_lt_of_le (Heap.lt_size e) hd)⟩
  have at_ : ∀ {b : Addr}, b ≠ a → b ≠ d → upd (upd H d u) a o b = H b := fun h1 h2 => by rw [upd_ne h1, upd_ne h2]
  have st : ∀ {b : Addr} {v : HO}, H b = some v → upd (upd H d u) a o b = some v := fun e => by
    rw [at_ (ne_of_none e na) (ne_of_none e nd)]
    exact e
  refine I.un ⟨fun b v e _ _ _ => k b v e, fun b v e _ _ _ => ⟨v.slots, k b v e⟩, fun b v e n _ => ?_, fun b v e _ => ⟨v, k b v e⟩, fun b xs e => st e, fun b v xs e => st e, fun b ps e => ⟨#[], by rw [st e]; simp⟩⟩ fun b v e => ?_
  · rw [at_ (old e).1 (old e).2]
    exact n
  · by_cases hb : b = a
    · subst hb
      rw [upd_same] at e
      cases e
      exact no
    · by_cases hb2 : b = d
      · subst hb2
        rw [upd_ne hb, upd_same] at e
        cases e
        exact nu
      · rw [at_ hb hb2] at e
        exact (I.hok b v e).stay (fun c v _ q => k c v q) (fun c q => st q) fun c xs q => st q
theorem suMod (I : Inv X pins σ H s) (hn : X.mg "super" = none) : SuMod X.mg s.heap := by
  obtain ⟨mb, b1, b2⟩ := I.mod.blt
  exact ⟨I.mod.glob.keeps I.bk, hn, ⟨mb, b1.keeps I.bk, (b2 "super" (by decide)).trans (by decide +kernel)⟩, I.nolimit⟩
/-- what a making leaves, tracked -/
theorem made_inv {h' : Heap} {tk : Nat} {e C d : Addr} {mA : Str → Option Value} {fs : List (Str × V)} (I : Inv X pins σ H s) (M : SuMade s.heap h' e C d mA) (hr : ∀ f, RelO (fs.lookup f) (mA f)) :
    ∃ H', Inv X pins σ H' { s with heap := h', toks := tk } ∧ Same H H' ∧ H e = none ∧ ExI H' C e fs := by
  obtain ⟨t1, ho⟩ := M.obj
  have na : H e = none := I.hok.fresh M.new
  have nd : H d = none := I.hok.fresh M.dbig
  refine ⟨upd (upd H d (.xd fs)) e (ExF _ e), inv_laid2 I M.keep M.new M.dbig M.dne ⟨mA, M.ns, hr⟩ (exF_ok ho), fun b o q => ?_, na, ⟨_, _, upd_same, rfl, rfl, rfl, .inr ⟨d, rfl, by rw [upd_ne M.dne, upd_same]⟩⟩⟩
  rw [upd_ne (ne_of_none q na), upd_ne (ne_of_none q nd)]
  exact q
end

/-- the reading of a making: the new exception's attributes by the arguments -/
def tSu (C : Addr) (fsOf : List V → Option (List (Str × V))) (ta : TA) : TE := fun σ H Q => ta σ H fun vs H1 => ∃ fs, fsOf vs = some fs ∧ ∀ a H2, Same H1 H2 → H1 a = none → ExI H2 C a fs → Q (.ref a) H2
/-- what a class must keep so that its call with such arguments is known: kw: the names of the arguments by name -/
structure SuK (P : Program) (w : World) (K : Frag) (mg : Str → Option Value) (C : Addr) (kw : List Str) (fsOf : List V → Option (List (Str × V))) : Prop where
  kC : keepIn K (.ref C) = true
  no : mg "super" = none
  mks : ∀ (vs : List V) (us : List Value) (fs : List (Str × V)), Vals vs us → fsOf vs = some fs → ∃ mA, MkC P w K mg C (us.take (us.length - kw.length)) (kw.zip (us.drop (us.length - kw.length))) mA ∧ ∀ f, RelO (fs.lookup f) (mA f)
section
variable {X : Cx} {C : Addr} {k : Nat} {fsOf : List V → Option (List (Str × V))} {x : Str} {e : Expr} {es : List Expr} {kws : List Keyword} {ta : TA} {p pos : Pos} {ks : List Str}
theorem pe_su (S : SuK X.prog X.w X.K X.mg C [] fsOf) (hr : X.A.depth + 1 < recursionLimit) (hg : Gl X x) (hm : X.mg x = some (.ref C)) (ha : PA X (e :: es) ta)
    (hdb : (x == ("__debug__" : Str)) = false := by decide) (he : starEach (e :: es) X.env = (false, eval e X.env) :: starEach es X.env := by rfl) (hpl : (backTo pos (starEach es X.env)).any (·.1) = false := by rfl) :
    PE X (.Call (.Name x p) (e :: es) [] pos) (tSu C fsOf ta) := by
  refine ⟨fun pins s σ H Q I h => ?_⟩
  refine wpAny_Call_Name_kw (ld_glob I hg hm ?_ hdb)
  refine PySem.W.callWith_K (h₀ := X.base) I.ok.mod.kin S.kC (thn (ha.run pos pins s σ H _ I h) fun us s1 ⟨vs, H1, I1, r1, fs, hf, q⟩ => ⟨I1.kIn, ?_⟩) he hpl
  obtain ⟨mA, M, hA⟩ := S.mks vs us fs r1 hf
  have M' : MkC X.prog X.w X.K X.mg C us [] mA := by simpa using M
  refine wpAny_call (M' _ _ _ I1.kIn (suMod I1 S.no) hr fun h' tk e d Md => ?_)
  obtain ⟨H', I', sm, ne, xi⟩ := made_inv (tk := tk) I1 Md hA
  exact ⟨.ref e, H', I', rfl, q _ _ sm ne xi⟩
theorem pe_suK (S : SuK X.prog X.w X.K X.mg C ks fsOf) (hr : X.A.depth + 1 < recursionLimit) (hg : Gl X x) (hm : X.mg x = some (.ref C)) (ha : PK X kws ta) (hl : ∀ vs fs, fsOf vs = some fs → vs.length = ks.length)
    (hall : (backToKw pos (keywordEach kws X.env)).all (·.1.isSome) = true := by rfl) (hks : (backToKw pos (keywordEach kws X.env)).filterMap (·.1) = ks := by rfl) (hdb : (x == ("__debug__" : Str)) = false := by decide)
    (hpl : ((backTo pos (starEach [] X.env)).any (·.1) || (backToKw pos (keywordEach kws X.env)).any (·.1.isNone)) = false := by rfl) :
    PE X (.Call (.Name x p) [] kws pos) (tSu C fsOf ta) := by
  refine ⟨fun pins s σ H Q I h => ?_⟩
  refine wpAny_Call_Name_kw (ld_glob I hg hm ?_ hdb)
  refine PySem.W.callWith_KW0 (h₀ := X.base) I.ok.mod.kin S.kC hall (thn (ha.run pos pins s σ H _ I h) fun us s1 ⟨vs, H1, I1, r1, fs, hf, q⟩ => ⟨I1.kIn, ?_⟩) hpl
  rw [hks]
  obtain ⟨mA, M, hA⟩ := S.mks vs us fs r1 hf
  have hlen : us.length = ks.length := r1.length.symm.trans (hl vs fs hf)
  have M' : MkC X.prog X.w X.K X.mg C [] (ks.zip us) mA := by simpa [hlen] using M
  refine wpAny_call (M' _ _ _ I1.kIn (suMod I1 S.no) hr fun h' tk e d Md => ?_)
  obtain ⟨H', I', sm, ne, xi⟩ := made_inv (tk := tk) I1 Md hA
  exact ⟨.ref e, H', I', rfl, q _ _ sm ne xi⟩
end
end DL
set_option maxHeartbeats 4000000
/-! E4: own exceptions raised; without __init__; asked by isinstance; read. -/
namespace DL
open PySem PySem.Spec PySem.W PySem.Calls L2
open PyProof.Rows hiding St wpAt wpAt_bind wpAt_stack wpAt_mono

/-! ### raised -/
section
variable {X : Cx} {pins : List (Addr × Obj)} {σ : St} {H : Hp} {s : Shared}
theorem made_mk {h' : Heap} {tk : Nat} {e C d : Addr} {mA : Str → Option Value} {fs : List (Str × V)} {Q : XK} (I : Inv X pins σ H s) (M : SuMade s.heap h' e C d mA) (hr : ∀ f, RelO (fs.lookup f) (mA f)) (R : Raises X (.ref C))
    (q : ∀ d, H d = none → Q (.ref C) (some d) (upd H d (.xd fs))) : MkP X pins σ Q (.ref e) { s with heap := h', toks := tk } := by
  obtain ⟨t1, ho⟩ := M.obj
  obtain ⟨G, g1, g2⟩ := restrict h' fun b => decide (b ≠ e)
  have gk : ∀ b, b ≠ e → G.get? b = h'.get? b := fun b hb => g1 b (decide_eq_true hb)
  have ge : G.get? e = none := g2 e (by simp)
  have nd : H d = none := I.hok.fresh M.dbig
  have ne : H e = none := I.hok.fresh M.new
  have old : ∀ {b : Addr} {o : Obj}, s.heap.get? b = some o → b ≠ e := fun z => Nat.ne_of_lt (Nat.lt_of_lt_of_le (Heap.lt_size z) M.new)
  have J : Inv X pins σ (upd H d (.xd fs)) { s with heap := G, toks := tk } := I.laidN (t' := tk) (fun b o z => by rw [gk b (old z)]; exact M.keep b o z) (Heap.get?_none_of_le M.dbig) nd
    ⟨mA, M.ns.at fun o y => (gk d M.dne).trans y, hr⟩
  refine ⟨e, _, _, { s with heap := G, toks := tk }, _, .ref C, some d, rfl, J, fun b o z => ?_, ge, ho, ⟨rfl, rfl⟩, rfl, rfl, ?_, rfl, I.bare, R, q d nd⟩
  · by_cases hb : b = e
    · have z' : G.get? b = some o := z
      rw [hb, ge] at z'
      cases z'
    · exact (gk b hb).symm.trans z
  · rw [upd_ne (Ne.symm M.dne)]
    exact ne
end
def tSuR (C : Addr) (fsOf : List V → Option (List (Str × V))) (ta : TA) : St → Hp → XK → Prop := fun σ H Q => ta σ H fun vs H1 => ∃ fs, fsOf vs = some fs ∧ ∀ d, H1 d = none → Q (.ref C) (some d) (upd H1 d (.xd fs))
section
variable {X : Cx} {C : Addr} {k : Nat} {fsOf : List V → Option (List (Str × V))} {x : Str} {e : Expr} {es : List Expr} {kws : List Keyword} {ta : TA} {p pos : Pos} {ks : List Str}
theorem pmk_su (S : SuK X.prog X.w X.K X.mg C [] fsOf) (hr : X.A.depth + 1 < recursionLimit) (hg : Gl X x) (hm : X.mg x = some (.ref C)) (R : Raises X (.ref C)) (ha : PA X (e :: es) ta)
    (hdb : (x == ("__debug__" : Str)) = false := by decide) (he : starEach (e :: es) X.env = (false, eval e X.env) :: starEach es X.env := by rfl) (hpl : (backTo pos (starEach es X.env)).any (·.1) = false := by rfl) :
    PMk X (.Call (.Name x p) (e :: es) [] pos) (tSuR C fsOf ta) := by
  intro pins s σ H Q I h
  refine wpAny_Call_Name_kw (ld_glob I hg hm ?_ hdb)
  refine PySem.W.callWith_K (h₀ := X.base) I.ok.mod.kin S.kC (thn (ha.run pos pins s σ H _ I h) fun us s1 ⟨vs, H1, I1, r1, fs, hf, q⟩ => ⟨I1.kIn, ?_⟩) he hpl
  obtain ⟨mA, M, hA⟩ := S.mks vs us fs r1 hf
  have M' : MkC X.prog X.w X.K X.mg C us [] mA := by simpa using M
  exact wpAny_call (M' _ _ _ I1.kIn (suMod I1 S.no) hr fun h' tk e d Md => made_mk (tk := tk) I1 Md hA R q)
theorem pmk_suK (S : SuK X.prog X.w X.K X.mg C ks fsOf) (hr : X.A.depth + 1 < recursionLimit) (hg : Gl X x) (hm : X.mg x = some (.ref C)) (R : Raises X (.ref C)) (ha : PK X kws ta) (hl : ∀ vs fs, fsOf vs = some fs → vs.length = ks.length)
    (hall : (backToKw pos (keywordEach kws X.env)).all (·.1.isSome) = true := by rfl) (hks : (backToKw pos (keywordEach kws X.env)).filterMap (·.1) = ks := by rfl) (hdb : (x == ("__debug__" : Str)) = false := by decide)
    (hpl : ((backTo pos (starEach [] X.env)).any (·.1) || (backToKw pos (keywordEach kws X.env)).any (·.1.isNone)) = false := by rfl) :
    PMk X (.Call (.Name x p) [] kws pos) (tSuR C fsOf ta) := by
  intro pins s σ H Q I h
  refine wpAny_Call_Name_kw (ld_glob I hg hm ?_ hdb)
  refine PySem.W.callWith_KW0 (h₀ := X.base) I.ok.mod.kin S.kC hall (thn (ha.run pos pins s σ H _ I h) fun us s1 ⟨vs, H1, I1, r1, fs, hf, q⟩ => ⟨I1.kIn, ?_⟩) hpl
  rw [hks]
  obtain ⟨mA, M, hA⟩ := S.mks vs us fs r1 hf
  have hlen : us.length = ks.length := r1.length.symm.trans (hl vs fs hf)
  have M' : MkC X.prog X.w X.K X.mg C [] (ks.zip us) mA := by simpa [hlen] using M
  exact wpAny_call (M' _ _ _ I1.kIn (suMod I1 S.no) hr fun h' tk e d Md => made_mk (tk := tk) I1 Md hA R q)

/-! ### a class without __init__, called without arguments -/
theorem pe_ex0 (q : excIn X.K C [.type "ValueError", .type "Exception", .type "BaseException", .type "object"] "ValueError.__new__" = true) (kC : keepIn X.K (.ref C) = true) (hg : Gl X x) (hm : X.mg x = some (.ref C))
    (hdb : (x == ("__debug__" : Str)) = false := by decide) : PE X (.Call (.Name x p) [] [] pos) (fun _ H Q => ∀ a H2, Same H H2 → H a = none → ExI H2 C a [] → Q (.ref a) H2) := by
  refine ⟨fun pins s σ H Q I h => ?_⟩
  refine wpAny_Call_Name_kw (ld_glob I hg hm ?_ hdb)
  refine PySem.W.callWith_K0 I.kIn kC ?_
  show wpAny _ _ (call (.ref C) []) _ _ _
  obtain ⟨bm, N, nm, qn, bs, hdct, sn, sub, ab, col, dd, k0, k1, k2, k3, k5, mN, hC, hN, hni, T⟩ := exc_obj I.kIn q
  refine wpAny_call_exc_subT F.excBase_ValueError T hC hN hni (fun h' a hm => ?_) (by show 0 ≤ sizeLine; omega)
  have hn : H a = none := I.hok.gone hm.new
  obtain ⟨t, ht, _, _⟩ := hm.there
  exact ⟨.ref a, upd H a (ExF _ a), I.laidN hm.keeps hm.new hn (exF_ok ht), rfl, h _ _ (fun b o e => by rw [upd_ne (ne_of_none e hn)]; exact e) hn ⟨_, _, upd_same, rfl, rfl, rfl, .inl ⟨rfl, rfl⟩⟩⟩
theorem pmk_ex0 (q : excIn X.K C [.type "ValueError", .type "Exception", .type "BaseException", .type "object"] "ValueError.__new__" = true) (kC : keepIn X.K (.ref C) = true) (hg : Gl X x) (hm : X.mg x = some (.ref C)) (R : Raises X (.ref C))
    (hdb : (x == ("__debug__" : Str)) = false := by decide) : PMk X (.Call (.Name x p) [] [] pos) (fun _ H Q => Q (.ref C) none H) := by
  intro pins s σ H Q I h
  refine wpAny_Call_Name_kw (ld_glob I hg hm ?_ hdb)
  refine PySem.W.callWith_K0 I.kIn kC ?_
  show wpAny _ _ (call (.ref C) []) _ _ _
  obtain ⟨bm, N, nm, qn, bs, hdct, sn, sub, ab, col, dd, k0, k1, k2, k3, k5, mN, hC, hN, hni, T⟩ := exc_obj I.kIn q
  refine wpAny_call_exc_subT F.excBase_ValueError T hC hN hni (fun h' a hm => ?_) (by show 0 ≤ sizeLine; omega)
  exact mk_of I hm R h (I.hok.gone hm.new)
end

/-! ### asked, read -/
/-- what a class must say so that its instances can be asked and read -/
structure EiC (K : Frag) (C : Addr) : Prop where
  ga : findIn K (.ref C) "__getattribute__" = some (some (.builtin "BaseException.__getattribute__"))
  gg : findIn K (.ref C) "__getattr__" = some none
  ex : subIn K (.ref C) (.type "BaseException") = some true
  hd : hasDictIn K C = true
  ca : findIn K (.ref C) "__class__" = some (some (.builtin "object.__class__"))
  hn : specialIn K (.builtin "object.__class__") "__get__" = some (some (.builtin "getset_descriptor.__get__"))
  ht : takesIn K (.builtin "object.__class__") = some true
  mo : mroIn K C (.type "object") = some true
  ty : typeIn K (.ref C) = some (.type "type")
/-- at a stands an exception of the class at C, whatever befell it, its attributes fs -/
structure ExJ (H : Hp) (C a : Addr) (fs : List (Str × V)) : Prop where
  ex : ∃ (oe : Obj) (vs : Array Value), H a = some (ExF oe a) ∧ oe.cls = .ref C ∧ oe.data = .fields vs ∧ ((oe.dict = none ∧ fs = []) ∨ ∃ d, oe.dict = some d ∧ H d = some (.xd fs))
theorem ExI.j {H : Hp} {C a : Addr} {fs : List (Str × V)} (x : ExI H C a fs) : ExJ H C a fs := by
  obtain ⟨oe, vs, h1, h2, h3, _, h5⟩ := x.ex
  exact ⟨oe, vs, h1, h2, h3, h5⟩
theorem ExJ.mono {H H' : Hp} {C a : Addr} {fs : List (Str × V)} (x : ExJ H C a fs) (e : ∀ b o, (∀ xs, o ≠ .lst xs) → H b = some o → H' b = some o) : ExJ H' C a fs := by
  obtain ⟨oe, vs, h1, h2, h3, h5⟩ := x.ex
  refine ⟨oe, vs, e _ _ (fun _ z => nomatch z) h1, h2, h3, ?_⟩
  rcases h5 with h5 | ⟨d, h5, h6⟩
  · exact .inl h5
  · exact .inr ⟨d, h5, e _ _ (fun _ z => nomatch z) h6⟩
theorem ExJ.same {H H' : Hp} {C a : Addr} {fs : List (Str × V)} (x : ExJ H C a fs) (e : Same H H') : ExJ H' C a fs := x.mono fun b o _ h => e b o h
/-- as the model's instance -/
theorem ExJ.inst {P : Program} {w : World} {H : Hp} {h : Heap} {C a : Addr} {fs : List (Str × V)} (x : ExJ H C a fs) (ok : HOk P w H h) : ∃ ox od, InstAt h a ox C od ∧
    ((od = none ∧ fs = []) ∨ ∃ (o : Obj) (mA : Str → Option Value), od = some o ∧ (∀ n, lookIn n o = some (mA n)) ∧ ∀ f, RelO (fs.lookup f) (mA f)) := by
  obtain ⟨oe, vs, h1, h2, h3, h5⟩ := x.ex
  have e := exF_at ok h1
  have nc : notCls oe = true := by unfold notCls; rw [h3] <;> rfl
  rcases h5 with ⟨h5, h6⟩ | ⟨d, h5, h6⟩
  · refine ⟨oe, none, ⟨e, h2, nc, ?_⟩, .inl ⟨rfl, h6⟩⟩
    rw [h5]
    trivial
  · obtain ⟨mA, hns, hr⟩ := (show ObjOk P w H h d (.xd fs) from ok d _ h6)
    obtain ⟨od, ho, hl⟩ := lookIn_ns hns
    refine ⟨oe, some od, ⟨e, h2, nc, ?_⟩, .inr ⟨od, mA, rfl, hl, hr⟩⟩
    rw [h5]
    exact ho
/-- isinstance(e, c) -/
def rIsX (K : Frag) : List V → Hp → VK → Prop := fun xs H Q => ∃ (a C : Addr) (fs : List (Str × V)) (c : V) (u : Value) (b : Bool), xs = [.ref a, c] ∧ ExJ H C a fs ∧ EiC K C ∧ ClsV c u ∧ kitOne K (.ref C) u = some b ∧ Q (.bl b) H
/-- isinstance(e, (c1, c2, ..)) -/
def rIsXT (K : Frag) : List V → Hp → VK → Prop := fun xs H Q => ∃ (a C tp : Addr) (fs : List (Str × V)) (cs : List V) (us : List Value) (b : Bool), xs = [.ref a, .ref tp] ∧ ExJ H C a fs ∧ EiC K C ∧ H tp = some (.tup cs) ∧ Paired ClsV cs us ∧ kitAny K (.ref C) us = some b ∧ Q (.bl b) H
section
variable {X : Cx}
theorem EiC.kit {K : Frag} {C a : Addr} {ox : Obj} {od : Option Obj} (T : EiC K C) : KitX K (.ref a) (.ref C) (fun h => InstAt h a ox C od) :=
  kitx_exc (by obtain ⟨cd, hc, _⟩ := any_some T.hd; rw [hc]; rfl) T.ga T.gg T.ex T.ca T.hn T.ht T.mo
theorem call_isX : CallR X (.builtin "isinstance") (rIsX X.K) := by
  intro pins s σ H xs us Q I r h
  obtain ⟨a, C, fs, c, u, b, rfl, xj, T, k, e, q⟩ := h
  obtain ⟨u1, u2, rfl, r1, r2⟩ := vals2 r
  cases (show u1 = Value.ref a from r1)
  have e2 := k.eq r2
  subst e2
  obtain ⟨ox, od, J, _⟩ := xj.inst I.hok
  exact kia_one T.kit I.kIn J e (fun z => nomatch z) fun tk => ⟨.bl b, H, I.tok tk, rfl, q⟩
theorem call_isXT : CallR X (.builtin "isinstance") (rIsXT X.K) := by
  intro pins s σ H xs us Q I r h
  obtain ⟨a, C, tp, fs, cs, ws, b, rfl, xj, T, hT, k, e, q⟩ := h
  obtain ⟨u1, u2, rfl, r1, r2⟩ := vals2 r
  cases (show u1 = Value.ref a from r1)
  cases (show u2 = Value.ref tp from r2)
  obtain ⟨ox, od, J, _⟩ := xj.inst I.hok
  obtain ⟨_, its, rv, o, h1, h2, n, h3⟩ := (show ObjOk X.prog X.w H s.heap tp (.tup cs) from I.hok tp _ hT)
  have e3 := ClsV.all k rv
  subst e3
  obtain ⟨oc, od', dt, sl⟩ := o
  simp only at h2 h3
  subst h2 h3
  exact kia_tup T.kit I.kIn J h1 e (fun z => nomatch z) fun tk => ⟨.bl b, H, I.tok tk, rfl, q⟩
/-- e.f -/
def tXj (K : Frag) (f : Str) (te : TE) : TE := fun σ H Q => te σ H fun x H1 => ∃ (a C : Addr) (fs : List (Str × V)) (v : V), x = .ref a ∧ ExJ H1 C a fs ∧ EiC K C ∧ findIn K (.ref C) f = some none ∧ fs.lookup f = some v ∧ Q v H1
theorem pe_xj {e : Expr} {te : TE} {pos : Pos} {n : Str} (he : PE X e te) (hb : attributeBase e n X.env (eval e X.env) = eval e X.env := by rfl) : PE X (.Attribute e n pos) (tXj X.K n te) := by
  refine ⟨fun pins s σ H Q I h => ?_⟩
  refine attr_of hb (thn (he.run pins s σ H _ I h) fun u s1 ⟨x, H1, I1, rx, a, C, fs, v, ex, xj, T, hno, l, q⟩ => ?_)
  subst ex
  obtain rfl : u = Value.ref a := rx
  obtain ⟨ox, od, J, hod⟩ := xj.inst I1.hok
  rcases hod with ⟨_, e2⟩ | ⟨o, mA, rfl, hl, hr⟩
  · rw [e2] at l
    cases l
  · obtain ⟨u, hu, ru⟩ := RelO.some_of (v := v) (o := mA n) (by rw [← l]; exact hr n)
    exact HandSPX.exc_get I1.kIn J T.ga T.gg T.ex (findObj_own T.hd hno rfl (by rw [hl, hu])) (handed_of ru) ⟨v, H1, I1.tok _, ru, q⟩
theorem EiC.raises {C : Addr} (T : EiC X.K C) : Raises X (.ref C) := raises_own T.ex T.ty
end

/-! ### one attribute, two attributes -/
def fs1 (n : Str) : List V → Option (List (Str × V))
  | [v] => some [(n, v)]
  | _ => none
def fs2 : List V → Option (List (Str × V))
  | [r, x] => some [("word", x), ("row", r)]
  | _ => none
def mA1 (n : Str) (u : Value) : Str → Option Value := fun y => if y = n then some u else none
def mA2 (v u : Value) : Str → Option Value := fun y => if y = "word" then some u else if y = "row" then some v else none
theorem rel1 {n : Str} {v : V} {u : Value} (r : RelV v u) (f : Str) : RelO (List.lookup f [(n, v)]) (mA1 n u f) := by
  unfold mA1
  rw [List.lookup_cons]
  by_cases e : f = n
  · subst e
    simp only [beq_self_eq_true, if_true]
    exact r
  · have q : (f == n) = false := beq_eq_false_iff_ne.mpr e
    rw [q, if_neg e]
    trivial
theorem rel2 {r x : V} {v u : Value} (rr : RelV r v) (rx : RelV x u) (f : Str) : RelO (List.lookup f [(("word" : Str), x), ("row", r)]) (mA2 v u f) := by
  unfold mA2
  rw [List.lookup_cons, List.lookup_cons]
  by_cases e : f = "word"
  · subst e
    simp only [beq_self_eq_true, if_true]
    exact rx
  · have q : (f == ("word" : Str)) = false := beq_eq_false_iff_ne.mpr e
    rw [q, if_neg e]
    by_cases e2 : f = "row"
    · subst e2
      simp only [beq_self_eq_true, if_true]
      exact rr
    · have q2 : (f == ("row" : Str)) = false := beq_eq_false_iff_ne.mpr e2
      rw [q2, if_neg e2]
      trivial
section
variable {P : Program} {w : World} {K : Frag} {mg : Str → Option Value} {C : Addr}
theorem suK1 {n : Str} (kC : keepIn K (.ref C) = true) (no : mg "super" = none) (h : ∀ u, MkC P w K mg C [u] [] (mA1 n u)) : SuK P w K mg C [] (fs1 n) := ⟨kC, no, fun vs us fs r e => by
  match vs, r, e with
  | [v], .cons r1 .nil, e =>
    cases e
    rename_i u
    exact ⟨mA1 n u, h u, rel1 r1⟩⟩
theorem suK1k {n : Str} (kC : keepIn K (.ref C) = true) (no : mg "super" = none) (h : ∀ u, MkC P w K mg C [] [(n, u)] (mA1 n u)) : SuK P w K mg C [n] (fs1 n) := ⟨kC, no, fun vs us fs r e => by
  match vs, r, e with
  | [v], .cons r1 .nil, e =>
    cases e
    rename_i u
    exact ⟨mA1 n u, h u, rel1 r1⟩⟩
theorem suK2 (kC : keepIn K (.ref C) = true) (no : mg "super" = none) (h : ∀ v u, MkC P w K mg C [v, u] [] (mA2 v u)) : SuK P w K mg C [] fs2 := ⟨kC, no, fun vs us fs r e => by
  match vs, r, e with
  | [v, x], .cons r1 (.cons r2 .nil), e =>
    cases e
    exact ⟨_, h _ _, rel2 r1 r2⟩⟩
theorem suK2k (kC : keepIn K (.ref C) = true) (no : mg "super" = none) (h : ∀ v u, MkC P w K mg C [] [("row", v), ("word", u)] (mA2 v u)) : SuK P w K mg C ["row", "word"] fs2 := ⟨kC, no, fun vs us fs r e => by
  match vs, r, e with
  | [v, x], .cons r1 (.cons r2 .nil), e =>
    cases e
    exact ⟨_, h _ _, rel2 r1 r2⟩⟩
end
end DL
set_option maxHeartbeats 4000000
/-! E5: quiet defs (no raise, no loop over an iterator's end): called anywhere, within an except suite too. -/
namespace DL
open PySem PySem.Spec PySem.W PySem.Calls L2
open PyProof.Rows hiding St wpAt wpAt_bind wpAt_stack wpAt_mono
open L2H (RoomH roomH_of)

/-- what a quiet def keeps -/
structure FnQ (P : Program) (w : World) (K : Frag) (mg : Str → Option Value) (base : Heap) (k : Nat) (f : Addr) (fd : FuncData) (ps : List Str) (sp : Sp) : Prop where
  size : ∀ vs H Q E, sp vs H Q E → vs.length = ps.length
  goes : ∀ (A : Around) (outer : List Env) (s : Shared) (H : Hp) (args : Args) (us : List Value) (vs : List V) (Q : VK) (E : XK), RoomH k A → Env0 P w K mg base A outer s H →
    BindsTo s fd args (ps.zip us) → Vals vs us → sp vs H Q E → codeAny (model P w) A (.call (.ref f) args) (CR CX0 outer P w H s Q E) s
/-- the context of such a def's body -/
def cxQ (P : Program) (w : World) (K : Frag) (mg : Str → Option Value) (base : Heap) (N : List Str) (qual : Str) (scope : Scope) (f : Addr) (cd : Value) (A : Around) (outer : List Env) (s : Shared) (H : Hp) (E : XK) : Cx :=
  { cxOf CX0 P w K mg base N qual scope f cd A outer s H E with calm := false }
section
variable {P : Program} {w : World} {K : Frag} {mg : Str → Option Value} {base : Heap}
theorem inv_startQ {N ps : List Str} {qual : Str} {scope : Scope} {f : Addr} {cd : Value} {A : Around} {outer : List Env} {s s1 : Shared} {H : Hp} {E : XK} {us : List Value} {vs : List V}
    (S : FnScope N ps scope) (e0 : Env0 P w K mg base A outer s H) (hl : vs.length = ps.length) (r : Vals vs us)
    (x : InCallC s s.heap.objs.size (bindL (envOfC qual scope s.heap.objs.size f cd).kindOf (ps.zip us) fun _ => none) (cellsFrom (s.heap.objs.size + 1) scope.names []) (bindC (envOfC qual scope s.heap.objs.size f cd).kindOf (ps.zip us) fun _ => none) s1) :
    Inv (cxQ P w K mg base N qual scope f cd A outer s H E) [] (L2.start N vs) H s1 := by
  have hpl : ps.length ≤ N.length := by have := congrArg List.length S.pre; rw [List.length_take] at this; omega
  obtain ⟨h1, tk, rfl, hk⟩ := x.done
  have noA : ∀ b : Addr, b ∉ (cxQ P w K mg base N qual scope f cd A outer s H E).ex := fun b z => absurd (show b ∈ ([] : List Addr) from z) (by simp)
  refine ⟨⟨e0.mod, S.kind, rfl, rfl, Nat.le_refl _, fun y z c h1 h2 => ?_, fun y hy => ?_, fun y c _ h => ?_, (fun z => Bool.noConfusion (show false = true from z)), Around.frames_deeper e0.frames, .inr ⟨rfl, rfl⟩, fun b z => absurd z (noA b), e0.bs, e0.bsz, fun b _ _ => noA b, fun b z => absurd z (noA b), e0.funs, e0.frf⟩,
    rfl, e0.bare, Un.kept hk, ⟨_, x.toInCall.ns, fun i y v h1 h2 h3 => ?_⟩, fun y c h => ⟨_, x.cell y c h⟩, e0.hok.fresh (Nat.le_refl _), fun y c h => ?_, fun p hp => absurd (show p ∈ ([] : List (Addr × Obj)) from hp) (by simp), e0.hok.kept hk, ?_⟩
  · exact name_of_addr x.apart (PySem.mem_of_lookup h1) (PySem.mem_of_lookup h2)
  · have hy : scope.names.lookup y = some .cell ∨ scope.names.lookup y = some .free := hy
    rcases hy with hy | hy
    · exact cell_has hy
    · exact absurd rfl (S.nofree _ (PySem.mem_of_lookup hy))
  · exact Nat.le_of_lt (x.above y c (PySem.mem_of_lookup h))
  · have hi : i < vs.length := by
      unfold L2.start at h2
      by_cases hi : i < vs.length
      · exact hi
      · rw [List.getElem?_append_right (by simpa using hi)] at h2
        rw [List.getElem?_replicate] at h2
        split at h2 <;> cases h2
    have ha : vs[i]? = some v := by
      unfold L2.start at h2
      rw [List.getElem?_append_left (by simpa using hi), List.getElem?_map] at h2
      cases e : vs[i]? with
      | none => rw [e] at h2; cases h2
      | some a => rw [e] at h2; cases h2; rfl
    obtain ⟨u, hu, rv⟩ := r.get ha
    have hp : ps[i]? = some y := by
      rw [← S.pre, List.getElem?_take_of_lt (by omega)]; exact h1
    have ndP : ps.Nodup := by rw [← S.pre]; exact S.nd.sublist (List.take_sublist _ _)
    refine ⟨u, rv, ?_⟩
    rcases S.par y (List.mem_of_getElem? hp) with k | k
    · exact .inl ⟨k, bindL_get ndP hp hu k⟩
    · obtain ⟨c, e⟩ := cell_has (n := s.heap.objs.size + 1) k
      refine .inr ⟨.inl k, c, e, ?_⟩
      have q := x.cell y c e
      rw [bindC_get ndP hp hu (by show scope.names.lookup y ≠ _; rw [k]; decide)] at q
      exact q
  · exact e0.hok.fresh (Nat.le_of_lt (x.above y c (PySem.mem_of_lookup h)))
  · unfold L2.start
    show _ = N.length
    rw [List.length_append, List.length_map, List.length_replicate]
    omega
theorem fnQ_mk {x qual : Str} {st : Stmt} {f : Addr} {fd : FuncData} {N ps : List Str} {k : Nat} {sp : Sp} (F : Fun K x qual st f fd) (S : FnScope N ps (defScope st)) (len : ∀ vs H Q E, sp vs H Q E → vs.length = ps.length)
    (body : ∀ (cdv : Value) (A : Around) (outer : List Env) (s : Shared) (H : Hp) (vs : List V) (Q : VK) (E : XK), RoomH k (A.deeper (envOfC qual (defScope st) s.heap.objs.size f cdv)) → sp vs H Q E →
      ∃ t, PSs (cxQ P w K mg base N qual (defScope st) f cdv A outer s H E).nox (defBody st) t ∧ t { nx := fun _ H' => Q .non H', rt := Q } (L2.start N vs) H) : FnQ P w K mg base (k + 1) f fd ps sp := by
  obtain ⟨oc, od, kV, doc, pm, an, cdv, ct, osl, rfl, look, code⟩ := F.ex
  refine ⟨len, fun A outer s H args us vs Q E room e0 bnd vals told => ?_⟩
  have lens := len _ _ _ _ told
  have inK : K.In s.heap := e0.mod.kin.keeps fun b o e => (e0.bs b o e).1
  have nol : s.heap.NoLimit := e0.mod.nolimit.keeps fun b o e => (e0.bs b o e).1
  have kinds : ∀ y ∈ ps.zip us, (defScope st).names.lookup y.1 = some .local ∨ ((defScope st).names.lookup y.1 = some .cell ∧ ((cellsFrom (s.heap.objs.size + 1) (defScope st).names []).lookup y.1).isSome = true) := by
    rintro ⟨n, v⟩ hy
    cases S.par n (List.of_mem_zip hy).1 with
    | inl q => exact .inl q
    | inr q => exact .inr ⟨q, PySem.W.cellsFrom_some _ _ _ (.inl q)⟩
  refine codeAny_call_function room.depth (inK _ _ look) rfl S.co S.gen rfl (PySem.W.codeRec_of inK code) ?_
  refine bnd _ _ _ _ (wpAny_newFunctionEnv_cells S.kind kinds fun env he s1 x => ?_)
  subst he
  refine ⟨nol.keeps x.toInCall.keep, codeAny_func ?_⟩
  obtain ⟨t, ht, hq⟩ := body cdv A outer s H vs Q E (room.deeper _) told
  have I : Inv (cxQ P w K mg base N qual (defScope st) f cdv A outer s H E) [] (L2.start N vs) H s1 := inv_startQ S e0 lens vals x
  refine wpAny_mono (ht.nox.run [] s1 (L2.start N vs) H _ I hq) (fun fl s' hs => ?_) fun _ _ hs => hs
  cases fl with
  | ret u =>
    obtain ⟨v, σ', H', J, rv, q⟩ := hs
    exact ⟨v, H', J.os, J.bare, J.base, J.hok, rv, q⟩
  | next =>
    obtain ⟨σ', H', J, q⟩ := hs
    exact ⟨V.non, H', J.os, J.bare, J.base, J.hok, rfl, q⟩
  | brk =>
    obtain ⟨_, _, _, q⟩ := hs
    exact q.elim
  | cont =>
    obtain ⟨_, _, _, q⟩ := hs
    exact q.elim
theorem FnQ.g {k : Nat} {f : Addr} {fd : FuncData} {ps : List Str} {sp : Sp} (F : FnQ P w K mg base k f fd ps sp) : FnG P w K mg base k f fd ps sp :=
  ⟨F.size, fun A outer s H args us vs Q E r _ e0 b v t => F.goes A outer s H args us vs Q E (roomH_of r) e0 b v t⟩
end
/-- a quiet def of the module, over any ground -/
structure ClbQ (P : Program) (w : World) (K : Frag) (mg : Str → Option Value) (k : Nat) (x : Str) (sp : Sp) : Prop where
  ex : ∃ (f : Addr) (fd : FuncData) (ps : List Str), (∀ base : Heap, K.In base → base.Ns mainGlobals mg → FnQ P w K mg base k f fd ps sp) ∧ mg x = some (.ref f) ∧ keepIn K (.ref f) = true ∧ Binds K fd ps []
theorem ClbQ.clb {P : Program} {w : World} {K : Frag} {mg : Str → Option Value} {k : Nat} {x : Str} {sp : Sp} (c : ClbQ P w K mg k x sp) {base : Heap} (X : K.In base) (N : base.Ns mainGlobals mg) : Clb P w K mg base k x sp [] := by
  obtain ⟨f, fd, ps, F, hm, kp, b⟩ := c.ex
  exact ⟨f, fd, ps, [], (F base X N).g, hm, kp, b, .nil⟩

/-! ### called within an except suite, the caught exception among what is tracked -/
/-- no object of the written part is of the class at C -/
def noInst (K : Frag) (C : Addr) : Bool := K.all fun p => p.2.cls != .ref C
theorem noInst_lookup {K : Frag} {C a : Addr} {o : Obj} (h : noInst K C = true) (e : K.lookup a = some o) : o.cls ≠ .ref C := by
  have m : ∀ l : List (Addr × Obj), List.lookup a l = some o → (a, o) ∈ l := by
    intro l
    induction l with
    | nil => intro z; cases z
    | cons p r ih =>
      intro z
      rw [List.lookup_cons] at z
      cases q : a == p.1 with
      | true =>
        rw [q] at z
        cases z
        have y : a = p.1 := beq_iff_eq.mp q
        rw [y]
        exact List.mem_cons_self
      | false =>
        rw [q] at z
        exact List.mem_cons_of_mem _ (ih z)
  have q := List.all_eq_true.mp h _ (m _ e)
  simpa using q
/-- the reading -/
def tHot (K : Frag) (a : Addr) (cls : Value) (d : Option Addr) (sp : Sp) (t : TA) : TE := fun σ H Q => t σ H fun vs H1 => (∃ C, cls = .ref C ∧ noInst K C = true) ∧
  ∀ oe : Obj, Zc cls d oe → (∃ ws, oe.data = .fields ws) → sp vs (upd H1 a (ExF oe a)) (fun v H2 => H2 a = some (ExF oe a) ∧ Q v (delH H2 a)) E0
section
variable {X : Cx} {k : Nat} {x : Str} {sp : Sp} {p pos : Pos} {e : Expr} {es : List Expr} {t : TA} {a : Addr} {oe : Obj} {cls : Value} {d : Option Addr} {K : Frag}
theorem pe_hot (hK : X.K = K) (c : ClbQ X.prog X.w X.K X.mg k x sp) (hr : RoomH k X.A) (hp : (a, oe) ∈ X.pn) (hz : Zc cls d oe) (hf : ∃ vs, oe.data = .fields vs) (hg : Gl X x) (ha : PA X (e :: es) t)
    (hdb : (x == ("__debug__" : Str)) = false := by decide) (he : starEach (e :: es) X.env = (false, eval e X.env) :: starEach es X.env := by rfl) (hpl : (backTo pos (starEach es X.env)).any (·.1) = false := by rfl) :
    PE X (.Call (.Name x p) (e :: es) [] pos) (tHot K a cls d sp t) := by
  subst hK
  obtain ⟨f, fd, ps, F, hm, kp, bnd⟩ := c.ex
  refine ⟨fun pins s σ H Q I h => ?_⟩
  refine wpAny_Call_Name_kw (ld_glob I hg hm ?_ hdb)
  refine PySem.W.callWith_K (h₀ := X.base) I.ok.mod.kin kp (thn (ha.run pos pins s σ H _ I h) fun us s1 ⟨vs, H1, I1, r1, ⟨C, hC, hno⟩, q0⟩ => ⟨I1.kIn, ?_⟩) he hpl
  show wpAny _ _ (call (.ref f) us) _ _ _
  have hc : oe.cls = .ref C := hz.1.trans hC
  have q := q0 oe hz hf
  obtain ⟨P1, P2, P3, P4, P5⟩ := I1.pin (a, oe) (List.mem_append_left _ hp)
  obtain ⟨vo, hvo⟩ := hf
  -- the ground without a
  have na : ∀ {b : Addr} {o : Obj}, X.base.get? b = some o → (∀ w, o.data ≠ .fields w) → b ≠ a := fun z d y => by
    have q := (I1.bs _ _ z).1
    rw [y] at q
    have P1' : s1.heap.get? a = some oe := P1
    rw [P1'] at q
    cases q
    exact d _ hvo
  have hide : ∀ {b : Addr} {o : Obj}, X.base.get? b = some o → b ≠ a → (hideAll X.base [a]).get? b = some o := fun z y => hideAll_get _ z (by simpa using y)
  have inB : X.K.In (hideAll X.base [a]) := fun b o z => hide (I1.ok.mod.kin b o z) fun y => by
    have q := I1.kIn b o z
    have P1' : s1.heap.get? a = some oe := P1
    rw [y, P1'] at q
    cases q
    exact noInst_lookup hno z hc
  have space : ∀ {b : Addr} {m : Str → Option Value}, X.base.Ns b m → (hideAll X.base [a]).Ns b m := fun ⟨o, es, ep, z, d, r⟩ => ⟨o, es, ep, hide z (na z fun w y => by rw [d] at y; cases y), d, r⟩
  obtain ⟨mb, b1, b2⟩ := I1.ok.mod.blt
  obtain ⟨mc, c1, c2⟩ := id I1.ok.mod.nolimit
  have e1 := I1.env0
  have env' : Env0 X.prog X.w X.K X.mg (hideAll X.base [a]) X.A X.stack s1 (upd H1 a (ExF oe a)) := {
    frames := e1.frames
    mod := ⟨inB, space I1.ok.mod.glob, ⟨mb, space b1, b2⟩, ⟨mc, space c1, c2⟩⟩
    bs := fun b o z => by
      have z' := of_hideAll [a] z
      have nb : b ≠ a := fun y => by
        have q : (hideAll X.base [a]).get? a = none := hideAll_none [a] (by simp)
        rw [y, q] at z
        cases z
      have q := e1.bs b o z'
      exact ⟨q.1, by rw [upd_ne nb]; exact q.2⟩
    bsz := by rw [hideAll_size]; exact e1.bsz
    funs := funFrames_none e1.funs fun L hL => by
      cases q : (hideAll X.base [a]).get? L with
      | none => rfl
      | some o =>
        have z := of_hideAll [a] q
        obtain ⟨n, _⟩ := e1.funs.mem hL
        rw [n] at z
        cases z
    frf := fun b hb => by
      have nb : b ≠ a := fun y => by
        rw [y] at hb
        exact (List.mem_cons.mp (I1.stkSub a hb)).elim P3 P4
      rw [upd_ne nb]
      exact e1.frf b hb
    hok := fun b v z => by
      by_cases hb : b = a
      · subst hb
        rw [upd_same] at z
        cases z
        exact exF_ok P1
      · rw [upd_ne hb] at z
        exact (I1.hok b v z).stay (fun c v _ q => q) (fun c q => by rw [upd_ne (ne_of_none q P2)]; exact q) fun c xs q => by rw [upd_ne (ne_of_none q P2)]; exact q
    bare := e1.bare }
  have lens : us.length = ps.length := r1.length.symm.trans ((F _ inB (space I1.ok.mod.glob)).size _ _ _ _ q)
  have bn := bnd s1 us I1.kIn (by rw [List.append_nil]; exact lens)
  rw [List.append_nil] at bn
  refine wpAny_call (codeAny_mono ((F _ inB (space I1.ok.mod.glob)).goes X.A X.stack s1 _ ⟨us, []⟩ us vs _ E0 hr env' bn r1 q) fun res s' hq => ?_)
  match res, hq with
  | .error e, hq => exact hq.elim
  | .ok (.ret u), ⟨v, H2, os, bare, un, hok, rv, h2a, q2⟩ =>
    have at' : s'.heap.get? a = some oe := exF_at hok h2a
    refine I1.after ⟨v, delH H2 a, os, bare, ⟨fun b o z n hf hx => ?_, fun b o z n hf hx => ?_, fun b o z n hx => ?_, un.there, fun b xs z => ?_, fun b o u z => ?_, fun b ps z => ?_⟩, fun b v z => ?_, rv, q2⟩
    · by_cases hb : b = a
      · subst hb
        have P1' : s1.heap.get? b = some oe := P1
        rw [P1'] at z
        cases z
        exact at'
      · exact un.keep b o z (by rw [upd_ne hb]; exact n) hf hx
    · have hb : b ≠ a := fun y => by
        rw [y] at hf
        exact (List.mem_cons.mp (I1.stkSub a hf)).elim P3 P4
      exact un.slot b o z (by rw [upd_ne hb]; exact n) hf hx
    · by_cases hb : b = a
      · rw [hb]
        exact delH_same
      · rw [delH_ne hb]
        exact un.free b o z (by rw [upd_ne hb]; exact n) hx
    · have hb : b ≠ a := ne_of_none z P2
      rw [delH_ne hb]
      exact un.tups b xs (by rw [upd_ne hb]; exact z)
    · have hb : b ≠ a := ne_of_none z P2
      rw [delH_ne hb]
      exact un.frzs b o u (by rw [upd_ne hb]; exact z)
    · have hb : b ≠ a := ne_of_none z P2
      rw [delH_ne hb]
      exact un.tbls b ps (by rw [upd_ne hb]; exact z)
    · by_cases hb : b = a
      · rw [hb, delH_same] at z
        cases z
      · rw [delH_ne hb] at z
        exact (hok b v z).stay (fun c v _ q => q) (fun c q => by
            rw [delH_ne (fun y => by rw [y, h2a] at q; cases q)]
            exact q) fun c xs q => by
            rw [delH_ne (fun y => by rw [y, h2a] at q; cases q)]
            exact q
end
end DL
set_option maxHeartbeats 4000000
/-! E6: repr of data that is tracked (None, bools, ints, texts, lists, tuples, the empty dict). -/
namespace DL
open PySem PySem.Spec PySem.W PySem.Calls L2
open PyProof.Rows hiding St wpAt wpAt_bind wpAt_stack wpAt_mono

mutual
/-- what a value is, by what is tracked -/
inductive Rz (F : Hp) : V → PyData → Prop
  | non : Rz F .non .none
  | bl (b : Bool) : Rz F (.bl b) (.bool b)
  | int (i : Int) : Rz F (.int i) (.int i)
  | str (x : Str) : Rz F (.str x) (.str x)
  | lst {a : Addr} {vs : List V} {ds : List PyData} : F a = some (.lst vs) → a ≠ sysModules → RzAll F vs ds → Rz F (.ref a) (.list ds)
  | tup {a : Addr} {vs : List V} {ds : List PyData} : F a = some (.tup vs) → RzAll F vs ds → Rz F (.ref a) (.tuple ds)
  | emp {a : Addr} : F a = some (.dK []) → Rz F (.ref a) (.dict [])
inductive RzAll (F : Hp) : List V → List PyData → Prop
  | nil : RzAll F [] []
  | cons {v : V} {vs : List V} {d : PyData} {ds : List PyData} : Rz F v d → RzAll F vs ds → RzAll F (v :: vs) (d :: ds)
end
mutual
theorem Rz.mono {F F' : Hp} (e : Same F F') : ∀ {v : V} {d : PyData}, Rz F v d → Rz F' v d
  | _, _, .non => .non
  | _, _, .bl b => .bl b
  | _, _, .int i => .int i
  | _, _, .str x => .str x
  | _, _, .lst h n r => .lst (e _ _ h) n (RzAll.mono e r)
  | _, _, .tup h r => .tup (e _ _ h) (RzAll.mono e r)
  | _, _, .emp h => .emp (e _ _ h)
theorem RzAll.mono {F F' : Hp} (e : Same F F') : ∀ {vs : List V} {ds : List PyData}, RzAll F vs ds → RzAll F' vs ds
  | _, _, .nil => .nil
  | _, _, .cons h r => .cons (Rz.mono e h) (RzAll.mono e r)
end
mutual
theorem Rz.reads {P : Program} {w : World} {F : Hp} {h : Heap} (ok : HOk P w F h) : ∀ {v : V} {u : Value} {d : PyData}, Rz F v d → RelV v u → ∃ as, Reads h u d as ∧ sysModules ∉ as
  | _, _, _, .non, r => by
    cases (show _ = Value.none from r)
    exact ⟨[], .none, by simp⟩
  | _, _, _, .bl b, r => by
    cases (show _ = Value.bool b from r)
    exact ⟨[], .bool b, by simp⟩
  | _, _, _, .int i, r => by
    obtain ⟨t, rfl⟩ := (show ∃ t, _ = Value.int i t from r)
    exact ⟨[], .int i t, by simp⟩
  | _, _, _, .str x, r => by
    obtain ⟨t, rfl⟩ := (show ∃ t, _ = Value.str x t from r)
    exact ⟨[], .str x t, by simp⟩
  | _, _, _, .lst (a := a) e n rs, r => by
    cases (show _ = Value.ref a from r)
    obtain ⟨_, its, n2, rv, h1⟩ := ok a _ e
    obtain ⟨as, q1, q2⟩ := RzAll.reads ok rs rv
    exact ⟨a :: as, .list h1 rfl rfl q1, by simp only [List.mem_cons, not_or]; exact ⟨Ne.symm n, q2⟩⟩
  | _, _, _, .tup (a := a) e rs, r => by
    cases (show _ = Value.ref a from r)
    obtain ⟨_, its, rv, o, h1, h2, n2, h3⟩ := ok a _ e
    obtain ⟨as, q1, q2⟩ := RzAll.reads ok rs rv
    exact ⟨as, .tuple h1 h2 h3 q1, q2⟩
  | _, _, _, .emp (a := a) e, r => by
    cases (show _ = Value.ref a from r)
    obtain ⟨_, hs, vs, rk, o, es, ep, h1, h2, h3, h4, h5, _⟩ := ok a _ e
    cases rk
    have es0 : es.toList = [] := by
      generalize es.toList = l at h5
      cases h5
      rfl
    refine ⟨a :: [] ++ [], .dict (kvs := []) h1 h2.1 h3 (by rw [es0]; exact .nil) (by rw [es0]; exact .nil), ?_⟩
    have z : a ≠ sysModules := by simpa using hs
    simpa using Ne.symm z
theorem RzAll.reads {P : Program} {w : World} {F : Hp} {h : Heap} (ok : HOk P w F h) : ∀ {vs : List V} {us : List Value} {ds : List PyData}, RzAll F vs ds → Vals vs us → ∃ as, ReadsAll h us ds as ∧ sysModules ∉ as
  | _, _, _, .nil, r => by
    cases r
    exact ⟨[], .nil, by simp⟩
  | _, _, _, .cons q rs, r => by
    cases r with
    | cons r1 r2 =>
      obtain ⟨as, q1, q2⟩ := Rz.reads ok q r1
      obtain ⟨bs, q3, q4⟩ := RzAll.reads ok rs r2
      exact ⟨as ++ bs, .cons q1 q3, by simp only [List.mem_append, not_or]; exact ⟨q2, q4⟩⟩
end
/-- repr(x) -/
def rRepr : List V → Hp → VK → Prop := fun xs H Q => ∃ (v : V) (d : PyData), xs = [v] ∧ Rz H v d ∧ d.showable = true ∧ d.shown.length ≤ sizeLine ∧ d.depth ≤ 100 ∧ Q (.str d.shown) H
theorem call_reprZ {X : Cx} (gd : X.A.guards = some []) (hu : X.A.units + 200 < cLine) : CallR X (.builtin "repr") rRepr := by
  intro pins s σ H xs us Q I r h
  obtain ⟨v, d, rfl, rz, hs, hz, hd, q⟩ := h
  obtain ⟨u, rfl, ru⟩ := vals1 r
  have fin : ∀ (h' : Heap) (tk t : Nat), (∀ b o, s.heap.get? b = some o → h'.get? b = some o) → EP X pins σ Q (.str d.shown t) { s with heap := h', toks := tk } := fun h' tk t k => ⟨.str d.shown, H, I.kept (t' := tk) k, ⟨t, rfl⟩, q⟩
  have deep : ∀ a : Addr, u = .ref a → wpAny (model X.prog X.w) X.A (call (.builtin "repr") [u]) (EP X pins σ Q) X.xe s := fun a e => by
    obtain ⟨as, rd, ns⟩ := rz.reads I.hok ru
    subst e
    exact repr_of_reads' rd hs (fun _ => ns) gd (by omega) (fun b o z => z) (fun h' t tk k => fin h' tk t k) hz
  cases rz with
  | non =>
    cases (show u = Value.none from ru)
    exact PySem.P.repr_of_none (fin _ _ _ fun _ _ z => z)
  | bl b =>
    cases (show u = Value.bool b from ru)
    exact PySem.P.repr_of_bool (fin _ _ _ fun _ _ z => z)
  | int i =>
    obtain ⟨t, rfl⟩ := (show ∃ t, u = Value.int i t from ru)
    exact PySem.P.repr_of_int (by simpa [PyData.showable] using hs) (fin _ _ _ fun _ _ z => z)
  | str x =>
    obtain ⟨t, rfl⟩ := (show ∃ t, u = Value.str x t from ru)
    exact PySem.P.repr_of_str (fin _ _ _ fun _ _ z => z) (by simpa [PyData.shown] using hz)
  | lst e n rs => exact deep _ ru
  | tup e rs => exact deep _ ru
  | emp e => exact deep _ ru
/-- a list display, its place known not to be sys.modules' -/
def tLstB (t : TA) : TE := fun σ H Q => t σ H fun xs H1 => xs.length ≤ sizeLine ∧ ∀ p, H1 p = none → p ≠ sysModules → Q (.ref p) (upd H1 p (.lst xs))
theorem pe_lstB {X : Cx} {es : List Expr} {t : TA} {pos : Pos} (h : PA X es t) : PE X (.List es pos) (tLstB t) := by
  refine ⟨fun pins s σ H Q I hq => ?_⟩
  refine wpAny_List_spliced (thn (h.run pos pins s σ H _ I hq) fun us s1 ⟨xs, H1, I1, r, z, q⟩ => ⟨by rw [← r.length]; exact z, ?_⟩)
  have hf : H1 s1.heap.objs.size = none := I1.hok.fresh (Nat.le_refl _)
  refine ⟨.ref s1.heap.objs.size, upd H1 s1.heap.objs.size (.lst xs), I1.laid (t' := s1.toks) (fun b u e => Heap.get?_push_of_some _ e) (Nat.le_refl _) ?_, rfl, q _ hf (Nat.ne_of_gt I1.big)⟩
  exact ⟨z, us, 0, r, Heap.get?_push_size _ rfl⟩
end DL
set_option maxHeartbeats 4000000
/-! M1: calls of quiet defs by name; == and != by an own __eq__ with both answers; the truth of an instance; what is kept while lists and instances change. -/
namespace DL
open PySem PySem.Spec PySem.W PySem.Calls L2
open PyProof.Rows hiding St wpAt wpAt_bind wpAt_stack wpAt_mono

/-- a def of the module, ready to be called by its name; CX: how it may be left by an exception -/
structure ClO (P : Program) (w : World) (K : Frag) (mg : Str → Option Value) (base : Heap) (CX : CXT) (k : Nat) (x : Str) (sp : Sp) (dvs : List V) : Prop where
  ex : ∃ (f : Addr) (fd : FuncData) (ps : List Str) (ds : List Value), FnOk P w K mg base CX k f fd ps sp ∧ mg x = some (.ref f) ∧ keepIn K (.ref f) = true ∧ L2.Binds K fd ps ds ∧ Vals dvs ds
section
variable {X : Cx} {CX : CXT} {k j : Nat} {sp : Sp} {dvs : List V} {x : Str} {p pos : Pos} {e : Expr} {es : List Expr} {t : TA} {E : XK}
theorem pe_clo (c : ClO X.prog X.w X.K X.mg X.base CX0 k x sp dvs) (hr : Room j X.A) (hk : k ≤ j) (hg : Gl X x)
    (ha : PA X (e :: es) t) (hdb : (x == ("__debug__" : Str)) = false := by decide) (he : starEach (e :: es) X.env = (false, eval e X.env) :: starEach es X.env := by rfl) (hpl : (backTo pos (starEach es X.env)).any (·.1) = false := by rfl) :
    PE X (.Call (.Name x p) (e :: es) [] pos) (tCall sp dvs E0 t) := by
  obtain ⟨f, fd, ps, ds, F, hm, kp, b, d⟩ := c.ex
  exact pe_call F (hr.mono hk) hg hm kp b d pass0 ha hdb he hpl
/-- .. a def that may raise: hx, where its exceptions go -/
theorem pe_clx (c : ClO X.prog X.w X.K X.mg X.base CX k x sp dvs) (hr : Room j X.A) (hk : k ≤ j) (hg : Gl X x) (hx : Passes CX X E)
    (ha : PA X (e :: es) t) (hdb : (x == ("__debug__" : Str)) = false := by decide) (he : starEach (e :: es) X.env = (false, eval e X.env) :: starEach es X.env := by rfl) (hpl : (backTo pos (starEach es X.env)).any (·.1) = false := by rfl) :
    PE X (.Call (.Name x p) (e :: es) [] pos) (tCall sp dvs E t) := by
  obtain ⟨f, fd, ps, ds, F, hm, kp, b, d⟩ := c.ex
  exact pe_call F (hr.mono hk) hg hm kp b d hx ha hdb he hpl
end

/-! ### == and != of an instance with its own __eq__ -/
section
variable {M : Model} {prog : Program} {w : World} {A : Around} {E : Value → Shared → Prop} {s : Shared} {K : Frag} {x C : Addr} {ox : Obj} {od : Option Obj}
theorem bound_ne {args : List Value} {Q : Option Value → Shared → Prop} (kx : K.In s.heap) (inst : InstAt s.heap x ox C od) (ne : findIn K (.ref C) "__ne__" = some (some (.builtin "object.__ne__")))
    (h : wpAny M A (call (.builtin "object.__ne__") (.ref x :: args)) (fun v => Q (some v)) E s) : wpAny M A (callSpecialIfBound? (.ref x) "__ne__" args) Q E s := by
  have last : wpAny M A (call (.builtin "object.__ne__") ([.ref x] ++ args) >>= fun v => pure (some v)) Q E s := wpAny_bind (wpAny_mono h (fun v s' q => wpAny_pure q) fun _ _ q => q)
  unfold callSpecialIfBound? bindSpecialIfBound?
  refine wpAny_holding (wpAny_bind (wpAny_bind (wpAny_bind (inst.type.here ((looks_findIn kx ne).here (wpAny_bind (wpAny_askSetting (wpAny_ite ?_))))))))
  split
  · exact wpAny_bind (wpAny_of_eq (F.cmp_object.ne.bind _) (wpAny_pure last))
  · exact wpAny_tryCatch (wpAny_bind (wpAny_of_eq (F.cmp_object.ne.bind _) (wpAny_pure last)))
/-- object.__ne__ turns the answer of the own __eq__ round -/
theorem entry_neOwn {f : Addr} {b : Value} {Q : Value → Shared → Prop} (hu : A.units + 1 < cLine) (kx : K.In s.heap) (inst : InstAt s.heap x ox C od) (hs : findIn K (.ref C) "__eq__" = some (some (.ref f))) (hf : isFn K (.ref f) = true)
    (hm : mroIn K C (.type "object") = some true) (h : wpAny (model prog w) A.in1 (call (.ref f) [.ref x, b]) (fun v s' => ∃ r, v = .bool r ∧ Q (.bool (!r)) s') E s) :
    wpAny (model prog w) A (call (.builtin "object.__ne__") [.ref x, b]) Q E s := by
  refine wpAny_call (codeAny_call_builtin F.cmp_object.ne.plain F.cmpEntry_ne (check_slot F.cmpKind_ne F.cmpSplit_ne (inst.type.andThen (looks_mroIn kx hm)) (F.cmpArgs_ne _ _) ?_))
  have hu1 : A.in1.units < cLine := hu
  unfold Builtin.«object.__ne__»
  refine wpAny_bind (wpAny_pure ?_)
  refine wpAny_bind (wpAny_cRoomFor hu1 (wpAny_bind (m := callSpecialIfBound? (.ref x) "__eq__" [b]) (ifBound_K kx inst hs hf (wpAny_mono h (fun v s' q => ?_) fun _ _ q => q))))
  obtain ⟨r, rfl, q⟩ := q
  exact wpAny_bind (wpAny_truthy_bool (wpAny_pure q))
end
/-- what == and != ask of the class at C: its __eq__ stands at g, its __ne__ is object's -/
structure EqC (K : Frag) (C g : Addr) : Prop where
  eq : findIn K (.ref C) "__eq__" = some (some (.ref g))
  fn : isFn K (.ref g) = true
  ne : findIn K (.ref C) "__ne__" = some (some (.builtin "object.__ne__"))
  ob : mroIn K C (.type "object") = some true
/-- x == y (neg: x != y), x an instance of the class at C -/
def rOwnV (K : Frag) (C : Addr) (sp : Sp) (neg : Bool) : R2 := fun x y H Q => ∃ (a dx : Addr) (fs : List (Str × V)) (t : Value), x = .ref a ∧ H a = some (.ins C dx fs) ∧ TyX K H y t ∧ notFirst K C t = true ∧ sp [x, y] H (fun v H' => ∃ b : Bool, v = .bl b ∧ Q (.bl (if neg then !b else b)) H') E0
section
variable {X : Cx} {C g : Addr} {fd : FuncData} {ps : List Str} {n : Nat} {sp : Sp}
theorem run_eqC {A : Around} {pins : List (Addr × Obj)} {σ : St} {H : Hp} {s : Shared} {x y : V} {u v : Value} {Q : VK} (F : FnOk X.prog X.w X.K X.mg X.base CX0 n g fd ps sp) (hb : L2.Binds X.K fd ps []) (hr : Room n A) (e0 : Env0 X.prog X.w X.K X.mg X.base A X.stack s H)
    (I : Inv X pins σ H s) (rx : RelV x u) (ry : RelV y v) (h : sp [x, y] H Q E0) {E : Value → Shared → Prop} : wpAny (model X.prog X.w) A (call (.ref g) [u, v]) (EP X pins σ Q) E s := by
  have len : [u, v].length = ps.length := by rw [show [u, v].length = [x, y].length from rfl]; exact F.len _ _ _ _ h
  have b2 : BindsTo s fd ⟨[u, v], []⟩ (ps.zip [u, v]) := by
    have z := hb s [u, v] I.kIn (by rw [List.append_nil]; exact len)
    rw [List.append_nil] at z
    exact z
  refine wpAny_call (codeAny_mono (F.run A X.stack s H ⟨[u, v], []⟩ [u, v] [x, y] Q E0 hr e0 b2 (.cons rx (.cons ry .nil)) h) fun r s' q => ?_)
  match r, q with
  | .error e, q => exact q.elim
  | .ok (.ret w), q => exact I.after q
theorem op_ownEq (T : EqC X.K C g) (F : FnOk X.prog X.w X.K X.mg X.base CX0 n g fd ps sp) (hb : L2.Binds X.K fd ps []) (hr : Room n X.A) : OpR X (compareOp .Eq) (rOwnV X.K C sp false) := by
  intro pins s σ H x y u v Q I rx ry h
  obtain ⟨a, dx, fs, t, rfl, ha, ty, nf, q⟩ := h
  cases (show u = Value.ref a from rx)
  obtain ⟨mA, J, _⟩ := ins_get I.hok ha
  obtain ⟨od, J, _⟩ := J.look
  obtain ⟨m, fr⟩ := I.fr
  obtain ⟨P, Z, pz, _⟩ := kit_of I ry ty
  show wpAny (model X.prog X.w) X.A (richCompare .Eq (.ref a) v) (EP X pins σ Q) X.xe s
  refine cmp_K (op := .Eq) (tb := t) hr.units0 fr I.ok.mod.kin J (Z.ty _ _ I.kIn pz) nf T.eq T.fn (wpAny_mono (run_eqC (E := X.xe) F hb hr I.env0 I (x := .ref a) rfl ry q) (fun w s' z => ?_) fun _ _ z => z)
  obtain ⟨z, H', I', rz, b, rfl, q'⟩ := z
  cases (show w = Value.bool b from rz)
  exact ⟨.bl b, H', I', rfl, q'⟩
theorem op_ownNe (T : EqC X.K C g) (F : FnOk X.prog X.w X.K X.mg X.base CX0 n g fd ps sp) (hb : L2.Binds X.K fd ps []) (hr : Room (n + 1) X.A) : OpR X (compareOp .NotEq) (rOwnV X.K C sp true) := by
  intro pins s σ H x y u v Q I rx ry h
  obtain ⟨a, dx, fs, t, rfl, ha, ty, nf, q⟩ := h
  cases (show u = Value.ref a from rx)
  obtain ⟨mA, J, _⟩ := ins_get I.hok ha
  obtain ⟨od, J, _⟩ := J.look
  obtain ⟨P, Z, pz, _⟩ := kit_of I ry ty
  have hu1 : X.A.units + 1 < cLine := (Room.in1 hr).units0
  have one : wpAny (model X.prog X.w) X.A (tryCompare (.ref a) "__ne__" v) (fun r s' => ∃ w, r = some w ∧ EP X pins σ Q w s') X.xe s := by
    unfold tryCompare
    refine wpAny_bind (bound_ne I.kIn J T.ne (entry_neOwn hu1 I.kIn J T.eq T.fn T.ob (wpAny_mono (run_eqC (E := X.xe) F hb (Room.in1 hr) I.env0.in1 I (x := .ref a) rfl ry q) (fun w s' z => ?_) fun _ _ z => z)))
    obtain ⟨z, H', I', rz, b, rfl, q'⟩ := z
    cases (show w = Value.bool b from rz)
    exact ⟨b, rfl, wpAny_pure ⟨_, rfl, .bl (!b), H', I', rfl, q'⟩⟩
  show wpAny (model X.prog X.w) X.A (richCompare .NotEq (.ref a) v) (EP X pins σ Q) X.xe s
  unfold richCompare
  simp only [oneThing_ref]
  refine wpAny_holding (wpAny_bind (wpAny_cRoomFor hr.units0 (wpAny_bind (J.type.here (wpAny_bind ((Z.ty _ _ I.kIn pz).here ?_))))))
  split
  · rename_i q
    have no : subIn X.K t (.ref C) = some false := by
      rcases Bool.or_eq_true_iff.mp nf with e | e
      · rw [beq_iff_eq.mp e] at q
        simp at q
      · exact beq_iff_eq.mp e
    refine wpAny_bind ((looks_subIn I.kIn no).here ?_)
    simp only [Bool.false_eq_true, if_false]
    refine wpAny_bind (wpAny_mono one (fun r s' z => ?_) fun _ _ z => z)
    obtain ⟨w, rfl, z⟩ := z
    exact wpAny_pure z
  · refine wpAny_bind (wpAny_pure ?_)
    simp only [Bool.false_eq_true, if_false]
    refine wpAny_bind (wpAny_mono one (fun r s' z => ?_) fun _ _ z => z)
    obtain ⟨w, rfl, z⟩ := z
    exact wpAny_pure z
/-- the truth of an instance without __bool__ and __len__ -/
def rTruI (K : Frag) : V → Hp → (Bool → Hp → Prop) → Prop := fun x H Q => ∃ (a C dx : Addr) (fs : List (Str × V)), x = .ref a ∧ H a = some (.ins C dx fs) ∧ findIn K (.ref C) "__bool__" = some none ∧ findIn K (.ref C) "__len__" = some none ∧ Q true H
theorem tru_ins : TruR X (rTruI X.K) := by
  intro pins s σ H x v Q I rx h
  obtain ⟨a, C, dx, fs, rfl, ha, n1, n2, q⟩ := h
  cases (show v = Value.ref a from rx)
  obtain ⟨mA, J, _⟩ := ins_get I.hok ha
  obtain ⟨od, J, _⟩ := J.look
  have nb : ∀ {R : Option Value → Shared → Prop}, R none s → wpAny (model X.prog X.w) X.A (callSpecial? (.ref a) "__bool__") R X.xe s := fun {R} q => by
    unfold callSpecial? specialOf
    exact wpAny_bind (wpAny_bind (J.type.here ((looks_findIn I.kIn n1).here (wpAny_pure q))))
  have nl : ∀ {R : Option Value → Shared → Prop}, R none s → wpAny (model X.prog X.w) X.A (specialOf (.ref a) "__len__") R X.xe s := fun {R} q => by
    unfold specialOf
    exact wpAny_bind (J.type.here ((looks_findIn I.kIn n2).here q))
  unfold truthy
  refine wpAny_bind (nb ?_)
  exact wpAny_bind (m := specialOf (.ref a) "__len__") (nl (wpAny_pure ⟨H, I, q⟩))
end
end DL
set_option maxHeartbeats 4000000
/-! M2: enumerate over a tuple. -/
namespace DL
open PySem PySem.Spec L2
open PyProof.Rows hiding St wpAt wpAt_bind wpAt_stack wpAt_mono
open AutoSeq1 (wpAny_loadPart')
/-- enumerate over the tuple at l: its iterator is new, and it -/
theorem new_enumT (l : Addr) (items : Array Value) (n : Nat) (dct : Option Addr) (sl : Array (Option Value)) :
    Meets (Builtin.«enumerate.__new__» ⟨[.type "enumerate", .ref l], []⟩) (fun _ R s => s.heap.get? l = some { cls := .type "tuple", dict := dct, data := .seq items n, slots := sl } ∧
      R (.ok (.ret (.ref (s.heap.push { cls := .type "tuple_iterator", data := .fields #[.ref l, .int 0 0] }).objs.size)))
        { s with heap := (s.heap.push { cls := .type "tuple_iterator", data := .fields #[.ref l, .int 0 0] }).push { cls := .type "enumerate", data := .fields #[.none, .bool false, .ref s.heap.objs.size, rawInt 0, .none, .none] } }) :=
  .of_wp fun prog w A R s h => by
    obtain ⟨hp, g, d, tk, os⟩ := s
    obtain ⟨hl, h⟩ := h
    have subE := sub_enumerate
    have tupl : Heap.IsTuple (Shared.heap ⟨hp, g, d, tk, os⟩) l items := ⟨_, hl, rfl, n, rfl⟩
    wp_walk using wpAny_loadPart' hl
    refine wpAny_stack_any fun st => wpAny_pure ?_
    split
    · rename_i c _ _ _ _ _
      cases (c == Value.type "enumerate") <;> (wp_walk using wpAny_loadPart' hl, wpAny_pyIter_tuple tupl; exact ⟨_, rfl, h⟩)
    · wp_walk using wpAny_loadPart' hl, wpAny_pyIter_tuple tupl
      exact ⟨_, rfl, h⟩
section
variable {prog : Program} {w : World} {A : Around} {E : Value → Shared → Prop} {s : Shared}
theorem call_enumT {l : Addr} {items : Array Value} {Q : Value → Shared → Prop} (tupl : s.heap.IsTuple l items)
    (h : ∀ h', IsEnum h' (s.heap.objs.size + 1) s.heap.objs.size 0 .none → h'.IsTupleIter s.heap.objs.size l 0 → h'.objs.size = s.heap.objs.size + 2 →
      (∀ b o, s.heap.get? b = some o → h'.get? b = some o) → Q (.ref (s.heap.objs.size + 1)) { s with heap := h' }) :
    wpAny (model prog w) A (call (.type "enumerate") [.ref l]) Q E s := by
  obtain ⟨⟨c, dct, dt, sl⟩, hl, rfl, n, rfl⟩ := tupl
  refine callType_new F.called_enumerate (by decide) (F.typeCall_enumerate_1 _) (F.newCall_enumerate_1 _) (fun obj => F.args_object_init_2 obj _) F.entry_enumerate_new (new_enumT l items n dct sl) ⟨hl, ?_⟩
  have sz : (s.heap.push { cls := .type "tuple_iterator", data := .fields #[.ref l, .int 0 0] }).objs.size = s.heap.objs.size + 1 := Heap.size_push ..
  show _ ∧ _
  rw [sz]
  have en : IsEnum ((s.heap.push { cls := .type "tuple_iterator", data := .fields #[.ref l, .int 0 0] }).push { cls := .type "enumerate", data := .fields #[.none, .bool false, .ref s.heap.objs.size, rawInt 0, .none, .none] }) (s.heap.objs.size + 1) s.heap.objs.size 0 .none := by
    have z := Heap.get?_push_size (s.heap.push { cls := .type "tuple_iterator", data := .fields #[.ref l, .int 0 0] }) (o := { cls := .type "enumerate", data := .fields #[.none, .bool false, .ref s.heap.objs.size, rawInt 0, .none, .none] }) rfl
    rw [sz] at z
    exact z
  exact ⟨⟨_, en, rfl⟩, h _ en ⟨_, Heap.get?_push_of_some _ (Heap.get?_push_size _ rfl), rfl, rfl⟩ (by rw [Heap.size_push, sz]) fun b o x => Heap.get?_push_of_some _ (Heap.get?_push_of_some _ x)⟩
theorem IsTuple_up {h h' : Heap} {t : Addr} {items : Array Value} (x : h.IsTuple t items) (e : ∀ o, h.get? t = some o → h'.get? t = some o) : h'.IsTuple t items := let ⟨o, ho, r⟩ := x; ⟨o, e o ho, r⟩
theorem IsTupleIter_up {h h' : Heap} {it t : Addr} {i : Nat} (x : h.IsTupleIter it t i) (e : ∀ o, h.get? it = some o → h'.get? it = some o) : h'.IsTupleIter it t i := let ⟨o, ho, r⟩ := x; ⟨o, e o ho, r⟩
theorem drawsT {A : Around} (hh : A.handled = none) (it t : Addr) (hne : t ≠ it) (items : Array Value) :
    Draws prog w A it [it, t] items.size (fun i v => items[i]? = some v) (fun i h => h.IsTupleIter it t i ∧ h.IsTuple t items) where
  live := fun _ _ st => let ⟨o, ho, _⟩ := st.1; ⟨o, ho⟩
  frame := fun _ _ _ st hk => ⟨IsTupleIter_up st.1 fun o e => hk it (by simp) o e, IsTuple_up st.2 fun o e => hk t (by simp) o e⟩
  item := fun i s Q E hi st hQ => by
    unfold Builtin.SmallTypes.nextOf
    exact wpAny_bind (L2.special_tup_item st.1 st.2 (x := items[i]) (by simp [hi]) fun h' a b => wpAny_pure (hQ _ h' s.toks (by simp [hi]) ⟨a, IsTuple_up st.2 fun o e => (b.2 t hne).trans e⟩ b))
  done := fun s Q E st hE => by
    unfold Builtin.SmallTypes.nextOf
    refine wpAny_bind (L2.special_tup_end hh st.1 st.2 (by simp) fun e h' sx eb => ?_)
    obtain ⟨a, o, vs, rfl, ho, hc, _⟩ := sx
    exact hE h' _ eb ⟨_, ho, hc⟩
end
/-- the tuple at a, each item with its place in a new pair -/
def IteT (K : PySem.W.Frag) (a : Addr) : It :=
  ⟨fun i H => ∃ (xs : List V) (x : V), SqT K H a xs ∧ xs[i]? = some x, fun i H v H' => ∃ T x, v = .ref T ∧ H T = none ∧ H' = upd H T (.tup [.int (i : Nat), x]) ∧ ∀ xs, SqT K H a xs → xs[i]? = some x, fun i H => ∃ xs : List V, SqT K H a xs ∧ xs.length ≤ i⟩
theorem turn_enumT {P : Program} {w : World} {K : PySem.W.Frag} {elts : List Expr} {kk : Nat} {tpos : Pos} (a e it : Addr) :
    Turn P w K (.Tuple elts kk tpos) (IteT K a) [e, it] e (fun i h => (∃ old, IsEnum h e it ((i : Nat) : Int) old) ∧ h.IsTupleIter it a i ∧ e ≠ it) where
  mem := by simp
  obj := fun i h ⟨⟨old, he⟩, ⟨o, ho, hc, hd⟩, _⟩ b hb => by
    rcases (show b = e ∨ b = it by simpa using hb) with rfl | rfl
    · exact ⟨_, he, fun v q => nomatch q⟩
    · exact ⟨o, ho, fun v q => by rw [hd] at q; cases q⟩
  keep := fun i h h' ⟨⟨old, he⟩, hi, hne⟩ k => ⟨⟨old, k e (by simp) _ he⟩, IsTupleIter_up hi fun o q => k it (by simp) o q, hne⟩
  item := by
    intro X hP hw hK hc i pins s σ H E I hf st hg
    subst hP hw hK
    obtain ⟨⟨old, he⟩, hit, hne⟩ := st
    obtain ⟨xs, x, hq, hx⟩ := hg
    obtain ⟨its, rv, p, hz⟩ := I.tuple hq
    obtain ⟨u, hu, ru⟩ := rv.get hx
    have hel : e < s.heap.objs.size := Heap.lt_size he
    have hil : it < s.heap.objs.size := by obtain ⟨_, q, _⟩ := hit; exact Heap.lt_size q
    obtain ⟨ot, hot, hct, nt, hdt⟩ := id p
    have nai : a ≠ it := fun z => by
      obtain ⟨o, ho, hc', _⟩ := id hit
      rw [z, ho] at hot
      cases hot
      rw [hc'] at hct
      exact absurd hct (by decide)
    have nae : e ∉ [it, a] := fun z => by
      rcases (show e = it ∨ e = a by simpa using z) with z | z
      · exact hne z
      · rw [← z, he] at hot
        cases hot
        exact absurd hct (by show ¬ (Value.type "enumerate" = Value.type "tuple"); decide)
    have hi : i < its.toArray.size := by
      have h1 : i < its.length := (List.getElem?_eq_some_iff.mp hu).1
      simpa using h1
    refine wpAny_pyNext_enum_itemD (drawsT (A := X.A.in1) (I.ok.hd hc) it a nai its.toArray) he ⟨hit, p⟩ hi hne nae fun v h' tk hv ho hit' hT hsz hk => ?_
    have ev : v = u := by
      have z : its.toArray[i]? = some u := by simpa using hu
      rw [z] at hv
      exact (Option.some.inj hv).symm
    subst ev
    refine ⟨_, rfl, wpAny_letOwnedTupleGo_enum (s := { s with heap := h', toks := tk + 1 }) ho fun h'' he' sb => ?_⟩
    have hT2 : h''.get? s.heap.objs.size = some { cls := .type "tuple", data := .seq #[.int i tk, v] } := (sb.2 _ (Nat.ne_of_gt hel)).trans hT
    have new : ObjOk X.prog X.w (upd H s.heap.objs.size (.tup [.int (i : Nat), x])) h'' s.heap.objs.size (.tup [.int (i : Nat), x]) :=
      ⟨by show 2 ≤ sizeLine; decide, [.int i tk, v], .cons ⟨_, rfl⟩ (.cons ru .nil), ⟨_, hT2, rfl, _, rfl⟩⟩
    have I1 : Inv X pins σ (upd H s.heap.objs.size (.tup [.int (i : Nat), x])) { s with heap := h'', toks := tk + 1 } :=
      I.turnedNew (ch := [e, it]) (fun b ob hb q => (sb.2 b (fun z => hb (by simp [z]))).trans (hk b ob (fun z => hb (by simp [z])) (fun z => hb (by simp [z])) q)) hf (Nat.le_refl _) new
    refine ⟨.ref s.heap.objs.size, _, I1, rfl, ⟨_, x, rfl, I.hok.fresh (Nat.le_refl _), rfl, fun ys hy => by rw [I.tuple_inj hy hq]; exact hx⟩, ⟨⟨v, ?_⟩, IsTupleIter_up hit'.1 fun o q => (sb.2 it (Ne.symm hne)).trans q, hne⟩, fun b hb => ?_⟩
    · rw [show ((i + 1 : Nat) : Int) = (i : Int) + 1 by omega]
      exact he'
    · have hb' : b < s.heap.objs.size := by
        rcases (show b = e ∨ b = it by simpa using hb) with z | z
        · rw [z]; exact hel
        · rw [z]; exact hil
      rw [upd_ne (Nat.ne_of_lt hb')]
      exact (hf b hb).1
  done := by
    intro X hP hw hK hc i pins s σ H E I hf st hg
    subst hP hw hK
    obtain ⟨⟨old, he⟩, hit, hne⟩ := st
    obtain ⟨xs, hq, hx⟩ := hg
    obtain ⟨its, rv, p, hz⟩ := I.tuple hq
    obtain ⟨f0, f1, f2, f3, f4, f5⟩ := hf it (by simp)
    have hl := rv.length
    have hend : (Builtin.SmallTypes.nextOf (.ref it)) = (Builtin.SmallTypes.nextOf (.ref it)) := rfl
    have hT : s.TypeIs (.ref e) "enumerate" := ⟨_, he, rfl⟩
    unfold pyNext
    refine wpAny_bind (wpAny_attempt (wpAny_callSpecial?_slot (name := Str.ofString "__next__") hT F.slot_enumerate_next
      (wpAny_call_entry F.slot_enumerate_next hT F.entry_enumerate_next ?_ (F.args_enumerate_next_1 _))))
    show wpAny _ _ (field (.ref e) 2 >>= _) _ _ _
    refine wpAny_bind (wpAny_field he rfl (x := .ref it) rfl ?_)
    show wpAny _ _ (Builtin.SmallTypes.nextOf (.ref it) >>= _) _ _ _
    unfold Builtin.SmallTypes.nextOf
    refine wpAny_bind (wpAny_bind (L2.special_tup_end (I.ok.hd hc) hit p (by simp; omega) fun x h' sx eb => ?_))
    obtain ⟨b, o, vs, rfl, ho, hc, _⟩ := sx
    refine wpAny_bind (wpAny_isInstance (T := "StopIteration") (b := true) ⟨o, ho, hc⟩ isSubtype_stop ?_)
    exact wpAny_pure ⟨rfl, I.turned (t' := s.toks) (fun b o hb q => eb b o hb q) f0 f1 f3 f4 f5⟩
  self := fun A i s Q E ⟨⟨_, he⟩, _⟩ h => wpAny_pyIter_enum he h
def iEnumT (K : PySem.W.Frag) (ta : TA) : TI := fun σ H R => ta σ H fun vs H1 => ∃ a xs, vs = [.ref a] ∧ SqT K H1 a xs ∧ R (IteT K a) H1
theorem pi_enumT {X : Cx} {e : Expr} {ta : TA} {p pos tpos : Pos} {elts : List Expr} {kk : Nat} (hg : Gl X "enumerate") (hm : X.mg "enumerate" = none) (ha : PA X [e] ta) (hs : starEach [e] X.env = [(false, eval e X.env)] := by rfl) :
    PI X (.Tuple elts kk tpos) (.Call (.Name "enumerate" p) [e] [] pos) (iEnumT X.K ta) := by
  refine ⟨fun pins s σ H R I h => Call_ (ld_blt I hg hm boot_enumerate (PyProof.Rows.callWith_type1 (thn (ha.run pos pins s σ H _ I h) fun us s1 ⟨vs, H1, I1, r1, a, xs, ex, hq, q⟩ => ?_) hs rfl))⟩
  subst ex
  obtain ⟨u, rfl, ru⟩ := r1.one
  cases (show u = Value.ref a from ru)
  obtain ⟨its, rv, p', hz⟩ := I1.tuple hq
  refine call_enumT p' fun h' he hit hsz hk => wpAny_pyIter_enum he ?_
  have I2 : Inv X pins σ H1 { s1 with heap := h' } := I1.kept (t' := s1.toks) hk
  refine ⟨s1.heap.objs.size + 1, [s1.heap.objs.size + 1, s1.heap.objs.size], _, _, H1, rfl, I2, turn_enumT a (s1.heap.objs.size + 1) s1.heap.objs.size, ⟨⟨.none, he⟩, hit, Nat.succ_ne_self _⟩, fun b hb => ?_, q⟩
  have hle : s1.heap.objs.size ≤ b := by
    rcases (show b = s1.heap.objs.size + 1 ∨ b = s1.heap.objs.size by simpa using hb) with z | z
    · rw [z]; exact Nat.le_add_right _ _
    · rw [z]; exact Nat.le_refl _
  exact I1.fpOk hle (I1.hok.fresh hle)
end DL
set_option maxHeartbeats 4000000
/-! M3: t[::-1] of a tuple; a text repeated. -/
namespace DL
open PySem PySem.Spec L2
open PyProof.Rows hiding St wpAt wpAt_bind wpAt_stack wpAt_mono
theorem filterMap_of {α β : Type} {f g : α → Option β} : ∀ {l : List α}, (∀ m ∈ l, f m = g m) → l.filterMap f = l.filterMap g
  | [], _ => rfl
  | x :: l, h => by rw [List.filterMap_cons, List.filterMap_cons, h x List.mem_cons_self, filterMap_of fun m hm => h m (List.mem_cons_of_mem _ hm)]
section
variable {prog : Program} {w : World} {A : Around} {E : Value → Shared → Prop} {s : Shared}
theorem adjust_back (n : Nat) : Builtin.Slice.sliceAdjust none none (-1) (n : Int) = ((n : Int) - 1, -1) := by
  unfold Builtin.Slice.sliceAdjust
  simp
theorem places_back (n : Nat) : Builtin.Slice.slicePlaces ((n : Int) - 1) (-1) (-1) = n := by
  unfold Builtin.Slice.slicePlaces
  simp
  split <;> omega
theorem applied_back {sl : Addr} {vl vu vs : Value} {n : Nat} {Q : Int × Int × Nat → Shared → Prop} (hs : s.heap.IsSliceOf sl vl vu vs) (pl : IsPart vl none) (pu : IsPart vu none) (ps : IsPart vs (some (-1)))
    (h : Q ((n : Int) - 1, -1, n) s) : wpAny (model prog w) A (Builtin.Slice.sliceApplied (.ref sl) (pure (n : Int))) Q E s := by
  obtain ⟨os, hos, hcs, hds⟩ := id hs
  unfold Builtin.Slice.sliceApplied Builtin.Slice.sliceFields
  refine wpAny_bind (wpAny_bind (wpAny_field hos hds (x := vl) rfl (wpAny_bind (wpAny_field hos hds (x := vu) rfl (wpAny_bind (wpAny_field hos hds (x := vs) rfl (wpAny_pure ?_)))))))
  refine wpAny_bind (HT.slicePart_ ps ?_)
  show wpAny _ _ (if ((-1 : Int) == 0) = true then _ else _) _ _ s
  rw [if_neg (by decide)]
  refine wpAny_bind (HT.slicePart_ pl (wpAny_bind (HT.slicePart_ pu (wpAny_bind (wpAny_pure ?_)))))
  show wpAny _ _ (match Builtin.Slice.sliceAdjust none none (-1) (n : Int) with | (lo, hi) => pure (lo, (-1 : Int), Builtin.Slice.slicePlaces lo hi (-1))) _ _ s
  rw [adjust_back n]
  show wpAny _ _ (pure ((n : Int) - 1, (-1 : Int), Builtin.Slice.slicePlaces ((n : Int) - 1) (-1) (-1))) _ _ s
  rw [places_back]
  exact wpAny_pure h
theorem pick_back (xs : Array Value) : ((List.range xs.size).filterMap fun (m : Nat) => xs[(((xs.size : Int) - 1) + (m : Int) * (-1)).toNat]?).toArray = xs.toList.reverse.toArray := by
  congr 1
  have e : ((List.range xs.size).filterMap fun (m : Nat) => xs[(((xs.size : Int) - 1) + (m : Int) * (-1)).toNat]?) = ((List.range xs.size).map fun m => xs.size - 1 - m).filterMap fun m => xs[m]? := by
    rw [List.filterMap_map]
    refine filterMap_of fun m hm => ?_
    have h1 := List.mem_range.mp hm
    have h2 : (((xs.size : Int) - 1) + (m : Int) * (-1)).toNat = xs.size - 1 - m := by omega
    show xs[_]? = xs[_]?
    rw [h2]
  rw [e]
  have z := PySem.W.krv_pick xs
  unfold slicePick at z
  rw [PySem.W.krv_bounds] at z
  have z2 : ((sliceRange ((xs.size : Int) - 1) (-1) (-1)).filterMap (xs[·]?)).toArray = xs.toList.reverse.toArray := z
  rw [PySem.W.krv_sliceRange] at z2
  have z3 := congrArg Array.toList z2
  simpa using z3
theorem item_back {t sl : Addr} {items : Array Value} {vl vu vs : Value} {Q : Value → Shared → Prop} (ht : IsTup s.heap t items) (hs : s.heap.IsSliceOf sl vl vu vs) (pl : IsPart vl none) (pu : IsPart vu none) (ps : IsPart vs (some (-1)))
    (h : Q (.ref s.heap.objs.size) { s with heap := s.heap.push { cls := .type "tuple", data := .seq items.toList.reverse.toArray } }) (hsz : items.size ≤ sizeLine) : wpAny (model prog w) A (getItem (.ref t) (.ref sl)) Q E s := by
  have fits : sizeOk (.seq items.toList.reverse.toArray) := by
    show items.toList.reverse.toArray.size ≤ sizeLine
    rw [List.size_toArray, List.length_reverse, Array.length_toList]
    exact hsz
  obtain ⟨os, hos, hcs, hds⟩ := id hs
  have hTs : s.TypeIs (.ref sl) "slice" := ⟨os, hos, hcs⟩
  unfold getItem
  try with_reducible refine wpAny_holding ?_
  first | refine wpAny_bind (wpAny_pure ?_) | skip
  refine wpAny_bind (wpAny_sequenceKey ht.typeIs (by decide) (wpAny_bind (wpAny_callSpecial?_slot (name := Str.ofString "__getitem__") ht.typeIs PyProof.Rows.slot_tuple_getitem
    (wpAny_call_entry PyProof.Rows.slot_tuple_getitem ht.typeIs entry_tuple_getitem ?_ (args_tuple_getitem _ _)))))
  show wpAny _ _ (Builtin.Tuple.tupleItemsOf (.ref t) >>= _) _ _ s
  refine wpAny_bind (tupleItemsOf_ ht (wpAny_bind (wpAny_typeOf hTs ?_)))
  rw [if_pos (by decide)]
  refine wpAny_bind (applied_back hs pl pu ps ?_)
  show wpAny _ _ (if (((items.size : Int) - 1) == 0 && (-1 : Int) == 1 && items.size == items.size) = true then _ else _) _ _ s
  rw [if_neg (by simp), pick_back]
  first
    | exact wpAny_bind (m := Builtin.Tuple.tupleExact _) (wpAny_newObj_type (wpAny_pure ⟨_, rfl, wpAny_pure h⟩) fits)
    | exact wpAny_bind (m := Builtin.Tuple.tupleExact _) (wpAny_newObj_type (wpAny_bind (wpAny_pure (wpAny_pure ⟨_, rfl, wpAny_pure h⟩))) fits)
    | exact wpAny_bind (wpAny_bind (m := Builtin.Tuple.tupleExact _) (wpAny_newObj_type (wpAny_pure (wpAny_pure ⟨_, rfl, wpAny_pure h⟩)) fits))
    | exact wpAny_bind (wpAny_bind (m := Builtin.Tuple.tupleExact _) (wpAny_newObj_type (wpAny_pure ⟨_, rfl, wpAny_pure h⟩) fits))
end
/-- t[::-1] -/
def tRevT (K : PySem.W.Frag) (te : TE) : TE := fun σ H Q => te σ H fun x H1 => ∃ a xs, x = .ref a ∧ SqT K H1 a xs ∧ ∀ p, H1 p = none → Q (.ref p) (upd H1 p (.tup xs.reverse))
theorem pe_revT {X : Cx} {e : Expr} {te : TE} {k : Nat} {p1 p2 p3 pos : Pos} (he : PE X e te) : PE X (.Subscript e (.Slice none none (some (.UnaryOp .USub (.Constant (.int 1) k p1) p2)) p3) pos) (tRevT X.K te) := by
  refine ⟨fun pins s σ H Q I h => Subscript_ (thn (he.run pins s σ H _ I h) fun v s1 ⟨x, H1, I1, r1, a, xs, ex, hx, q⟩ => ?_)⟩
  subst ex
  cases r1
  have step : PO X (some (.UnaryOp .USub (.Constant (.int 1) k p1) p2)) (tPart (tUn (rU fun i => .int (-i)) (tC (.int 1)))) := po_some (pe_un un_neg pe_int)
  refine wpAny_Slice (thn (po_none.run pins s1 σ H1 (fun o H2 => o = none ∧ H2 = H1) I1 ⟨rfl, rfl⟩) fun vl s2 ⟨l, H2, I2, pl, el, e2⟩ => ?_)
  subst el e2
  refine thn (po_none.run pins s2 σ H2 (fun o H3 => o = none ∧ H3 = H2) I2 ⟨rfl, rfl⟩) fun vu s3 ⟨u, H3, I3, pu, eu, e3⟩ => ?_
  subst eu e3
  refine thn (step.run pins s3 σ H3 (fun o H4 => o = some (-1) ∧ H4 = H3) I3 ⟨1, rfl, -1, rfl, rfl, rfl⟩) fun vs s4 ⟨o, H4, I4, ps, eo, e4⟩ => ?_
  subst eo e4
  have I5 : Inv X pins σ H4 { s4 with heap := s4.heap.push { cls := .type "slice", data := .fields #[vl, vu, vs] } } := I4.kept (t' := s4.toks) fun b ob q => Heap.get?_push_of_some _ q
  obtain ⟨its, r, ht, hz⟩ := I5.tuple hx
  have hlen := r.length
  show wpAny (model X.prog X.w) X.A (subscriptTail e (.Slice none none (some (.UnaryOp .USub (.Constant (.int 1) k p1) p2)) p3) (.ref a) (.ref s4.heap.objs.size)) (EP X pins σ Q) X.xe { s4 with heap := s4.heap.push { cls := .type "slice", data := .fields #[vl, vu, vs] } }
  refine tail_any (ops := [.ref a, .ref s4.heap.objs.size]) ht.typeIs PyProof.Rows.slot_tuple_getitem.lookup ?_ (by with_unfolding_all rfl)
  refine item_back ht (Heap.IsSliceOf.new _ vl vu vs) pl pu ps ?_ (by rw [List.size_toArray]; omega)
  refine ⟨.ref _, _, I5.laid (t' := s4.toks) (o := .tup xs.reverse) (fun b ob q => Heap.get?_push_of_some _ q) (Nat.le_refl _) ?_, rfl, q _ (I5.hok.fresh (Nat.le_refl _))⟩
  exact ⟨by rw [List.length_reverse]; omega, _, r.reverse, IsTup.new _ _⟩
end DL
set_option maxHeartbeats 4000000
/-! M4: a text repeated; list(text). -/
namespace DL
open PySem PySem.Spec L2
open PyProof.Rows hiding St wpAt wpAt_bind wpAt_stack wpAt_mono
def mulS (x : Str) (k : Nat) : Str := ⟨(List.replicate k x.cps).foldl (· ++ ·) #[]⟩
theorem fold_size (a : Array Nat) : ∀ (k : Nat) (acc : Array Nat), ((List.replicate k a).foldl (· ++ ·) acc).size = acc.size + a.size * k
  | 0, acc => rfl
  | k + 1, acc => by
    rw [List.replicate_succ, List.foldl_cons, fold_size a k, Array.size_append, Nat.mul_succ]
    omega
theorem mulS_length (x : Str) (k : Nat) : (mulS x k).cps.size = x.cps.size * k := by
  unfold mulS
  rw [fold_size]
  simp
def rMulS : R2 := fun x y H Q => ∃ (z : Str) (k : Int), x = .str z ∧ y = .int k ∧ 2 ≤ k ∧ k ≤ 1000 ∧ 1 ≤ z.length ∧ z.length ≤ 1000 ∧ Q (.str (mulS z k.toNat)) H
def signs (x : Str) : List V := x.cps.toList.map fun c => V.str ⟨#[c]⟩
theorem vals_signs : ∀ {cs : List Nat} {vs : List Value}, vs.length = cs.length → (∀ (j : Nat) (v : Value), vs[j]? = some v → ∃ (c : Nat) (u : Tok), cs[j]? = some c ∧ v = Value.str ⟨#[c]⟩ u) → Vals (cs.map fun c => V.str ⟨#[c]⟩) vs
  | [], [], _, _ => .nil
  | c :: cs, v :: vs, h, f => by
    obtain ⟨c', u, e1, e2⟩ := f 0 v rfl
    cases e1
    exact .cons ⟨u, e2⟩ (vals_signs (by simpa using h) fun j w e => by simpa using f (j + 1) w (by simpa using e))
section
variable {X : Cx}
theorem op_mulS : OpR X (binaryOp .Mult) rMulS := by
  intro pins s σ H x y v u Q I rx ry h
  obtain ⟨z, k, rfl, rfl, h1, h2, h3, h4, q⟩ := h
  obtain ⟨t, rfl⟩ := (show ∃ t, v = Value.str z t from rx)
  obtain ⟨t', rfl⟩ := (show ∃ t, u = Value.int k t from ry)
  have sl : sizeLine = 16777216 := sizeLine_eq
  have n1 : ¬ k < 1 := by omega
  have n2 : (k == 1 || z.length == 0) = false := by
    rw [beq_eq_false_iff_ne.mpr (by omega), beq_eq_false_iff_ne.mpr (by omega)]
    rfl
  have bound : z.length * k.toNat ≤ 1000 * 1000 := Nat.mul_le_mul h4 (by omega)
  refine PySem.P.mul_str (by rw [decide_eq_false (by omega), decide_eq_false (by omega)]; rfl) (fun _ _ => ?_) (fun _ _ => ?_) ?_
  · have d : (1000 : Int) ≤ (2 ^ 63 - 1) / k := Int.le_ediv_of_mul_le (by omega) (by omega)
    omega
  · exact decide_eq_false (by omega)
  · rw [if_neg n1, n2]
    exact ⟨by have l := mulS_length z k.toNat; show (mulS z k.toNat).cps.size ≤ sizeLine; have b2 : z.cps.size * k.toNat ≤ 1000000 := bound; omega, .str _, H, I.tok _, ⟨_, rfl⟩, q⟩
theorem call_listS (hc : X.calm = true) : CallR X (.type "list") (fun xs H Q => ∃ x : Str, xs = [.str x] ∧ x.length ≤ 100000 ∧ ∀ l, H l = none → Q (.ref l) (upd H l (.lst (signs x)))) := by
  intro pins s σ H xs us Q I r h
  obtain ⟨x, rfl, hz, q⟩ := h
  obtain ⟨u, rfl, ru⟩ := r.one
  obtain ⟨t, rfl⟩ := (show ∃ t, u = Value.str x t from ru)
  have sl : sizeLine = 16777216 := sizeLine_eq
  have hz' : x.cps.size ≤ 100000 := hz
  refine call_list_str (I.ok.hd hc) x t (fun h' tk acc c' kp e it => ?_) (by omega)
  have rv : Vals (signs x) acc.toList := by
    refine vals_signs ?_ fun j v e => ?_
    · rw [Array.length_toList, Array.length_toList]
      exact it.1
    · obtain ⟨c, u, e1, e2⟩ := it.2 j v (by simpa using e)
      exact ⟨c, u, by simpa using e1, e2⟩
  have lens : (signs x).length ≤ sizeLine := by
    unfold signs
    rw [List.length_map, Array.length_toList]
    omega
  exact ⟨.ref s.heap.objs.size, _, I.laid (t' := tk) (o := .lst (signs x)) kp (Nat.le_refl _) ⟨lens, acc.toList, c', rv, by rw [e]⟩, rfl, q _ (I.hok.fresh (Nat.le_refl _))⟩
end
end DL
set_option maxHeartbeats 4000000
/-! P1: rules that lacked: enumerate over a text, a bound method as a value, dict(d) of a written dict, xs.extend(a tuple), a text repeated, an attribute as a target, None in a tuple. -/
namespace DL
open PySem PySem.Spec PySem.W PySem.Calls L2
open PyProof.Rows hiding St wpAt wpAt_bind wpAt_stack wpAt_mono
open AutoSeq1 (wpAny_loadPart' idx_int)
/-- the signs of a text, each with its place in a new pair -/
def IteS (x : Str) : It :=
  ⟨fun i H => i < x.cps.size, fun i H v H' => ∃ T c, v = .ref T ∧ H T = none ∧ H' = upd H T (.tup [.int (i : Nat), .str ⟨#[c]⟩]) ∧ x.cps[i]? = some c, fun i H => x.cps.size ≤ i⟩
theorem strIter_up {h h' : Heap} {it : Addr} {ty : String} {x : Str} {t : Tok} {i : Nat} (a : h.IsStrIter it ty x t i) (e : ∀ o, h.get? it = some o → h'.get? it = some o) : h'.IsStrIter it ty x t i := let ⟨o, ho, r⟩ := a; ⟨o, e o ho, r⟩
theorem str_end {prog : Program} {w : World} {A : Around} {E : Value → Shared → Prop} {s : Shared} {it : Addr} {x : Str} {t : Tok} {i : Nat} {Q : Value → Shared → Prop} (hh : A.handled = none) (hit : s.heap.IsStrIter it (strIterType x) x t i) (hx : x.cps.size ≤ i)
    (hE : ∀ h' e, Heap.ExtBut it s.heap h' → (∃ o, h'.get? e = some o ∧ o.cls = .type "StopIteration") → E (.ref e) { s with heap := h' }) : wpAny (model prog w) A (Builtin.SmallTypes.nextOf (.ref it)) Q E s := by
  have hn : x.cps[i]? = none := by simp; exact hx
  cases ha : x.cps.all (· < 128)
  · simp only [strIterType, ha, Bool.false_eq_true, if_false] at hit
    exact wpAny_nextOf_wide_end hh hit hn hE
  · simp only [strIterType, ha, if_true] at hit
    exact wpAny_nextOf_ascii_end hh hit hn hE
theorem turn_enumS {P : Program} {w : World} {K : PySem.W.Frag} {elts : List Expr} {kk : Nat} {tpos : Pos} (e it : Addr) (x : Str) (t : Tok) :
    Turn P w K (.Tuple elts kk tpos) (IteS x) [e, it] e (fun i h => (∃ old, IsEnum h e it ((i : Nat) : Int) old) ∧ h.IsStrIter it (strIterType x) x t i ∧ e ≠ it) where
  mem := by simp
  obj := fun i h ⟨⟨old, he⟩, ⟨o, ho, hc, hd⟩, _⟩ b hb => by
    rcases (show b = e ∨ b = it by simpa using hb) with rfl | rfl
    · exact ⟨_, he, fun v q => nomatch q⟩
    · exact ⟨o, ho, fun v q => by rw [hd] at q; cases q⟩
  keep := fun i h h' ⟨⟨old, he⟩, hi, hne⟩ k => ⟨⟨old, k e (by simp) _ he⟩, strIter_up hi fun o q => k it (by simp) o q, hne⟩
  item := by
    intro X hP hw hK hc i pins s σ H E I hf st hg
    subst hP hw hK
    obtain ⟨⟨old, he⟩, hit, hne⟩ := st
    have hel : e < s.heap.objs.size := Heap.lt_size he
    have hil : it < s.heap.objs.size := by obtain ⟨_, q, _⟩ := hit; exact Heap.lt_size q
    have nae : e ∉ [it] := fun z => hne (by simpa using z)
    refine wpAny_pyNext_enum_itemD (Draws.text (A := X.A.in1) (I.ok.hd hc) it x t) he hit (show i < x.cps.size from hg) hne nae fun v h' tk hv ho hit' hT hsz hk => ?_
    obtain ⟨c, u, hcx, rfl⟩ := hv
    refine ⟨_, rfl, wpAny_letOwnedTupleGo_enum (s := { s with heap := h', toks := tk + 1 }) ho fun h'' he' sb => ?_⟩
    have hT2 : h''.get? s.heap.objs.size = some { cls := .type "tuple", data := .seq #[.int i tk, .str ⟨#[c]⟩ u] } := (sb.2 _ (Nat.ne_of_gt hel)).trans hT
    have new : ObjOk X.prog X.w (upd H s.heap.objs.size (.tup [.int (i : Nat), .str ⟨#[c]⟩])) h'' s.heap.objs.size (.tup [.int (i : Nat), .str ⟨#[c]⟩]) :=
      ⟨by show 2 ≤ sizeLine; decide, [.int i tk, .str ⟨#[c]⟩ u], .cons ⟨_, rfl⟩ (.cons ⟨_, rfl⟩ .nil), ⟨_, hT2, rfl, _, rfl⟩⟩
    have I1 : Inv X pins σ (upd H s.heap.objs.size (.tup [.int (i : Nat), .str ⟨#[c]⟩])) { s with heap := h'', toks := tk + 1 } :=
      I.turnedNew (ch := [e, it]) (fun b ob hb q => (sb.2 b (fun z => hb (by simp [z]))).trans (hk b ob (fun z => hb (by simp [z])) (fun z => hb (by simp [z])) q)) hf (Nat.le_refl _) new
    refine ⟨.ref s.heap.objs.size, _, I1, rfl, ⟨_, c, rfl, I.hok.fresh (Nat.le_refl _), rfl, hcx⟩, ⟨⟨.str ⟨#[c]⟩ u, ?_⟩, strIter_up hit' fun o q => (sb.2 it (Ne.symm hne)).trans q, hne⟩, fun b hb => ?_⟩
    · rw [show ((i + 1 : Nat) : Int) = (i : Int) + 1 by omega]
      exact he'
    · have hb' : b < s.heap.objs.size := by
        rcases (show b = e ∨ b = it by simpa using hb) with z | z
        · rw [z]; exact hel
        · rw [z]; exact hil
      rw [upd_ne (Nat.ne_of_lt hb')]
      exact (hf b hb).1
  done := by
    intro X hP hw hK hc i pins s σ H E I hf st hg
    subst hP hw hK
    obtain ⟨⟨old, he⟩, hit, hne⟩ := st
    obtain ⟨f0, f1, f2, f3, f4, f5⟩ := hf it (by simp)
    have hT : s.TypeIs (.ref e) "enumerate" := ⟨_, he, rfl⟩
    unfold pyNext
    refine wpAny_bind (wpAny_attempt (wpAny_callSpecial?_slot (name := Str.ofString "__next__") hT F.slot_enumerate_next
      (wpAny_call_entry F.slot_enumerate_next hT F.entry_enumerate_next ?_ (F.args_enumerate_next_1 _))))
    show wpAny _ _ (field (.ref e) 2 >>= _) _ _ _
    refine wpAny_bind (wpAny_field he rfl (x := .ref it) rfl ?_)
    show wpAny _ _ (Builtin.SmallTypes.nextOf (.ref it) >>= _) _ _ _
    refine wpAny_bind (str_end (I.ok.hd hc) hit hg fun h' x' eb sx => ?_)
    obtain ⟨o, ho, hc⟩ := sx
    refine wpAny_bind (wpAny_isInstance (T := "StopIteration") (b := true) ⟨o, ho, hc⟩ isSubtype_stop ?_)
    exact wpAny_pure ⟨rfl, I.turned (t' := s.toks) (fun b o hb q => eb b o hb q) f0 f1 f3 f4 f5⟩
  self := fun A i s Q E ⟨⟨_, he⟩, _⟩ h => wpAny_pyIter_enum he h
def iEnumS (ta : TA) : TI := fun σ H R => ta σ H fun vs H1 => ∃ x, vs = [.str x] ∧ R (IteS x) H1
theorem pi_enumS {X : Cx} {e : Expr} {ta : TA} {p pos tpos : Pos} {elts : List Expr} {kk : Nat} (hg : Gl X "enumerate") (hm : X.mg "enumerate" = none) (ha : PA X [e] ta) (hs : starEach [e] X.env = [(false, eval e X.env)] := by rfl) :
    PI X (.Tuple elts kk tpos) (.Call (.Name "enumerate" p) [e] [] pos) (iEnumS ta) := by
  refine ⟨fun pins s σ H R I h => Call_ (ld_blt I hg hm boot_enumerate (PyProof.Rows.callWith_type1 (thn (ha.run pos pins s σ H _ I h) fun us s1 ⟨vs, H1, I1, r1, x, ex, q⟩ => ?_) hs rfl))⟩
  subst ex
  obtain ⟨u, rfl, ru⟩ := r1.one
  obtain ⟨t, rfl⟩ := (show ∃ t, u = Value.str x t from ru)
  refine call_enumerate_str fun h' he hit hsz hk => wpAny_pyIter_enum he ?_
  have I2 : Inv X pins σ H1 { s1 with heap := h' } := I1.kept (t' := s1.toks) hk
  refine ⟨s1.heap.objs.size + 1, [s1.heap.objs.size + 1, s1.heap.objs.size], _, _, H1, rfl, I2, turn_enumS (s1.heap.objs.size + 1) s1.heap.objs.size x t, ⟨⟨.none, he⟩, hit, Nat.succ_ne_self _⟩, fun b hb => ?_, q⟩
  have hle : s1.heap.objs.size ≤ b := by
    rcases (show b = s1.heap.objs.size + 1 ∨ b = s1.heap.objs.size by simpa using hb) with z | z
    · rw [z]; exact Nat.le_add_right _ _
    · rw [z]; exact Nat.le_refl _
  exact I1.fpOk hle (I1.hok.fresh hle)
/-! ### a bound method as a value -/
section
variable {X : Cx} {C g : Addr} {m : Str} {e : Expr} {ta : TE} {pos : Pos}
def tBndM (C : Addr) (m : Str) (g : Addr) (ta : TE) : TE := fun σ H Q => ta σ H fun x H1 => ∃ a dx fs, x = .ref a ∧ H1 a = some (.ins C dx fs) ∧ fs.lookup m = none ∧ ∀ q, H1 q = none → Q (.ref q) (upd H1 q (.met g a))
theorem pe_bndM (c : L2.Cls X.K C) (k : BMeth X.K C m g) (he : PE X e ta) (hb : attributeBase e m X.env (eval e X.env) = eval e X.env := by rfl) : PE X (.Attribute e m pos) (tBndM C m g ta) := by
  refine ⟨fun pins s σ H Q I h => ?_⟩
  refine attr_of hb (thn (he.run pins s σ H _ I h) fun u s1 ⟨x, H1, I1, rx, a, dx, fs, ex, ea, l, q⟩ => ?_)
  subst ex
  exact op_getbound I1 ea c k l rx q
variable {i k : Nat} {sp : Sp} {x : Str} {p : Pos}
def tCallM (i : Nat) (g : Addr) (sp : Sp) : TE := fun σ H Q => ∃ q a, σ[i]? = some (some (.ref q)) ∧ H q = some (.met g a) ∧ sp [.ref a] H Q E0
theorem pe_callM (F : FnR X.prog X.w X.K X.mg X.base CX0 k g sp) (hr : Room k X.A) (hf : PySem.W.fnIn X.K g = true) (hN : X.N[i]? = some x) (hv : Vis X.env.scope x)
    (hdb : (x == ("__debug__" : Str)) = false := by decide) (hcd : (x == ("__classdict__" : Str)) = false := by decide) : PE X (.Call (.Name x p) [] [] pos) (tCallM i g sp) := by
  refine ⟨fun pins s σ H Q I h => ?_⟩
  obtain ⟨q, a, hs, hq, h⟩ := h
  refine wpAny_Call_Name_kw (thn ((pe_var (pos := p) hN hv hdb hcd).run pins s σ H (fun v H1 => v = .ref q ∧ H1 = H) I ⟨.ref q, hs, rfl, rfl⟩) fun u s1 ⟨v, H1, I1, r1, q1⟩ => ?_)
  obtain ⟨rfl, rfl⟩ := q1
  cases r1
  refine PySem.W.callWith_M0 (met_P I1 hq) hf (wpAny_call (PySem.W.method_call (met_P I1 hq).1 ?_))
  exact run_fnR (us := [Value.ref a]) (vs := [V.ref a]) F hr pass0 I1 (.cons rfl .nil) h
end
/-! ### dict(d), d a written dict -/
structure DictK (K : Frag) (P : Program) (w : World) (d : Addr) (kvs : List (Key × V)) : Prop where
  low : (d == sysModules) = false
  siz : kvs.length ≤ sizeLine
  ex : ∃ vs, KV kvs vs ∧ ∀ h : Heap, K.In h → h.DictOf (mixKind P w) d vs
section
variable {X : Cx} {d : Addr} {kvs : List (Key × V)}
theorem call_dictK (D : DictK X.K X.prog X.w d kvs) : CallR X (.type "dict") (fun xs H Q => xs = [.ref d] ∧ ∀ p, H p = none → Q (.ref p) (upd H p (.dK kvs))) := by
  intro pins s σ H xs us Q I r q
  obtain ⟨ex, q⟩ := q
  subst ex
  obtain ⟨u, eu, rx⟩ := vals1 r
  subst eu
  cases rx
  obtain ⟨lo, z, vs, rel, dd⟩ := D
  refine kt_call_dict lo (dd _ I.kIn) (by rw [← rel.length]; exact z) fun h' d' hs => ?_
  have hm : (s.heap.objs.size == sysModules) = false := beq_eq_false_iff_ne.mpr (Nat.ne_of_gt I.big)
  exact ⟨.ref s.heap.objs.size, upd H s.heap.objs.size (.dK kvs), I.laid (t' := s.toks) (fun b u e => (hs.2 b (Nat.ne_of_lt (Heap.lt_size e))).trans (Heap.get?_push_of_some _ e)) (Nat.le_refl _)
    (show ObjOk X.prog X.w _ _ _ (.dK kvs) from ⟨z, hm, vs, rel, d'⟩), rfl, q _ (I.hok.fresh (Nat.le_refl _))⟩
/-! ### xs.extend(t), t a tuple -/
theorem extendT (l : Addr) (items : Array Value) (n : Nat) (b : Addr) (items2 : Array Value) (n2 : Nat) (dd : Option Addr) (sl : Array (Option Value)) (hs0 : ¬(!items.isEmpty && Builtin.List.listTooLong (items.size + items2.size)) = true) (hs1 : items.size ≤ sizeLine) (hs2 : items.size + items2.size ≤ sizeLine + 1) :
    Meets (Builtin.«list.extend» ⟨[.ref l, .ref b], []⟩) (fun _ R s => s.heap.get? l = some { cls := .type "list", dict := none, data := .seq items n, slots := #[] } ∧ s.heap.get? b = some { cls := .type "tuple", dict := dd, data := .seq items2 n2, slots := sl } ∧ R (.ok (.ret Value.none)) { s with heap := s.heap.update l (Obj.mapSeq fun x => x ++ items2), toks := s.toks }) :=
  .of_wp fun prog w A R s h => by
    obtain ⟨hp, g, d, tk, os⟩ := s; obtain ⟨hl, hb, h⟩ := h; have f1 := idx_int; have f2 := AutoSeq1.sub_tuple_tuple; have f3 := AutoSeq1.sub_list_list; have f4 := AutoSeq1.sub_tuple_list; have f5 := AutoSeq1.sub_list_tuple
    have hz' : (items ++ items2).size ≤ sizeLine + 1 := by rw [Array.size_append]; exact hs2
    wp_walk using (wpAny_updateSeq hl rfl (hz := hs1) (_hz' := hz')), wpAny_loadPart' hl, wpAny_loadPart' hb; exact ⟨_, rfl, h⟩
def rExtendT (K : Frag) : V → List V → Hp → VK → Prop := fun x vs H Q => ∃ l b xs zs, x = .ref l ∧ vs = [.ref b] ∧ H l = some (.lst xs) ∧ SqT K H b zs ∧ xs.length + zs.length ≤ sizeLine ∧ Q .non (upd H l (.lst (xs ++ zs)))
theorem mt_extendT : MtM X "list.extend" (rExtendT X.K) := by
  intro pins s σ H x vs v us Q I rx rv h
  obtain ⟨l, b, xs, zs, rfl, rfl, hH, hB, hz, q⟩ := h
  cases rx
  obtain ⟨u, rfl, ru⟩ := rv.one
  cases ru
  obtain ⟨z, its, n, r, hl, e⟩ := I.lstM hH
  obtain ⟨its2, r2, e2, hl2⟩ := I.tuple hB
  have l2 := r2.length
  have hsz : its.toArray.size + its2.toArray.size ≤ sizeLine := by rw [List.size_toArray, List.size_toArray]; omega
  have hlong : ¬ (!its.toArray.isEmpty && Builtin.List.listTooLong (its.toArray.size + its2.toArray.size)) = true := by
    rw [notLongL hsz, Bool.and_false]
    exact Bool.false_ne_true
  obtain ⟨⟨oc, od, odd, osl⟩, ho, hc, n2, hd⟩ := e2
  simp only at hc hd
  subst hc hd
  refine call_meets F.slot_list_extend ⟨_, e, rfl⟩ F.entry_list_extend (F.args_list_extend_2 _ _)
    (extendT l its.toArray n b its2.toArray n2 od osl hlong (by rw [List.size_toArray]; omega) (by omega)) ⟨e, ho, ?_⟩
  refine ⟨.non, _, I.lset (its' := its ++ its2) hH e (by simp) (r.append r2) ?_, rfl, q⟩
  rw [List.length_append]
  omega
/-! ### a text, none, once or more times -/
def rMulA : R2 := fun x y H Q => ∃ (z : Str) (k : Nat), x = .str z ∧ y = .int k ∧ k ≤ 1000 ∧ 1 ≤ z.length ∧ z.length ≤ 1000 ∧ ((k = 0 → Q (.str Str.empty) H) ∧ (k = 1 → Q (.str z) H) ∧ (2 ≤ k → Q (.str (mulS z k)) H))
theorem op_mulA : OpR X (binaryOp .Mult) rMulA := by
  intro pins s σ H x y v u Q I rx ry h
  obtain ⟨z, k, rfl, rfl, h2, h3, h4, q0, q1, q2⟩ := h
  by_cases k2 : 2 ≤ k
  · exact op_mulS pins s σ H _ _ v u Q I rx ry ⟨z, k, rfl, rfl, by omega, by omega, h3, h4, q2 k2⟩
  obtain ⟨t, rfl⟩ := (show ∃ t, v = Value.str z t from rx)
  obtain ⟨t', rfl⟩ := (show ∃ t, u = Value.int k t from ry)
  by_cases k0 : k = 0
  · subst k0
    exact PySem.P.mul_str_none (by decide) (by decide) ⟨.str _, H, I.tok _, ⟨_, rfl⟩, q0 rfl⟩
  · obtain rfl : k = 1 := by omega
    refine PySem.P.mul_str (by decide) (fun _ n => ?_) (fun _ n => ?_) ?_
    · exact absurd n (by simp)
    · exact absurd n (by simp)
    · rw [if_neg (by decide), if_pos (by simp)]
      exact ⟨.str _, H, I, ⟨_, rfl⟩, q1 rfl⟩
/-! ### None in a tuple of texts, None and tuples -/
/-- an item that may be looked at: whether it is None -/
inductive NItem (K : Frag) (H : Hp) : V → Bool → Prop
  | non : NItem K H .non true
  | str (x : Str) : NItem K H (.str x) false
  | tup {a : Addr} {xs : List V} (h : SqT K H a xs) : NItem K H (.ref a) false
inductive NItems (K : Frag) (H : Hp) : List V → Bool → Prop
  | nil : NItems K H [] false
  | cons {x : V} {xs : List V} {b c : Bool} : NItem K H x b → NItems K H xs c → NItems K H (x :: xs) (b || c)
def rNoneNotIn (K : Frag) : R2 := fun x y H Q => ∃ p xs b, x = .non ∧ y = .ref p ∧ SqT K H p xs ∧ NItems K H xs b ∧ Q (.bl (!b)) H
def noneB (u : Value) : Bool := match u with | .none => true | _ => false
theorem nitems_eq {A : Around} {pins : List (Addr × Obj)} {σ : L2.St} {H : Hp} {s : Shared} (I : Inv X pins σ H s) (hu : A.units < cLine) : ∀ {xs : List V} {us : List Value} {b : Bool}, NItems X.K H xs b → Vals xs us → (∀ u ∈ us, SeqAt.EqAt A s u .none (noneB u)) ∧ us.any noneB = b
  | _, _, _, .nil, r => by
    cases r
    exact ⟨fun u m => (by cases m), rfl⟩
  | _, _, _, .cons (b := b0) hx hs, r => by
    cases r with
    | cons r1 r2 =>
      obtain ⟨q1, q2⟩ := nitems_eq I hu hs r2
      rename_i u us
      have z : SeqAt.EqAt A s u .none (noneB u) ∧ ∃ b', b' = noneB u ∧ b' = b0 := by
        cases hx with
        | non =>
          cases (show u = Value.none from r1)
          exact ⟨.same _, _, rfl, rfl⟩
        | str x =>
          obtain ⟨t, rfl⟩ := (show ∃ t, u = Value.str x t from r1)
          exact ⟨.str_none _ _, _, rfl, rfl⟩
        | tup h =>
          cases (show u = Value.ref _ from r1)
          obtain ⟨its, rv, p, hz⟩ := I.tuple h
          exact ⟨.tuple_none p hu, _, rfl, rfl⟩
      obtain ⟨z1, b', z2, z3⟩ := z
      refine ⟨fun v m => ?_, by rw [List.any_cons, q2, ← z2, z3]⟩
      rcases List.mem_cons.mp m with rfl | m
      · exact z1
      · exact q1 v m
theorem op_noneNotIn (hu : X.A.units + 1 < cLine) : OpR X (compareOp .NotIn) (rNoneNotIn X.K) := by
  intro pins s σ H x y v u Q I rx ry h
  obtain ⟨p, xs, b, rfl, rfl, hq, hn, q⟩ := h
  cases ry
  cases (show v = Value.none from rx)
  obtain ⟨its, r, pl, hz⟩ := I.tuple hq
  obtain ⟨e1, e2⟩ := nitems_eq (A := X.A.in1) I hu hn r
  refine SeqAt.notIn_tupleAt noneB pl (fun w hw => e1 w (by simpa using hw)) ⟨.bl _, H, I, rfl, ?_⟩
  rw [show its.toArray.any noneB = its.any noneB by simp, e2]
  exact q
end
/-! ### o.f = .. as a target among others -/
def gFld (K : Frag) (to : TE) (f : Str) : TG := fun v σ H Q => to σ H fun x H1 => ∃ a C dx fs, x = .ref a ∧ H1 a = some (.ins C dx fs) ∧ L2.Cls K C ∧ NoAttr K C f ∧ fs.length < 1000 ∧ Q σ (upd H1 a (.ins C dx (putF f v fs)))
theorem pg_fld {X : Cx} {o : Expr} {f : Str} {to : TE} {pos : Pos} (ho : PE X o to)
    (ha : ∀ v, assign (.Attribute o f pos) X.env v = (do
      let ov ← holding [v] (eval o X.env)
      standAt pos.atName
      holding [v, ov] (setAttr ov f v)
      release [v, ov] []) := by intro _; rfl) : PG X (.Attribute o f pos) (gFld X.K to f) := by
  refine ⟨fun pins s σ H v u Q I r h => ?_⟩
  rw [ha]
  refine wpAny_bind (wpAny_holding (thn (ho.run pins s σ H _ I h) fun ov s1 ⟨x, H1, I1, r1, a, C, dx, fs, ex, ea, c, n, l, q⟩ => ?_))
  subst ex
  obtain rfl : ov = Value.ref a := r1
  refine wpAny_bind (wpAny_standAt (wpAny_bind (wpAny_holding ?_)))
  exact setattr_ok I1 ea c n l r fun s3 I3 => wpAny_release ⟨σ, _, I3, q⟩
end DL
set_option maxHeartbeats 4000000
/-! P0: the places, names and scopes of the defs that the law reaches. -/
namespace K2
open PySem PySem.Spec L2 DL
open PyProof.Rows hiding St wpAt wpAt_bind wpAt_stack wpAt_mono
abbrev prg : Program := PySem.Challenge.pw_frametongue_k02_whole_trees_told_and_rea
abbrev topS (j : Nat) : Stmt := prg.main.body.getD j (.Pass ⟨0, 0, 0, 0⟩)
/-- the built-in names that the law's defs use -/
structure Nms (mg : Str → Option Value) : Prop where
  n_len : mg "len" = none
  n_int : mg "int" = none
  n_abs : mg "abs" = none
  n_range : mg "range" = none
  n_max : mg "max" = none
  n_min : mg "min" = none
  n_all : mg "all" = none
  n_isinstance : mg "isinstance" = none
  n_repr : mg "repr" = none
  n_str : mg "str" = none
  n_tuple : mg "tuple" = none
  n_bool : mg "bool" = none
  n_list : mg "list" = none
  n_enumerate : mg "enumerate" = none
  n_zip : mg "zip" = none
  n_dict : mg "dict" = none
abbrev s_is_whole : Stmt := topS 6
abbrev n_is_whole : List Str := ["value"]
theorem fs_is_whole : FnScope n_is_whole ["value"] (defScope s_is_whole) := ⟨rfl, rfl, rfl, by decide +kernel, rfl, by decide +kernel, by decide +kernel⟩
abbrev s_is_between : Stmt := topS 7
abbrev n_is_between : List Str := ["value", "least", "most"]
theorem fs_is_between : FnScope n_is_between ["value", "least", "most"] (defScope s_is_between) := ⟨rfl, rfl, rfl, by decide +kernel, rfl, by decide +kernel, by decide +kernel⟩
abbrev s_is_string : Stmt := topS 8
abbrev n_is_string : List Str := ["value"]
theorem fs_is_string : FnScope n_is_string ["value"] (defScope s_is_string) := ⟨rfl, rfl, rfl, by decide +kernel, rfl, by decide +kernel, by decide +kernel⟩
abbrev s_is_row : Stmt := topS 9
abbrev n_is_row : List Str := ["value", "least", "most"]
theorem fs_is_row : FnScope n_is_row ["value", "least", "most"] (defScope s_is_row) := ⟨rfl, rfl, rfl, by decide +kernel, rfl, by decide +kernel, by decide +kernel⟩
abbrev s_are_same : Stmt := topS 10
abbrev n_are_same : List Str := ["one", "two", "first", "other"]
theorem fs_are_same : FnScope n_are_same ["one", "two"] (defScope s_are_same) := ⟨rfl, rfl, rfl, by decide +kernel, rfl, by decide +kernel, by decide +kernel⟩
abbrev s_is_simple : Stmt := topS 11
abbrev n_is_simple : List Str := ["value"]
theorem fs_is_simple : FnScope n_is_simple ["value"] (defScope s_is_simple) := ⟨rfl, rfl, rfl, by decide +kernel, rfl, by decide +kernel, by decide +kernel⟩
abbrev s_wrong_sign : Stmt := topS 19
abbrev n_wrong_sign : List Str := ["row", "found", "at", "sign"]
theorem fs_wrong_sign : FnScope n_wrong_sign ["row"] (defScope s_wrong_sign) := ⟨rfl, rfl, rfl, by decide +kernel, rfl, by decide +kernel, by decide +kernel⟩
abbrev s_sort_of : Stmt := topS 20
abbrev n_sort_of : List Str := ["sign"]
theorem fs_sort_of : FnScope n_sort_of ["sign"] (defScope s_sort_of) := ⟨rfl, rfl, rfl, by decide +kernel, rfl, by decide +kernel, by decide +kernel⟩
abbrev s_row_words : Stmt := topS 21
abbrev n_row_words : List Str := ["row", "found", "at", "begin", "sort"]
theorem fs_row_words : FnScope n_row_words ["row"] (defScope s_row_words) := ⟨rfl, rfl, rfl, by decide +kernel, rfl, by decide +kernel, by decide +kernel⟩
abbrev s_is_run_of : Stmt := topS 22
abbrev n_is_run_of : List Str := ["text", "signs", "sign"]
theorem fs_is_run_of : FnScope n_is_run_of ["text", "signs"] (defScope s_is_run_of) := ⟨rfl, rfl, rfl, by decide +kernel, rfl, by decide +kernel, by decide +kernel⟩
abbrev s_is_any_name : Stmt := topS 23
abbrev n_is_any_name : List Str := ["text"]
theorem fs_is_any_name : FnScope n_is_any_name ["text"] (defScope s_is_any_name) := ⟨rfl, rfl, rfl, by decide +kernel, rfl, by decide +kernel, by decide +kernel⟩
abbrev s_is_name_word : Stmt := topS 24
abbrev n_is_name_word : List Str := ["text"]
theorem fs_is_name_word : FnScope n_is_name_word ["text"] (defScope s_is_name_word) := ⟨rfl, rfl, rfl, by decide +kernel, rfl, by decide +kernel, by decide +kernel⟩
abbrev s_is_any_number : Stmt := topS 25
abbrev n_is_any_number : List Str := ["text"]
theorem fs_is_any_number : FnScope n_is_any_number ["text"] (defScope s_is_any_number) := ⟨rfl, rfl, rfl, by decide +kernel, rfl, by decide +kernel, by decide +kernel⟩
abbrev s_is_number_word : Stmt := topS 26
abbrev n_is_number_word : List Str := ["text"]
theorem fs_is_number_word : FnScope n_is_number_word ["text"] (defScope s_is_number_word) := ⟨rfl, rfl, rfl, by decide +kernel, rfl, by decide +kernel, by decide +kernel⟩
abbrev s_is_name : Stmt := topS 35
abbrev n_is_name : List Str := ["value"]
theorem fs_is_name : FnScope n_is_name ["value"] (defScope s_is_name) := ⟨rfl, rfl, rfl, by decide +kernel, rfl, by decide +kernel, by decide +kernel⟩
abbrev s_is_headed : Stmt := topS 36
abbrev n_is_headed : List Str := ["value", "sizes"]
theorem fs_is_headed : FnScope n_is_headed ["value", "sizes"] (defScope s_is_headed) := ⟨rfl, rfl, rfl, by decide +kernel, rfl, by decide +kernel, by decide +kernel⟩
abbrev s_is_leaf : Stmt := topS 37
abbrev n_is_leaf : List Str := ["value"]
theorem fs_is_leaf : FnScope n_is_leaf ["value"] (defScope s_is_leaf) := ⟨rfl, rfl, rfl, by decide +kernel, rfl, by decide +kernel, by decide +kernel⟩
abbrev s_is_branch : Stmt := topS 38
abbrev n_is_branch : List Str := ["value"]
theorem fs_is_branch : FnScope n_is_branch ["value"] (defScope s_is_branch) := ⟨rfl, rfl, rfl, by decide +kernel, rfl, by decide +kernel, by decide +kernel⟩
abbrev s_has_tree_form : Stmt := topS 39
abbrev n_has_tree_form : List Str := ["value", "line", "at", "here"]
theorem fs_has_tree_form : FnScope n_has_tree_form ["value"] (defScope s_has_tree_form) := ⟨rfl, rfl, rfl, by decide +kernel, rfl, by decide +kernel, by decide +kernel⟩
abbrev s_parts_of : Stmt := topS 40
abbrev n_parts_of : List Str := ["tree"]
theorem fs_parts_of : FnScope n_parts_of ["tree"] (defScope s_parts_of) := ⟨rfl, rfl, rfl, by decide +kernel, rfl, by decide +kernel, by decide +kernel⟩
abbrev s_P_init : Stmt := inClass (topS 45) 0
abbrev n_P_init : List Str := ["self", "words"]
theorem fs_P_init : FnScope n_P_init ["self", "words"] (defScope s_P_init) := ⟨rfl, rfl, rfl, by decide +kernel, rfl, by decide +kernel, by decide +kernel⟩
abbrev s_P_word : Stmt := inClass (topS 45) 1
abbrev n_P_word : List Str := ["self"]
theorem fs_P_word : FnScope n_P_word ["self"] (defScope s_P_word) := ⟨rfl, rfl, rfl, by decide +kernel, rfl, by decide +kernel, by decide +kernel⟩
abbrev s_P_takes : Stmt := inClass (topS 45) 2
abbrev n_P_takes : List Str := ["self", "text"]
theorem fs_P_takes : FnScope n_P_takes ["self", "text"] (defScope s_P_takes) := ⟨rfl, rfl, rfl, by decide +kernel, rfl, by decide +kernel, by decide +kernel⟩
abbrev s_P_bound : Stmt := inClass (topS 45) 3
abbrev n_P_bound : List Str := ["self", "is_right"]
theorem fs_P_bound : FnScope n_P_bound ["self", "is_right"] (defScope s_P_bound) := ⟨rfl, rfl, rfl, by decide +kernel, rfl, by decide +kernel, by decide +kernel⟩
abbrev s_P_any_name : Stmt := inClass (topS 45) 4
abbrev n_P_any_name : List Str := ["self", "does", "text"]
theorem fs_P_any_name : FnScope n_P_any_name ["self", "does"] (defScope s_P_any_name) := ⟨rfl, rfl, rfl, by decide +kernel, rfl, by decide +kernel, by decide +kernel⟩
abbrev s_P_any_number : Stmt := inClass (topS 45) 5
abbrev n_P_any_number : List Str := ["self", "most", "text", "found"]
theorem fs_P_any_number : FnScope n_P_any_number ["self", "most"] (defScope s_P_any_number) := ⟨rfl, rfl, rfl, by decide +kernel, rfl, by decide +kernel, by decide +kernel⟩
abbrev s_P_sited : Stmt := inClass (topS 45) 6
abbrev n_P_sited : List Str := ["self", "tree", "begin", "parts"]
theorem fs_P_sited : FnScope n_P_sited ["self", "tree", "begin", "parts"] (defScope s_P_sited) := ⟨rfl, rfl, rfl, by decide +kernel, rfl, by decide +kernel, by decide +kernel⟩
abbrev s_P_any_sum : Stmt := inClass (topS 45) 7
abbrev n_P_any_sum : List Str := ["self", "begin", "is_turned", "found"]
theorem fs_P_any_sum : FnScope n_P_any_sum ["self"] (defScope s_P_any_sum) := ⟨rfl, rfl, rfl, by decide +kernel, rfl, by decide +kernel, by decide +kernel⟩
abbrev s_P_any_term : Stmt := inClass (topS 45) 8
abbrev n_P_any_term : List Str := ["self", "begin", "found"]
theorem fs_P_any_term : FnScope n_P_any_term ["self"] (defScope s_P_any_term) := ⟨rfl, rfl, rfl, by decide +kernel, rfl, by decide +kernel, by decide +kernel⟩
abbrev s_P_deed : Stmt := inClass (topS 45) 9
abbrev n_P_deed : List Str := ["self", "one", "begin", "read_other", "deed", "other"]
theorem fs_P_deed : FnScope n_P_deed ["self", "one", "begin", "read_other"] (defScope s_P_deed) := ⟨rfl, rfl, rfl, by decide +kernel, rfl, by decide +kernel, by decide +kernel⟩
abbrev s_P_any_power : Stmt := inClass (topS 45) 10
abbrev n_P_any_power : List Str := ["self", "begin", "found", "many"]
theorem fs_P_any_power : FnScope n_P_any_power ["self"] (defScope s_P_any_power) := ⟨rfl, rfl, rfl, by decide +kernel, rfl, by decide +kernel, by decide +kernel⟩
abbrev s_P_any_atom : Stmt := inClass (topS 45) 11
abbrev n_P_any_atom : List Str := ["self", "begin", "found", "name"]
theorem fs_P_any_atom : FnScope n_P_any_atom ["self"] (defScope s_P_any_atom) := ⟨rfl, rfl, rfl, by decide +kernel, rfl, by decide +kernel, by decide +kernel⟩
abbrev s_P_called : Stmt := inClass (topS 45) 12
abbrev n_P_called : List Str := ["self", "name", "begin", "at", "found", "own"]
theorem fs_P_called : FnScope n_P_called ["self", "name", "begin"] (defScope s_P_called) := ⟨rfl, rfl, rfl, by decide +kernel, rfl, by decide +kernel, by decide +kernel⟩
abbrev s_P_bracketed : Stmt := inClass (topS 45) 13
abbrev n_P_bracketed : List Str := ["self", "may_be_more", "found"]
theorem fs_P_bracketed : FnScope n_P_bracketed ["self", "may_be_more"] (defScope s_P_bracketed) := ⟨rfl, rfl, rfl, by decide +kernel, rfl, by decide +kernel, by decide +kernel⟩
abbrev s_P_whole_sum : Stmt := inClass (topS 45) 14
abbrev n_P_whole_sum : List Str := ["self", "found"]
theorem fs_P_whole_sum : FnScope n_P_whole_sum ["self"] (defScope s_P_whole_sum) := ⟨rfl, rfl, rfl, by decide +kernel, rfl, by decide +kernel, by decide +kernel⟩
abbrev s_P_any_row : Stmt := inClass (topS 45) 15
abbrev n_P_any_row : List Str := ["self", "head", "sited", "name"]
theorem fs_P_any_row : FnScope n_P_any_row ["self"] (defScope s_P_any_row) := ⟨rfl, rfl, rfl, by decide +kernel, rfl, by decide +kernel, by decide +kernel⟩
abbrev s_P_ended : Stmt := inClass (topS 45) 16
abbrev n_P_ended : List Str := ["self", "tree", "sited"]
theorem fs_P_ended : FnScope n_P_ended ["self", "tree", "sited"] (defScope s_P_ended) := ⟨rfl, rfl, rfl, by decide +kernel, rfl, by decide +kernel, by decide +kernel⟩
abbrev s_P_equal : Stmt := inClass (topS 45) 17
abbrev n_P_equal : List Str := ["self", "head", "begun", "sited"]
theorem fs_P_equal : FnScope n_P_equal ["self", "head", "begun"] (defScope s_P_equal) := ⟨rfl, rfl, rfl, by decide +kernel, rfl, by decide +kernel, by decide +kernel⟩
abbrev s_P_rule_row : Stmt := inClass (topS 45) 18
abbrev n_P_rule_row : List Str := ["self", "name", "found"]
theorem fs_P_rule_row : FnScope n_P_rule_row ["self", "name"] (defScope s_P_rule_row) := ⟨rfl, rfl, rfl, by decide +kernel, rfl, by decide +kernel, by decide +kernel⟩
abbrev s_R_init : Stmt := inClass (topS 46) 0
abbrev n_R_init : List Str := ["self", "word", "column", "told", "words", "names"]
theorem fs_R_init : FnScope n_R_init ["self", "word", "column", "told", "words", "names"] (defScope s_R_init) := ⟨rfl, rfl, rfl, by decide +kernel, rfl, by decide +kernel, by decide +kernel⟩
abbrev s_column_behind : Stmt := topS 47
abbrev n_column_behind : List Str := ["words", "at", "end"]
theorem fs_column_behind : FnScope n_column_behind ["words", "at", "end"] (defScope s_column_behind) := ⟨rfl, rfl, rfl, by decide +kernel, rfl, by decide +kernel, by decide +kernel⟩
abbrev s_read_by : Stmt := topS 48
abbrev n_read_by : List Str := ["row", "is_sum", "column", "words", "parser", "sited", "told"]
theorem fs_read_by : FnScope n_read_by ["row", "is_sum"] (defScope s_read_by) := ⟨rfl, rfl, rfl, by decide +kernel, rfl, by decide +kernel, by decide +kernel⟩
abbrev s_row_by : Stmt := topS 49
abbrev n_row_by : List Str := ["row"]
theorem fs_row_by : FnScope n_row_by ["row"] (defScope s_row_by) := ⟨rfl, rfl, rfl, by decide +kernel, rfl, by decide +kernel, by decide +kernel⟩
abbrev s_sum_by : Stmt := topS 50
abbrev n_sum_by : List Str := ["text"]
theorem fs_sum_by : FnScope n_sum_by ["text"] (defScope s_sum_by) := ⟨rfl, rfl, rfl, by decide +kernel, rfl, by decide +kernel, by decide +kernel⟩
abbrev s_at_least : Stmt := topS 56
abbrev n_at_least : List Str := ["told", "level"]
theorem fs_at_least : FnScope n_at_least ["told", "level"] (defScope s_at_least) := ⟨rfl, rfl, rfl, by decide +kernel, rfl, by decide +kernel, by decide +kernel⟩
abbrev s_deed_text : Stmt := topS 57
abbrev n_deed_text : List Str := ["deed", "one", "other", "level"]
theorem fs_deed_text : FnScope n_deed_text ["deed", "one", "other"] (defScope s_deed_text) := ⟨rfl, rfl, rfl, by decide +kernel, rfl, by decide +kernel, by decide +kernel⟩
abbrev s_leveled : Stmt := topS 58
abbrev n_leveled : List Str := ["tree", "part"]
theorem fs_leveled : FnScope n_leveled ["tree"] (defScope s_leveled) := ⟨rfl, rfl, rfl, by decide +kernel, rfl, by decide +kernel, by decide +kernel⟩
abbrev s_sum_text : Stmt := topS 59
abbrev n_sum_text : List Str := ["tree"]
theorem fs_sum_text : FnScope n_sum_text ["tree"] (defScope s_sum_text) := ⟨rfl, rfl, rfl, by decide +kernel, rfl, by decide +kernel, by decide +kernel⟩
abbrev s_check_text : Stmt := topS 61
abbrev n_check_text : List Str := ["value"]
theorem fs_check_text : FnScope n_check_text ["value"] (defScope s_check_text) := ⟨rfl, rfl, rfl, by decide +kernel, rfl, by decide +kernel, by decide +kernel⟩
abbrev s_own_tree : Stmt := topS 62
abbrev n_own_tree : List Str := ["read"]
theorem fs_own_tree : FnScope n_own_tree ["read"] (defScope s_own_tree) := ⟨rfl, rfl, rfl, by decide +kernel, rfl, by decide +kernel, by decide +kernel⟩
abbrev s_read_row : Stmt := topS 63
abbrev n_read_row : List Str := ["text"]
theorem fs_read_row : FnScope n_read_row ["text"] (defScope s_read_row) := ⟨rfl, rfl, rfl, by decide +kernel, rfl, by decide +kernel, by decide +kernel⟩
abbrev s_read_tree : Stmt := topS 64
abbrev n_read_tree : List Str := ["text"]
theorem fs_read_tree : FnScope n_read_tree ["text"] (defScope s_read_tree) := ⟨rfl, rfl, rfl, by decide +kernel, rfl, by decide +kernel, by decide +kernel⟩
abbrev s_is_tree : Stmt := topS 66
abbrev n_is_tree : List Str := ["value"]
theorem fs_is_tree : FnScope n_is_tree ["value"] (defScope s_is_tree) := ⟨rfl, rfl, rfl, by decide +kernel, rfl, by decide +kernel, by decide +kernel⟩
abbrev s_tree_text : Stmt := topS 67
abbrev n_tree_text : List Str := ["tree"]
theorem fs_tree_text : FnScope n_tree_text ["tree"] (defScope s_tree_text) := ⟨rfl, rfl, rfl, by decide +kernel, rfl, by decide +kernel, by decide +kernel⟩
abbrev s_law_purse : Stmt := topS 69
abbrev n_law_purse : List Str := ["cells", "at", "cell", "seed", "other"]
theorem fs_law_purse : FnScope n_law_purse ["cells", "at"] (defScope s_law_purse) := ⟨rfl, rfl, rfl, by decide +kernel, rfl, by decide +kernel, by decide +kernel⟩
abbrev s_law_take : Stmt := topS 70
abbrev n_law_take : List Str := ["draws", "many", "figures", "seed", "turn"]
theorem fs_law_take : FnScope n_law_take ["draws", "many"] (defScope s_law_take) := ⟨rfl, rfl, rfl, by decide +kernel, rfl, by decide +kernel, by decide +kernel⟩
abbrev s_law_pick : Stmt := topS 71
abbrev n_law_pick : List Str := ["draws", "some"]
theorem fs_law_pick : FnScope n_law_pick ["draws", "some"] (defScope s_law_pick) := ⟨rfl, rfl, rfl, by decide +kernel, rfl, by decide +kernel, by decide +kernel⟩
abbrev s_law_same : Stmt := topS 72
abbrev n_law_same : List Str := ["told", "due"]
theorem fs_law_same : FnScope n_law_same ["told", "due"] (defScope s_law_same) := ⟨rfl, rfl, rfl, by decide +kernel, rfl, by decide +kernel, by decide +kernel⟩
abbrev s_law_name_of : Stmt := topS 73
abbrev n_law_name_of : List Str := ["spec", "item", "own"]
theorem fs_law_name_of : FnScope n_law_name_of ["spec", "item", "own"] (defScope s_law_name_of) := ⟨rfl, rfl, rfl, by decide +kernel, rfl, by decide +kernel, by decide +kernel⟩
abbrev s_law_tree : Stmt := topS 74
abbrev n_law_tree : List Str := ["spec", "row", "own", "stack", "item"]
theorem fs_law_tree : FnScope n_law_tree ["spec", "row", "own"] (defScope s_law_tree) := ⟨rfl, rfl, rfl, by decide +kernel, rfl, by decide +kernel, by decide +kernel⟩
abbrev s_law_program : Stmt := topS 75
abbrev n_law_program : List Str := ["spec", "rows", "name", "sort", "names", "row"]
theorem fs_law_program : FnScope n_law_program ["spec"] (defScope s_law_program) := ⟨rfl, rfl, rfl, by decide +kernel, rfl, by decide +kernel, by decide +kernel⟩
abbrev s_law_within : Stmt := topS 76
abbrev n_law_within : List Str := ["part", "least"]
theorem fs_law_within : FnScope n_law_within ["part", "least"] (defScope s_law_within) := ⟨rfl, rfl, rfl, by decide +kernel, rfl, by decide +kernel, by decide +kernel⟩
abbrev s_law_row_text : Stmt := topS 77
abbrev n_law_row_text : List Str := ["spec", "row", "own", "stack", "item", "inner", "least", "left", "right", "part"]
theorem fs_law_row_text : FnScope n_law_row_text ["spec", "row", "own"] (defScope s_law_row_text) := ⟨rfl, rfl, rfl, by decide +kernel, rfl, by decide +kernel, by decide +kernel⟩
abbrev s_law_rows_text : Stmt := topS 78
abbrev n_law_rows_text : List Str := ["spec", "found", "name", "names", "row", "sort"]
theorem fs_law_rows_text : FnScope n_law_rows_text ["spec"] (defScope s_law_rows_text) := ⟨rfl, rfl, rfl, by decide +kernel, rfl, by decide +kernel, by decide +kernel⟩
abbrev s_law_text : Stmt := topS 79
abbrev n_law_text : List Str := ["spec", "row"]
theorem fs_law_text : FnScope n_law_text ["spec"] (defScope s_law_text) := ⟨rfl, rfl, rfl, by decide +kernel, rfl, by decide +kernel, by decide +kernel⟩
abbrev s_law_any : Stmt := topS 80
abbrev n_law_any : List Str := ["draws", "spec", "pieces", "lap", "way", "piece", "at", "own"]
theorem fs_law_any : FnScope n_law_any ["draws", "spec"] (defScope s_law_any) := ⟨rfl, rfl, rfl, by decide +kernel, rfl, by decide +kernel, by decide +kernel⟩
abbrev s_law_blank : Stmt := topS 81
abbrev n_law_blank : List Str := ["draws"]
theorem fs_law_blank : FnScope n_law_blank ["draws"] (defScope s_law_blank) := ⟨rfl, rfl, rfl, by decide +kernel, rfl, by decide +kernel, by decide +kernel⟩
abbrev s_law_glued : Stmt := topS 82
abbrev n_law_glued : List Str := ["draws", "words", "found", "word_here"]
theorem fs_law_glued : FnScope n_law_glued ["draws", "words"] (defScope s_law_glued) := ⟨rfl, rfl, rfl, by decide +kernel, rfl, by decide +kernel, by decide +kernel⟩
abbrev s_law_wrapped : Stmt := topS 83
abbrev n_law_wrapped : List Str := ["draws", "part", "least"]
theorem fs_law_wrapped : FnScope n_law_wrapped ["draws", "part", "least"] (defScope s_law_wrapped) := ⟨rfl, rfl, rfl, by decide +kernel, rfl, by decide +kernel, by decide +kernel⟩
abbrev s_law_loose_words : Stmt := topS 84
abbrev n_law_loose_words : List Str := ["draws", "spec", "row", "own", "stack", "item", "words", "part", "least", "left"]
theorem fs_law_loose_words : FnScope n_law_loose_words ["draws", "spec", "row", "own"] (defScope s_law_loose_words) := ⟨rfl, rfl, rfl, by decide +kernel, rfl, by decide +kernel, by decide +kernel⟩
abbrev s_law_loose_text : Stmt := topS 85
abbrev n_law_loose_text : List Str := ["draws", "spec", "rows", "name", "names", "row", "inner", "own", "sort", "words"]
theorem fs_law_loose_text : FnScope n_law_loose_text ["draws", "spec"] (defScope s_law_loose_text) := ⟨rfl, rfl, rfl, by decide +kernel, rfl, by decide +kernel, by decide +kernel⟩
abbrev s_law_is_read : Stmt := topS 86
abbrev n_law_is_read : List Str := ["draws", "spec", "row", "tree", "text", "both_told", "lap", "told"]
theorem fs_law_is_read : FnScope n_law_is_read ["draws", "spec", "row"] (defScope s_law_is_read) := ⟨rfl, rfl, rfl, by decide +kernel, rfl, by decide +kernel, by decide +kernel⟩
abbrev s_law_right : Stmt := topS 87
abbrev n_law_right : List Str := ["draws", "spec", "turn", "told", "due"]
theorem fs_law_right : FnScope n_law_right ["draws"] (defScope s_law_right) := ⟨rfl, rfl, rfl, by decide +kernel, rfl, by decide +kernel, by decide +kernel⟩
abbrev s_law : Stmt := topS 88
abbrev n_law : List Str := ["cells", "at"]
theorem fs_law : FnScope n_law ["cells"] (defScope s_law) := ⟨rfl, rfl, rfl, by decide +kernel, rfl, by decide +kernel, by decide +kernel⟩
end K2
set_option maxHeartbeats 4000000
/-! P2: what is kept; calls by name, of methods, of classes; the module's constants; the small defs over values and words. -/
namespace K2
open PySem PySem.Spec L2 DL
open PySem.W (Frag keepIn findIn typeIn subIn kitOne kitAny excIn)
open PyProof.Rows hiding St wpAt wpAt_bind wpAt_stack wpAt_mono
/-- what may change: lists and instances -/
def Ch : HO → Bool
  | .lst _ => true
  | .ins _ _ _ => true
  | _ => false
/-- all is kept but the lists and instances at D -/
def Kp (D : List Addr) (H H' : Hp) : Prop := ∀ b o, H b = some o → (Ch o = true → b ∉ D) → H' b = some o
section
variable {D D' : List Addr} {H H1 H2 H' : Hp} {a p : Addr} {o u : HO}
theorem Kp.refl : Kp D H H := fun _ _ e _ => e
theorem Kp.trans (h : Kp D H H1) (h' : Kp D H1 H2) : Kp D H H2 := fun b o e c => h' b o (h b o e c) c
theorem Kp.mono (h : Kp D H H') (s : ∀ b, b ∈ D → b ∈ D') : Kp D' H H' := fun b o e c => h b o e (fun z m => c z (s b m))
theorem Kp.of (h : Kp [] H H') : Kp D H H' := h.mono fun b m => absurd m (by simp)
theorem Kp.new (h : H p = none) : Kp D H (upd H p o) := fun b u e _ => by
  rw [upd_ne (ne_of_none e h)]
  exact e
theorem Kp.put (h : H a = some u) (c : Ch u = true) (m : a ∈ D) : Kp D H (upd H a o) := fun b v e k => by
  by_cases z : b = a
  · subst z
    rw [h] at e
    cases e
    exact absurd m (k c)
  · rw [upd_ne z]
    exact e
theorem Kp.same (h : Same H H') : Kp D H H' := fun b o e _ => h b o e
theorem Kp.at_ (h : Kp D H H') (e : H a = some o) (c : Ch o = false) : H' a = some o := h a o e (fun z => by rw [c] at z; cases z)
theorem Kp.tup {xs : List V} (h : Kp D H H') (e : H a = some (.tup xs)) : H' a = some (.tup xs) := h.at_ e rfl
theorem Kp.chg (h : Kp D H H') (e : H a = some o) (m : a ∉ D) : H' a = some o := h a o e (fun _ => m)
theorem Kp.lst {xs : List V} (h : Kp D H H') (e : H a = some (.lst xs)) (m : a ∉ D) : H' a = some (.lst xs) := h.chg e m
theorem Kp.ins {C dx : Addr} {fs : List (Str × V)} (h : Kp D H H') (e : H a = some (.ins C dx fs)) (m : a ∉ D) : H' a = some (.ins C dx fs) := h.chg e m
/-- past a place that was not there -/
theorem Kp.drop {y : Addr} (h : Kp (y :: D) H H') (n : H y = none) : Kp D H H' := fun b o e c => h b o e (fun q m => by
  rcases List.mem_cons.mp m with e2 | m
  · rw [e2, n] at e
    cases e
  · exact c q m)
theorem Kp.sq {K : Frag} {xs : List V} (h : Kp D H H') (e : SqT K H a xs) : SqT K H' a xs := by
  rcases e with e | e
  · rcases e with e | ⟨o, e⟩
    · exact .inl (.inl (h.tup e))
    · exact .inl (.inr ⟨o, h.at_ e rfl⟩)
  · exact .inr e
end
/-! ### constants -/
section
variable {X : Cx} {x z : Str} {n : Int} {pos : Pos}
theorem pe_gI (hg : Gl X x) (h : ∃ t, X.mg x = some (.int n t)) (hdb : (x == ("__debug__" : Str)) = false := by decide) : PE X (.Name x pos) (tC (.int n)) := by
  obtain ⟨t, h⟩ := h
  exact pe_glob (v := .int n) hg h ⟨_, rfl⟩ hdb
theorem pe_gS (hg : Gl X x) (h : ∃ t, X.mg x = some (.str z t)) (hdb : (x == ("__debug__" : Str)) = false := by decide) : PE X (.Name x pos) (tC (.str z)) := by
  obtain ⟨t, h⟩ := h
  exact pe_glob (v := .str z) hg h ⟨_, rfl⟩ hdb
end
def letters : Str := "abcdefghijklmnopqrstuvwxyz"
def figures : Str := "0123456789"
def others : Str := "+-*/^(),="
/-- the sizes by head -/
def sizesKv : List (Key × V) := [(Sum.inr "value", .int 2), (Sum.inr "name", .int 2), (Sum.inr "call", .int 3), (Sum.inr "minus", .int 2), (Sum.inr "+", .int 3), (Sum.inr "-", .int 3), (Sum.inr "*", .int 3), (Sum.inr "/", .int 3), (Sum.inr "power", .int 3)]
def deedsV : List V := [.str "+", .str "-", .str "*", .str "/"]
def headsV : List V := [.str "point", .str "arrow", .str "number"]
structure Cns (K : Frag) (w : World) (mg : Str → Option Value) (dD dG dS : Addr) : Prop where
  c_LETTERS : ∃ t, mg "LETTERS" = some (.str letters t)
  c_FIGURES : ∃ t, mg "FIGURES" = some (.str figures t)
  c_OTHERS : ∃ t, mg "OTHERS" = some (.str others t)
  c_BLANK : ∃ t, mg "BLANK" = some (.str " " t)
  c_MOST_LETTERS : ∃ t, mg "MOST_LETTERS" = some (.int 8 t)
  c_MOST_FIGURES : ∃ t, mg "MOST_FIGURES" = some (.int 6 t)
  c_MOST_PLACES : ∃ t, mg "MOST_PLACES" = some (.int 40 t)
  c_MOST_NUMBER : ∃ t, mg "MOST_NUMBER" = some (.int 999999 t)
  c_MOST_POWER : ∃ t, mg "MOST_POWER" = some (.int 4 t)
  c_MOST_OWN : ∃ t, mg "MOST_OWN" = some (.int 3 t)
  c_MOST_DEEP : ∃ t, mg "MOST_DEEP" = some (.int 12 t)
  c_SUM : ∃ t, mg "SUM" = some (.int 0 t)
  c_TERM : ∃ t, mg "TERM" = some (.int 1 t)
  c_POWER : ∃ t, mg "POWER" = some (.int 2 t)
  c_ATOM : ∃ t, mg "ATOM" = some (.int 3 t)
  c_SIGN : ∃ t, mg "SIGN" = some (.str "sign" t)
  c_FORM : ∃ t, mg "FORM" = some (.str "form" t)
  c_DEEDS : mg "DEEDS" = some (.ref dD)
  k_DEEDS : ∀ H, SqT K H dD deedsV
  c_GIVEN_HEADS : mg "GIVEN_HEADS" = some (.ref dG)
  k_GIVEN_HEADS : ∀ H, SqT K H dG headsV
  c_SIZES : mg "SIZES" = some (.ref dS)
  k_SIZES : DictK K prg w dS sizesKv
/-! ### methods, classes, keywords -/
structure ClM (P : Program) (w : World) (K : Frag) (mg : Str → Option Value) (base : Heap) (k : Nat) (C : Addr) (m : Str) (sp : Sp) (dvs : List V) : Prop where
  ex : ∃ (f : Addr) (fd : FuncData) (ps : List Str) (ds : List Value), L2.Meth K C m f ∧ FnOk P w K mg base CX0 k f fd ps sp ∧ L2.Binds K fd ps ds ∧ Vals dvs ds
structure ClI (P : Program) (w : World) (K : Frag) (mg : Str → Option Value) (base : Heap) (k : Nat) (x : Str) (C : Addr) (sp : Sp) : Prop where
  ex : ∃ (f : Addr) (fd : FuncData) (ps : List Str), L2.Mk K C f ∧ FnOk P w K mg base CX0 k f fd ps sp ∧ L2.Binds K fd ps [] ∧ mg x = some (.ref C)
/-- a def called by one keyword -/
structure ClK (P : Program) (w : World) (K : Frag) (mg : Str → Option Value) (base : Heap) (k : Nat) (x y : Str) (sp : Sp) : Prop where
  ex : ∃ (f : Addr) (fd : FuncData), FnOk P w K mg base CX0 k f fd [y] sp ∧ mg x = some (.ref f) ∧ keepIn K (.ref f) = true ∧ ∀ (s : Shared) (u : Value), BindsTo s fd ⟨[], [(y, u)]⟩ [(y, u)]
section
variable {X : Cx} {j k : Nat} {sp : Sp} {dvs : List V} {C : Addr} {m x : Str} {o e : Expr} {es : List Expr} {ta : TE} {t : TA} {p apos pos : Pos} {pl : Sem Bool}
theorem pe_clm (c : ClM X.prog X.w X.K X.mg X.base k C m sp dvs) (cl : L2.Cls X.K C) (hr : Room j X.A) (hk : k ≤ j) (ho : PE X o ta) (ha : PA X (e :: es) t)
    (hst : starEach (e :: es) X.env = (false, eval e X.env) :: starEach es X.env := by rfl) (hpl : (backTo pos (starEach es X.env)).any (·.1) = false := by rfl)
    (ht : eval (.Call (.Attribute o m apos) (e :: es) [] pos) X.env = (do
      let ov ← eval o X.env
      standAt apos.atName
      let (f, first) ← holding [ov] (getMethod ov m pl)
      callWith pos f first (backTo pos (starEach (e :: es) X.env)) (backToKw pos (keywordEach [] X.env))) := by rfl) : PE X (.Call (.Attribute o m apos) (e :: es) [] pos) (tMeth C m sp dvs E0 ta t) := by
  obtain ⟨f, fd, ps, ds, hm, F, b, d⟩ := c.ex
  exact pe_meth ho cl hm F (hr.mono hk) b d pass0 ha hst hpl ht
theorem pe_clm0 (c : ClM X.prog X.w X.K X.mg X.base k C m sp dvs) (cl : L2.Cls X.K C) (hr : Room j X.A) (hk : k ≤ j) (ho : PE X o ta)
    (ht : eval (.Call (.Attribute o m apos) [] [] pos) X.env = (do
      let ov ← eval o X.env
      standAt apos.atName
      let (f, first) ← holding [ov] (getMethod ov m pl)
      callWith pos f first (backTo pos (starEach [] X.env)) (backToKw pos (keywordEach [] X.env))) := by rfl) : PE X (.Call (.Attribute o m apos) [] [] pos) (tMeth C m sp dvs E0 ta tNil) := by
  obtain ⟨f, fd, ps, ds, hm, F, b, d⟩ := c.ex
  exact pe_meth0 ho cl hm F (hr.mono hk) b d pass0 ht
theorem pe_mk (c : ClI X.prog X.w X.K X.mg X.base k x C sp) (hr : Room j X.A) (hk : k + 1 ≤ j) (hg : Gl X x) (ha : PA X (e :: es) t)
    (hdb : (x == ("__debug__" : Str)) = false := by decide) (he : starEach (e :: es) X.env = (false, eval e X.env) :: starEach es X.env := by rfl) (hpl : (backTo pos (starEach es X.env)).any (·.1) = false := by rfl) :
    PE X (.Call (.Name x p) (e :: es) [] pos) (tMake C sp [] E0 t) := by
  obtain ⟨f, fd, ps, M, F, b, hm⟩ := c.ex
  exact pe_make M F (hr.mono hk) hg hm b .nil pass0 ha hdb he hpl
variable {y : Str} {kpos : Pos}
theorem pe_cloK0 (c : ClK X.prog X.w X.K X.mg X.base k x y sp) (hr : Room j X.A) (hk : k ≤ j) (hg : Gl X x) (ha : PK X [⟨some y, e, kpos⟩] t)
    (hall : (backToKw pos (keywordEach [⟨some y, e, kpos⟩] X.env)).all (·.1.isSome) = true := by rfl) (hks : (backToKw pos (keywordEach [⟨some y, e, kpos⟩] X.env)).filterMap (·.1) = [y] := by rfl) (hdb : (x == ("__debug__" : Str)) = false := by decide)
    (hpl : ((backTo pos (starEach [] X.env)).any (·.1) || (backToKw pos (keywordEach [⟨some y, e, kpos⟩] X.env)).any (·.1.isNone)) = false := by rfl) :
    PE X (.Call (.Name x p) [] [⟨some y, e, kpos⟩] pos) (fun σ H Q => t σ H fun vs H1 => ∃ v, vs = [v] ∧ sp [v] H1 Q E0) := by
  refine ⟨fun pins s σ H Q I h => ?_⟩
  obtain ⟨f, fd, F, hm, kp, bnd⟩ := c.ex
  refine wpAny_Call_Name_kw (ld_glob I hg hm ?_ hdb)
  refine PySem.W.callWith_KW0 (h₀ := X.base) I.ok.mod.kin kp hall (thn (ha.run pos pins s σ H _ I h) fun us s1 ⟨vs, H1, I1, r1, v, ev, q⟩ => ⟨I1.kIn, ?_⟩) hpl
  rw [hks]
  subst ev
  obtain ⟨u, rfl, ru⟩ := r1.one
  refine wpAny_call (codeAny_mono (F.run X.A X.stack s1 H1 ⟨[], [(y, u)]⟩ [u] [v] Q E0 (hr.mono hk) I1.env0 (bnd s1 u) (.cons ru .nil) q) fun r s' hq => ?_)
  match r, hq with
  | .error e, hq => exact hq.elim
  | .ok (.ret u), hq => exact I1.after hq
/-- str of an int or of a text -/
theorem call_strX : CallR X (.type "str") (fun xs H Q => (∃ i, xs = [.int i] ∧ i.natAbs.log2 < 1920 ∧ Q (.str (toString i)) H) ∨ ∃ a, xs = [.str a] ∧ Q (.str a) H) := by
  intro pins s σ H xs us Q I r h
  rcases h with h | h
  · exact call_str_int pins s σ H xs us Q I r h
  · exact SkE.call_str_str pins s σ H xs us Q I r h
end
/-- a comprehension's loop over n items -/
theorem lc_any {J : It} (n : Nat) {g : TG} {tt : TT} {te : TE} {vs : List Nat} {σ : L2.St} {H1 : Hp} {D : Addr} {Qd : Hp → Prop} (Pv : Nat → Hp → Prop) (h0 : Pv 0 (upd H1 D (.lst []))) (hgo : ∀ i H, i < n → Pv i H → J.go i H) (hst : ∀ H, Pv n H → J.stop n H)
    (hs : ∀ i x H H', i < n → Pv i H → J.yld i H x H' → g x (wipe σ vs) H' fun σ2 H2 => wipe σ2 vs = wipe σ vs ∧ tt σ2 H2 fun b H3 =>
      if b = true then te σ2 H3 fun y H4 => ∃ acc, H4 D = some (.lst acc) ∧ acc.length < sizeLine ∧ Pv (i + 1) (upd H4 D (.lst (acc ++ [y]))) else Pv (i + 1) H3) (hd : ∀ H, Pv n H → Qd H) :
    ∃ W : Nat → Nat → Hp → Prop, (∃ m, W 0 m (upd H1 D (.lst []))) ∧ ∀ i m H, W i m H →
      (J.stop i H ∧ Qd H) ∨ (J.go i H ∧ ∃ Nx : Hp → Prop, (∀ H', Nx H' → ∃ m', m' < m ∧ W (i + 1) m' H') ∧ ∀ x H', J.yld i H x H' → g x (wipe σ vs) H' fun σ2 H2 => wipe σ2 vs = wipe σ vs ∧ tt σ2 H2 fun b H3 =>
        if b = true then te σ2 H3 fun y H4 => ∃ acc, H4 D = some (.lst acc) ∧ acc.length < sizeLine ∧ Nx (upd H4 D (.lst (acc ++ [y]))) else Nx H3) := by
  refine ⟨fun i m H => m + i = n ∧ Pv i H, ⟨n, rfl, h0⟩, fun i m H ⟨hm, p⟩ => ?_⟩
  cases m with
  | zero =>
    rw [Nat.zero_add] at hm
    subst hm
    exact .inl ⟨hst H p, hd H p⟩
  | succ m =>
    have lt : i < n := by omega
    exact .inr ⟨hgo i H lt p, Pv (i + 1), fun H' q => ⟨m, Nat.lt_succ_self _, by omega, q⟩, fun x H' y => hs i x H H' lt p y⟩
/-! ### the small defs -/
/-- a value whose type is not T -/
def runB (x z : Str) : Bool := !decide (x = Str.empty) && x.cps.toList.all fun c => decide (c ∈ z.cps.toList)
def isNm (x : Str) : Bool := runB x letters
def isNu (x : Str) : Bool := runB x figures
def nmOk (x : Str) : Bool := isNm x && decide (x.length ≤ 8)
def nuOk (x : Str) : Bool := isNu x && (decide (x.length ≤ 6) && (!decide (x.cps.toList[0]? = some 48) || decide (x = "0")))
def spIntT : Sp := fun vs H Q _ => ∃ i : Int, vs = [.int i] ∧ Q (.bl true) H
def spBetween : Sp := fun vs H Q _ => ∃ i l m : Int, vs = [.int i, .int l, .int m] ∧ Q (.bl (decide (l ≤ i) && decide (i ≤ m))) H
def spStrT : Sp := fun vs H Q _ => ∃ x : Str, vs = [.str x] ∧ Q (.bl true) H
def spRowT : Sp := fun vs H Q _ => ∃ (p : Addr) (xs : List V) (l m : Int), vs = [.ref p, .int l, .int m] ∧ H p = some (.tup xs) ∧ Q (.bl (decide (l ≤ xs.length) && decide ((xs.length : Int) ≤ m))) H
def spRun : Sp := fun vs H Q _ => ∃ x z : Str, vs = [.str x, .str z] ∧ x.length ≤ 100000 ∧ ∀ H', Kp [] H H' → Q (.bl (runB x z)) H'
def spWord (f : Str → Bool) : Sp := fun vs H Q _ => ∃ x : Str, vs = [.str x] ∧ x.length ≤ 100000 ∧ ∀ H', Kp [] H H' → Q (.bl (f x)) H'
theorem kit_same {K : Frag} {T : String} : kitOne K (.type T) (.type T) = some true := kit_ty (by unfold kitB; simp)
section
variable {w : World} {K : Frag} {mg : Str → Option Value} {base : Heap} {f : Addr} {fd : FuncData} {dD dG dS : Addr}
theorem ok_is_whole (F : L2.Fun K "is_whole" "is_whole" s_is_whole f fd) (T : Nms mg) : FnOk prg w K mg base CX0 1 f fd ["value"] spIntT := by
  have S := fs_is_whole
  refine F.ok S (fun vs H Q E h => by obtain ⟨x, rfl, _⟩ := h; rfl) fun cdv A outer s H vs Q E hr hsp => ?_
  obtain ⟨i, rfl, q⟩ := hsp
  refine ⟨_, (pss_one (ps_ret (pe_and (pe_callB call_isi (by rfl) T.n_isinstance (by decide +kernel) (pa_cons (pv 0) (pa_cons (pe_bltn (v := .ty "int") rfl T.n_int (by decide +kernel) rfl) pa_nil))) (pe_one (pe_not (pe_callB call_isi (by rfl) T.n_isinstance (by decide +kernel) (pa_cons (pv 0) (pa_cons (pe_bltn (v := .ty "bool") rfl T.n_bool (by decide +kernel) rfl) pa_nil)))))))), ?_⟩
  exact ⟨_, rfl, .int i, .ty "int", _, _, true, rfl, .ty _, .base (.int i), kit_same, true, rfl, _, rfl, .int i, .ty "bool", _, _, false, rfl, .ty _, .base (.int i), kit_ty (by decide +kernel), false, rfl, q⟩
theorem ok_is_between (F : L2.Fun K "is_between" "is_between" s_is_between f fd) (c_is_whole : ClO prg w K mg base CX0 1 "is_whole" spIntT []) : FnOk prg w K mg base CX0 2 f fd ["value", "least", "most"] spBetween := by
  have S := fs_is_between
  refine F.ok S (fun vs H Q E h => by obtain ⟨x, _, _, rfl, _⟩ := h; rfl) fun cdv A outer s H vs Q E hr hsp => ?_
  obtain ⟨i, l, m, rfl, q⟩ := hsp
  refine ⟨_, (pss_one (ps_ret (pe_and (pe_clo c_is_whole hr (by decide) rfl (pa_cons (pv 0) pa_nil)) (pe_one (pe_chain op_le op_le (pv 1) (pv 0) (pv 2)))))), ?_⟩
  refine ⟨_, rfl, i, rfl, true, rfl, _, rfl, _, rfl, l, i, rfl, rfl, _, rfl, ?_⟩
  by_cases h : l ≤ i
  · rw [decide_eq_true h] at q ⊢
    exact ⟨_, rfl, _, _, rfl, rfl, q⟩
  · rw [decide_eq_false h] at q ⊢
    exact q
theorem ok_is_string (F : L2.Fun K "is_string" "is_string" s_is_string f fd) (T : Nms mg) : FnOk prg w K mg base CX0 1 f fd ["value"] spStrT := by
  have S := fs_is_string
  refine F.ok S (fun vs H Q E h => by obtain ⟨x, rfl, _⟩ := h; rfl) fun cdv A outer s H vs Q E hr hsp => ?_
  obtain ⟨x, rfl, q⟩ := hsp
  refine ⟨_, (pss_one (ps_ret (pe_callB call_isi (by rfl) T.n_isinstance (by decide +kernel) (pa_cons (pv 0) (pa_cons (pe_bltn (v := .ty "str") rfl T.n_str (by decide +kernel) rfl) pa_nil))))), ?_⟩
  exact ⟨_, rfl, .str x, .ty "str", _, _, true, rfl, .ty _, .base (.str x), kit_same, q⟩
theorem ok_is_row (F : L2.Fun K "is_row" "is_row" s_is_row f fd) (T : Nms mg) : FnOk prg w K mg base CX0 1 f fd ["value", "least", "most"] spRowT := by
  have S := fs_is_row
  refine F.ok S (fun vs H Q E h => by obtain ⟨x, _, _, _, rfl, _⟩ := h; rfl) fun cdv A outer s H vs Q E hr hsp => ?_
  obtain ⟨p, xs, l, m, rfl, hp, q⟩ := hsp
  refine ⟨_, (pss_one (ps_ret (pe_and (pe_callB call_isi (by rfl) T.n_isinstance (by decide +kernel) (pa_cons (pv 0) (pa_cons (pe_bltn (v := .ty "tuple") rfl T.n_tuple (by decide +kernel) rfl) pa_nil))) (pe_one (pe_chain op_le op_le (pv 1) (pe_callB call_len_seq (by rfl) T.n_len (by decide +kernel) (pa_cons (pv 0) pa_nil)) (pv 2)))))), ?_⟩
  refine ⟨_, rfl, .ref p, .ty "tuple", _, _, true, rfl, .ty _, .base (.tup hp), kit_same, true, rfl, ?_⟩
  refine ⟨_, rfl, _, rfl, p, xs, rfl, .inr (SqT.of hp), l, _, rfl, rfl, _, rfl, ?_⟩
  by_cases h : l ≤ (xs.length : Int)
  · rw [decide_eq_true h] at q ⊢
    exact ⟨_, rfl, _, _, rfl, rfl, q⟩
  · rw [decide_eq_false h] at q ⊢
    exact q
theorem ok_is_run_of (F : L2.Fun K "is_run_of" "is_run_of" s_is_run_of f fd) (T : Nms mg) : FnOk prg w K mg base CX0 1 f fd ["text", "signs"] spRun := by
  have S := fs_is_run_of
  refine F.ok S (fun vs H Q E h => by obtain ⟨x, _, rfl, _⟩ := h; rfl) fun cdv A outer s H vs Q E hr hsp => ?_
  obtain ⟨x, z, rfl, hl, q⟩ := hsp
  refine ⟨_, (pss_one (ps_ret (pe_and (pe_cmpR op_ne (pv 0) pe_str (nomark _)) (pe_one (pe_callB (cr_all (by rfl)) (by rfl) T.n_all (by decide +kernel) (pa_cons (pe_lc (own := [("sign", 2)]) (g := gName 2) (tt := tYes) (by rfl) S.nd (pi_str (pv 0)) (blkOk_by (own := [("sign", 2)]) (N := n_is_run_of) (sc := defScope s_is_run_of) (by decide +kernel)) (fun _ _ _ _ _ => (pg_name (i := 2) S.nd rfl (Or.inl rfl))) (fun _ _ _ _ _ => pts_nil) (fun _ _ _ _ _ => (pe_cmpR op_inS (pv 2) (pv 1) rfl))) pa_nil)))))), ?_⟩
  refine ⟨_, rfl, rfl, _, rfl, ?_⟩
  by_cases hx : x = Str.empty
  · have e0 : decide ((V.str x) = V.str "") = true := by rw [hx]; decide +kernel
    rw [e0]
    have z := q H Kp.refl
    have e1 : runB x ‹_› = false := by unfold runB; rw [decide_eq_true hx]; rfl
    rw [e1] at z
    exact z
  · have e0 : decide ((V.str x) = V.str "") = false := decide_eq_false fun e => hx (by cases e; rfl)
    rw [e0]
    refine ⟨_, rfl, x, rfl, fun D nD => ?_⟩
    have sl : sizeLine = 16777216 := sizeLine_eq
    have hl' : x.cps.size ≤ 100000 := hl
    refine lc_any x.cps.size (fun i Hb => Kp [D] H Hb ∧ Hb D = some (.lst (((x.cps.toList.take i).map fun c => decide (c ∈ z.cps.toList)).map V.bl))) ⟨Kp.new nD, upd_same⟩ (fun i Hb hi _ => hi) (fun Hb _ => Nat.le_refl _) (fun i v Hb Hb' hi h y => ?_) fun Hb h => ?_
    · obtain ⟨rfl, c, hc, rfl⟩ := y
      refine ⟨rfl, _, rfl, _, rfl, c, z, rfl, rfl, _, h.2, ?_, h.1.trans (Kp.put h.2 rfl (by simp)), ?_⟩
      · rw [List.length_map, List.length_map, List.length_take]
        omega
      · rw [upd_same]
        have hc' : x.cps.toList[i]? = some c := by simpa using hc
        rw [List.take_add_one, hc']
        simp
    · refine ⟨D, _, rfl, SqL.of h.2, ?_⟩
      have e : (((x.cps.toList.take x.cps.size).map fun c => decide (c ∈ z.cps.toList)).all id) = runB x z := by
        unfold runB
        rw [decide_eq_false hx, show x.cps.size = x.cps.toList.length by simp, List.take_length, List.all_map]
        rfl
      rw [e]
      exact q _ (h.1.drop nD)
end
end K2
set_option maxHeartbeats 4000000
/-! P3: words. -/
namespace K2
open PySem PySem.Spec L2 DL
open PySem.W (Frag keepIn findIn typeIn subIn kitOne kitAny excIn)
open PyProof.Rows hiding St wpAt wpAt_bind wpAt_stack wpAt_mono
/-- the sort of a sign -/
def srt (c : Nat) : Str := if c ∈ letters.cps.toList then "name" else if c ∈ figures.cps.toList then "number" else "sign"
def okC (c : Nat) : Bool := decide (c ∈ (letters ++ figures ++ others ++ " ").cps.toList)
/-- a row's signs, and its words -/
inductive Spd : List Nat → List Str → Prop
  | nil : Spd [] []
  | blank {cs : List Nat} {ws : List Str} : Spd cs ws → Spd (32 :: cs) ws
  | sign {c : Nat} {cs : List Nat} {ws : List Str} : srt c = "sign" → c ≠ 32 → Spd cs ws → Spd (c :: cs) (⟨#[c]⟩ :: ws)
  | word {c : Nat} {w cs : List Nat} {ws : List Str} : srt c ≠ "sign" → (∀ d ∈ w, srt d = srt c) → (∀ d, cs.head? = some d → srt d ≠ srt c) → Spd cs ws → Spd (c :: (w ++ cs)) (⟨(c :: w).toArray⟩ :: ws)
def spSort : Sp := fun vs H Q _ => ∃ c : Nat, vs = [.str ⟨#[c]⟩] ∧ Q (.str (srt c)) H
def spWrong : Sp := fun vs H Q _ => ∃ x : Str, vs = [.str x] ∧ x.length ≤ 100000 ∧ (∀ c ∈ x.cps.toList, okC c = true) ∧ ∀ H', Kp [] H H' → Q .non H'
/-- a word's place -/
def WordAt (H : Hp) (t : Addr) (w : Str) : Prop := ∃ b e : Int, H t = some (.tup [.str w, .int b, .int e])
inductive WordsAt (H : Hp) : List Addr → List Str → Prop
  | nil : WordsAt H [] []
  | cons {t : Addr} {w : Str} {ts : List Addr} {ws : List Str} : WordAt H t w → WordsAt H ts ws → WordsAt H (t :: ts) (w :: ws)
theorem WordsAt.kp {H H' : Hp} {D : List Addr} (k : Kp D H H') : ∀ {ts : List Addr} {ws : List Str}, WordsAt H ts ws → WordsAt H' ts ws
  | _, _, .nil => .nil
  | _, _, .cons ⟨b, e, h⟩ r => .cons ⟨b, e, k.tup h⟩ (r.kp k)
theorem WordsAt.snoc {H : Hp} {t : Addr} {w : Str} (h : WordAt H t w) : ∀ {ts : List Addr} {ws : List Str}, WordsAt H ts ws → WordsAt H (ts ++ [t]) (ws ++ [w])
  | _, _, .nil => .cons h .nil
  | _, _, .cons a r => .cons a (r.snoc h)
theorem WordsAt.length {H : Hp} : ∀ {ts : List Addr} {ws : List Str}, WordsAt H ts ws → ts.length = ws.length
  | _, _, .nil => rfl
  | _, _, .cons _ r => congrArg (· + 1) r.length
theorem WordsAt.get {H : Hp} : ∀ {ts : List Addr} {ws : List Str} (i : Nat) {w : Str}, WordsAt H ts ws → ws[i]? = some w → ∃ t, ts[i]? = some t ∧ WordAt H t w
  | _, _, _, _, .nil, h => by simp at h
  | _, _, 0, w, .cons (t := t) a r, h => ⟨t, rfl, by cases h; exact a⟩
  | _, _, i + 1, w, .cons (t := t) a r, h => r.get i h
def spWords : Sp := fun vs H Q _ => ∃ (x : Str) (ws : List Str), vs = [.str x] ∧ x.length ≤ 100000 ∧ Spd x.cps.toList ws ∧ ∀ H' p ts, Kp [] H H' → H p = none → H' p = some (.lst (ts.map V.ref)) → WordsAt H' ts ws → Q (.ref p) H'
section
variable {w : World} {K : Frag} {mg : Str → Option Value} {base : Heap} {f : Addr} {fd : FuncData} {dD dG dS : Addr}
theorem ok_is_any_name (F : L2.Fun K "is_any_name" "is_any_name" s_is_any_name f fd) (Z : Cns K w mg dD dG dS) (c_is_run_of : ClO prg w K mg base CX0 1 "is_run_of" spRun []) : FnOk prg w K mg base CX0 2 f fd ["text"] (spWord isNm) := by
  have S := fs_is_any_name
  refine F.ok S (fun vs H Q E h => by obtain ⟨x, rfl, _⟩ := h; rfl) fun cdv A outer s H vs Q E hr hsp => ?_
  obtain ⟨x, rfl, hl, q⟩ := hsp
  exact ⟨_, (pss_one (ps_ret (pe_clo c_is_run_of hr (by decide) rfl (pa_cons (pv 0) (pa_cons (pe_gS rfl Z.c_LETTERS) pa_nil))))), _, rfl, x, letters, rfl, hl, q⟩
theorem ok_is_any_number (F : L2.Fun K "is_any_number" "is_any_number" s_is_any_number f fd) (Z : Cns K w mg dD dG dS) (c_is_run_of : ClO prg w K mg base CX0 1 "is_run_of" spRun []) : FnOk prg w K mg base CX0 2 f fd ["text"] (spWord isNu) := by
  have S := fs_is_any_number
  refine F.ok S (fun vs H Q E h => by obtain ⟨x, rfl, _⟩ := h; rfl) fun cdv A outer s H vs Q E hr hsp => ?_
  obtain ⟨x, rfl, hl, q⟩ := hsp
  exact ⟨_, (pss_one (ps_ret (pe_clo c_is_run_of hr (by decide) rfl (pa_cons (pv 0) (pa_cons (pe_gS rfl Z.c_FIGURES) pa_nil))))), _, rfl, x, figures, rfl, hl, q⟩
theorem dec_le (n m : Nat) : decide (((n : Nat) : Int) ≤ (m : Nat)) = decide (n ≤ m) := by by_cases h : n ≤ m <;> simp [h] <;> omega
theorem ok_is_name_word (F : L2.Fun K "is_name_word" "is_name_word" s_is_name_word f fd) (T : Nms mg) (Z : Cns K w mg dD dG dS) (c_is_any_name : ClO prg w K mg base CX0 2 "is_any_name" (spWord isNm) []) : FnOk prg w K mg base CX0 3 f fd ["text"] (spWord nmOk) := by
  have S := fs_is_name_word
  refine F.ok S (fun vs H Q E h => by obtain ⟨x, rfl, _⟩ := h; rfl) fun cdv A outer s H vs Q E hr hsp => ?_
  obtain ⟨x, rfl, hl, q⟩ := hsp
  refine ⟨_, (pss_one (ps_ret (pe_and (pe_clo c_is_any_name hr (by decide) rfl (pa_cons (pv 0) pa_nil)) (pe_one (pe_cmpR op_le (pe_callB call_len_str (by rfl) T.n_len (by decide +kernel) (pa_cons (pv 0) pa_nil)) (pe_gI rfl Z.c_MOST_LETTERS) (nomark _)))))), ?_⟩
  refine ⟨_, rfl, x, rfl, hl, fun H1 k1 => ⟨_, rfl, ?_⟩⟩
  have z := q H1 k1
  have sl : sizeLine = 16777216 := sizeLine_eq
  unfold nmOk at z
  by_cases h : isNm x = true
  · rw [h] at z ⊢
    refine ⟨_, rfl, x, rfl, by omega, _, _, rfl, rfl, ?_⟩
    show Q (.bl (decide (((x.length : Nat) : Int) ≤ (8 : Nat)))) H1
    rw [dec_le _ 8]
    exact z
  · rw [Bool.not_eq_true] at h
    rw [h] at z ⊢
    exact z
theorem ok_is_number_word (F : L2.Fun K "is_number_word" "is_number_word" s_is_number_word f fd) (T : Nms mg) (Z : Cns K w mg dD dG dS) (c_is_any_number : ClO prg w K mg base CX0 2 "is_any_number" (spWord isNu) []) : FnOk prg w K mg base CX0 3 f fd ["text"] (spWord nuOk) := by
  have S := fs_is_number_word
  refine F.ok S (fun vs H Q E h => by obtain ⟨x, rfl, _⟩ := h; rfl) fun cdv A outer s H vs Q E hr hsp => ?_
  obtain ⟨x, rfl, hl, q⟩ := hsp
  refine ⟨_, (pss_one (ps_ret (pe_and (pe_clo c_is_any_number hr (by decide) rfl (pa_cons (pv 0) pa_nil)) (pe_and (pe_cmpR op_le (pe_callB call_len_str (by rfl) T.n_len (by decide +kernel) (pa_cons (pv 0) pa_nil)) (pe_gI rfl Z.c_MOST_FIGURES) (nomark _)) (pe_one (pe_or (pe_cmpR op_ne (pe_ix ix_str (pv 0) pe_int (fun _ _ => rfl)) pe_str (nomark _)) (pe_one (pe_cmpR op_eq (pv 0) pe_str (nomark _))))))))), ?_⟩
  refine ⟨_, rfl, x, rfl, hl, fun H1 k1 => ⟨_, rfl, ?_⟩⟩
  have z := q H1 k1
  have sl : sizeLine = 16777216 := sizeLine_eq
  unfold nuOk at z
  by_cases h : isNu x = true
  · rw [h] at z ⊢
    rw [Bool.true_and] at z
    refine ⟨_, rfl, x, rfl, by omega, _, _, rfl, rfl, decide (((x.length : Nat) : Int) ≤ (6 : Nat)), rfl, ?_⟩
    rw [dec_le _ 6]
    by_cases h6 : x.length ≤ 6
    · rw [decide_eq_true h6] at z ⊢
      rw [Bool.true_and] at z
      have ne : x ≠ Str.empty := fun e => by
        rw [e] at h
        exact absurd h (by decide +kernel)
      have pos : 0 < x.cps.toList.length := by
        rcases Nat.eq_zero_or_pos x.cps.toList.length with e | e
        · obtain ⟨⟨cs⟩⟩ := x
          cases cs with
          | nil => exact absurd rfl ne
          | cons _ _ => cases e
        · exact e
      refine ⟨_, rfl, x, 0, x.cps.toList[0], rfl, rfl, by omega, atI_nat (j := 0) (by simp [pos]), rfl, _, rfl, ?_⟩
      have e1 : decide (V.str ⟨#[x.cps.toList[0]]⟩ = V.str "0") = decide (x.cps.toList[0]? = some 48) := by
        rw [List.getElem?_eq_getElem pos, show ("0" : Str) = ⟨#[48]⟩ by decide +kernel]
        by_cases hc : x.cps.toList[0] = 48
        · rw [hc]; decide +kernel
        · rw [decide_eq_false (fun e => hc (by injection e with e; injection e with e; simpa using e)), decide_eq_false (fun e => hc (by injection e))]
      rw [e1]
      cases hd : decide (x.cps.toList[0]? = some 48) with
      | true =>
        rw [hd] at z
        refine ⟨_, rfl, rfl, ?_⟩
        have e2 : decide (V.str x = V.str "0") = decide (x = "0") := by
          by_cases hx : x = "0"
          · rw [hx]; decide +kernel
          · rw [decide_eq_false hx, decide_eq_false (fun e => hx (by injection e))]
        rw [e2]
        exact z
      | false =>
        rw [hd] at z
        exact z
    · rw [decide_eq_false h6] at z ⊢
      exact z
  · rw [Bool.not_eq_true] at h
    rw [h] at z ⊢
    exact z
theorem ok_is_name (F : L2.Fun K "is_name" "is_name" s_is_name f fd) (c_is_string : ClO prg w K mg base CX0 1 "is_string" spStrT []) (c_is_name_word : ClO prg w K mg base CX0 3 "is_name_word" (spWord nmOk) []) : FnOk prg w K mg base CX0 4 f fd ["value"] (spWord nmOk) := by
  have S := fs_is_name
  refine F.ok S (fun vs H Q E h => by obtain ⟨x, rfl, _⟩ := h; rfl) fun cdv A outer s H vs Q E hr hsp => ?_
  obtain ⟨x, rfl, hl, q⟩ := hsp
  exact ⟨_, (pss_one (ps_ret (pe_and (pe_clo c_is_string hr (by decide) rfl (pa_cons (pv 0) pa_nil)) (pe_one (pe_clo c_is_name_word hr (by decide) rfl (pa_cons (pv 0) pa_nil)))))), _, rfl, x, rfl, true, rfl, _, rfl, x, rfl, hl, q⟩
theorem ok_sort_of (F : L2.Fun K "sort_of" "sort_of" s_sort_of f fd) (Z : Cns K w mg dD dG dS) : FnOk prg w K mg base CX0 1 f fd ["sign"] spSort := by
  have S := fs_sort_of
  refine F.ok S (fun vs H Q E h => by obtain ⟨x, rfl, _⟩ := h; rfl) fun cdv A outer s H vs Q E hr hsp => ?_
  obtain ⟨c, rfl, q⟩ := hsp
  refine ⟨_, (pss_cons (ps_if (pt_cmpR op_inS (pv 0) (pe_gS rfl Z.c_LETTERS) rfl) (pss_one (ps_ret pe_str)) pss_nil)
    (pss_one (ps_ret (pe_ifExp (pt_cmpR op_inS (pv 0) (pe_gS rfl Z.c_FIGURES) rfl) pe_str pe_str)))), ?_⟩
  unfold srt at q
  refine ⟨_, rfl, c, letters, rfl, rfl, _, rfl, ite2 (fun h => ?_) fun h => ⟨_, rfl, c, figures, rfl, rfl, _, rfl, ite2 (fun h2 => ?_) fun h2 => ?_⟩⟩
  · rw [if_pos (of_decide_eq_true h)] at q
    exact q
  · rw [if_neg (by simpa using h), if_pos (of_decide_eq_true h2)] at q
    exact q
  · rw [if_neg (by simpa using h), if_neg (by simpa using h2)] at q
    exact q
theorem ok_wrong_sign (F : L2.Fun K "wrong_sign" "wrong_sign" s_wrong_sign f fd) (T : Nms mg) (Z : Cns K w mg dD dG dS) : FnOk prg w K mg base CX0 1 f fd ["row"] spWrong := by
  have S := fs_wrong_sign
  refine F.ok S (fun vs H Q E h => by obtain ⟨x, rfl, _⟩ := h; rfl) fun cdv A outer s H vs Q E hr hsp => ?_
  obtain ⟨x, rfl, hl, hok, q⟩ := hsp
  refine ⟨_, (pss_cons (ps_setLc (own := [("at", 2), ("sign", 3)]) (i := 1) (g := gTup K 2 (gCons (gName 2) (gCons (gName 3) gNil))) (by rfl) S.nd rfl rfl (sw_true rfl rfl rfl (by decide +kernel)) (pi_enumS (by rfl) T.n_enumerate (pa_cons (pv 0) pa_nil)) (blkOk_by (own := [("at", 2), ("sign", 3)]) (N := n_wrong_sign) (sc := defScope s_wrong_sign) (by decide +kernel)) (fun _ _ _ _ _ => (pg_tup rfl (pgs_cons (pg_name (i := 2) S.nd rfl (Or.inl rfl)) (pgs_cons (pg_name (i := 3) S.nd rfl (Or.inl rfl)) pgs_nil)))) (fun _ _ _ _ _ => (pts_one (pt_cmpR op_notInS (pv 3) (pe_op op_add_str (pe_op op_add_str (pe_op op_add_str (pe_gS rfl Z.c_LETTERS) (pe_gS rfl Z.c_FIGURES)) (pe_gS rfl Z.c_OTHERS)) (pe_gS rfl Z.c_BLANK)) rfl))) (fun _ _ _ _ _ => (pv 2)))
    (pss_one (ps_ret (pe_ifExp (pt_cmpR (op_neD hr.units) (pv 1) (pe_lst pa_nil) (nomark _)) (pe_ix ix_list (pv 1) pe_int (fun _ _ => rfl)) pe_non)))), ?_⟩
  refine ⟨_, rfl, x, rfl, fun D nD => ?_⟩
  have sl : sizeLine = 16777216 := sizeLine_eq
  refine lc_any x.cps.size (fun i Hb => Kp [D] H Hb ∧ Hb D = some (.lst [])) ⟨Kp.new nD, upd_same⟩ (fun i Hb hi _ => hi) (fun Hb _ => Nat.le_refl _) (fun i v Hb Hb' hi h y => ?_) fun Hb h => ?_
  · obtain ⟨t, c, rfl, nt, rfl, hc⟩ := y
    refine ⟨t, _, rfl, SqT.of upd_same, rfl, _, _, rfl, _, _, rfl, rfl, rfl, ?_⟩
    refine ⟨_, rfl, _, _, rfl, rfl, by decide +kernel, _, _, rfl, rfl, by decide +kernel, _, _, rfl, rfl, by decide +kernel, c, _, rfl, rfl, _, rfl, ?_⟩
    have ok : okC c = true := hok c (List.mem_of_getElem? (show x.cps.toList[i]? = some c by simpa using hc))
    unfold okC at ok
    rw [show (!decide (c ∈ (letters ++ figures ++ others ++ " ").cps.toList)) = false by rw [ok]; rfl]
    refine iteF ⟨h.1.trans (Kp.new nt), ?_⟩
    rw [upd_ne (ne_of_none h.2 nt)]
    exact h.2
  · refine ⟨_, rfl, by show 0 ≤ sizeLine; omega, fun p np => ?_⟩
    have hD : (upd Hb p (.lst [])) D = some (.lst []) := by
      rw [upd_ne (ne_of_none h.2 np)]
      exact h.2
    refine ⟨.list [], .list [], .lst (SqL.of hD) .nil, .lst (SqL.of upd_same) .nil, rfl, rfl, _, rfl, ?_⟩
    rw [show (!PyData.eqv (.list []) (.list [])) = false by decide +kernel]
    exact iteF (q _ ((h.1.drop nD).trans (Kp.new np)))
end
end K2
set_option maxHeartbeats 4000000
/-! P4: a row's words. -/
namespace K2
open PySem PySem.Spec L2 DL
open PySem.W (Frag keepIn findIn typeIn subIn kitOne kitAny excIn)
open PyProof.Rows hiding St wpAt wpAt_bind wpAt_stack wpAt_mono
theorem Spd.step {c : Nat} {cs : List Nat} {ws : List Str} (h : Spd (c :: cs) ws) : ∃ (w cs' : List Nat), cs = w ++ cs' ∧ (∀ d ∈ w, srt d = srt c) ∧ ((srt c = "sign" ∧ w = []) ∨ (srt c ≠ "sign" ∧ ∀ d, cs'.head? = some d → srt d ≠ srt c)) ∧
    ((c = 32 ∧ Spd cs' ws) ∨ (c ≠ 32 ∧ ∃ ws', ws = ⟨(c :: w).toArray⟩ :: ws' ∧ Spd cs' ws')) := by
  have s32 : srt 32 = "sign" := by decide +kernel
  generalize e : c :: cs = l at h
  cases h with
  | nil => cases e
  | blank h =>
    cases e
    exact ⟨[], cs, rfl, (fun d m => by cases m), .inl ⟨s32, rfl⟩, .inl ⟨rfl, h⟩⟩
  | sign h1 h2 h3 =>
    cases e
    exact ⟨[], cs, rfl, (fun d m => by cases m), .inl ⟨h1, rfl⟩, .inr ⟨h2, _, rfl, h3⟩⟩
  | word h1 h2 h3 h4 =>
    cases e
    exact ⟨_, _, rfl, h2, .inr ⟨h1, h3⟩, .inr ⟨fun z => h1 (by rw [z]; exact s32), _, rfl, h4⟩⟩
section
variable {w : World} {K : Frag} {mg : Str → Option Value} {base : Heap} {f : Addr} {fd : FuncData} {dD dG dS : Addr}
theorem ok_row_words (F : L2.Fun K "row_words" "row_words" s_row_words f fd) (T : Nms mg) (Z : Cns K w mg dD dG dS) (c_sort_of : ClO prg w K mg base CX0 1 "sort_of" spSort []) : FnOk prg w K mg base CX0 2 f fd ["row"] spWords := by
  have S := fs_row_words
  refine F.ok S (fun vs H Q E h => by obtain ⟨x, _, rfl, _⟩ := h; rfl) fun cdv A outer s H vs Q E hr hsp => ?_
  obtain ⟨x, ws, rfl, hl, hsd, q⟩ := hsp
  refine ⟨_, (pss_cons (ps_par (i := 1) (j := 2) (by rfl) S.nd rfl rfl (by decide) rfl rfl (pa_cons (pe_lst pa_nil) (pa_cons pe_int pa_nil)) (by rfl))
    (pss_cons (ps_while PassesOwn.never (pt_cmpR op_lt (pv 2) (pe_callB call_len_str (by rfl) T.n_len (by decide +kernel) (pa_cons (pv 0) pa_nil)) (nomark _)) (pss_cons (ps_par (i := 3) (j := 4) (by rfl) S.nd rfl rfl (by decide) rfl rfl (pa_cons (pv 2) (pa_cons (pe_clo c_sort_of hr (by decide) rfl (pa_cons (pe_ix ix_str (pv 0) (pv 2) (fun _ _ => rfl)) pa_nil)) pa_nil)) (by rfl))
    (pss_cons (ps_set (i := 2) S.nd rfl (Or.inl rfl) (pe_op op_add (pv 2) pe_int))
    (pss_cons (ps_while PassesOwn.never (PW.pt (pw_and (pt_cmpR op_ne (pv 4) pe_str (nomark _)) (pw_and (pt_cmpR op_lt (pv 2) (pe_callB call_len_str (by rfl) T.n_len (by decide +kernel) (pa_cons (pv 0) pa_nil)) (nomark _)) (pw_and1 (pt_cmpR op_eq (pe_clo c_sort_of hr (by decide) rfl (pa_cons (pe_ix ix_str (pv 0) (pv 2) (fun _ _ => rfl)) pa_nil)) (pv 4) (nomark _)))))) (pss_one (ps_set (i := 2) S.nd rfl (Or.inl rfl) (pe_op op_add (pv 2) pe_int))))
    (pss_one (ps_if (pt_cmpR op_ne (pe_ix ix_str (pv 0) (pv 3) (fun _ _ => rfl)) (pe_gS rfl Z.c_BLANK) (nomark _)) (pss_one (ps_expr (pe_bm PySem.F.plainAttrs_list PySem.F.slot_list_append PySem.F.type_list_append mt_append (pv 1) (pa_cons (pe_tup (pa_cons (pe_slice sl_str (pv 0) (po_some (pv 3)) (po_some (pv 2))) (pa_cons (pv 3) (pa_cons (pv 2) pa_nil)))) pa_nil)))) pss_nil))))))
    (pss_one (ps_ret (pv 1))))), ?_⟩
  have sl : sizeLine = 16777216 := sizeLine_eq
  have hn : x.length = x.cps.toList.length := by show x.cps.size = _; simp
  refine ⟨by show 0 ≤ sizeLine; omega, fun fl nfl => ⟨_, _, rfl, ?_⟩⟩
  refine ⟨fun m σ H' => ∃ (at_ : Nat) (o3 o4 : Option V) (ts : List Addr) (done rest : List Str), m + at_ = x.length ∧ σ = [some (.str x), some (.ref fl), some (.int at_), o3, o4] ∧ Kp [fl] H H' ∧ H' fl = some (.lst (ts.map V.ref)) ∧ WordsAt H' ts done ∧ ws = done ++ rest ∧ Spd (x.cps.toList.drop at_) rest ∧ ts.length ≤ at_,
    ⟨x.length, 0, none, none, [], [], ws, rfl, rfl, Kp.new nfl, upd_same, .nil, rfl, hsd, Nat.le_refl _⟩, fun m σ H' h => ?_⟩
  obtain ⟨at_, o3, o4, ts, done, rest, hm, rfl, k, hfl, hw, hws, hS, hlt⟩ := h
  refine ⟨_, rfl, _, rfl, x, rfl, by omega, _, _, rfl, rfl, _, rfl, ?_⟩
  by_cases hat : at_ < x.length
  · rw [decide_eq_true (show ((at_ : Nat) : Int) < (x.length : Int) by omega)]
    refine iteT ⟨fun σ' H'' => ∃ m', m' < m ∧ ∃ (at_ : Nat) (o3 o4 : Option V) (ts : List Addr) (done rest : List Str), m' + at_ = x.length ∧ σ' = [some (.str x), some (.ref fl), some (.int at_), o3, o4] ∧ Kp [fl] H H'' ∧ H'' fl = some (.lst (ts.map V.ref)) ∧ WordsAt H'' ts done ∧ ws = done ++ rest ∧ Spd (x.cps.toList.drop at_) rest ∧ ts.length ≤ at_, fun _ _ q => q, ?_⟩
    have hat' : at_ < x.cps.toList.length := by omega
    have hc : x.cps.toList[at_]? = some x.cps.toList[at_] := List.getElem?_eq_getElem hat'
    have hdr := List.drop_eq_getElem_cons hat'
    generalize x.cps.toList[at_] = c at hc hdr
    rw [hdr] at hS
    obtain ⟨wd, cs', e1, hA, hB, hC⟩ := hS.step
    have hget : ∀ i, x.cps.toList[at_ + 1 + i]? = (wd ++ cs')[i]? := fun i => by
      rw [← e1, List.getElem?_drop]
    have hlen : at_ + 1 + wd.length + cs'.length = x.length := by
      have := congrArg List.length e1
      rw [List.length_drop, List.length_append] at this
      omega
    have hdrop : x.cps.toList.drop (at_ + 1 + wd.length) = cs' := by
      rw [← List.drop_drop, e1, List.drop_left]
    refine ⟨_, rfl, _, rfl, _, rfl, x, at_, c, rfl, rfl, by omega, atI_nat hc, c, rfl, _, _, rfl, ?_⟩
    refine ⟨_, rfl, _, _, rfl, rfl, ?_⟩
    -- the signs of the word
    refine ⟨fun m2 σ2 H2 => ∃ j, m2 + j = wd.length ∧ σ2 = [some (.str x), some (.ref fl), some (.int ((at_ + 1 + j : Nat) : Int)), some (.int at_), some (.str (srt c))] ∧ H2 = H', ⟨wd.length, 0, rfl, rfl, rfl⟩, fun m2 σ2 H2 h2 => ?_⟩
    obtain ⟨j, hj, rfl, rfl⟩ := h2
    -- behind the word
    have behind : j = wd.length → ∀ (D : Ends), D.nx = (fun σ' H'' => ∃ m', m' < m ∧ ∃ (at_ : Nat) (o3 o4 : Option V) (ts : List Addr) (done rest : List Str), m' + at_ = x.length ∧ σ' = [some (.str x), some (.ref fl), some (.int at_), o3, o4] ∧ Kp [fl] H H'' ∧ H'' fl = some (.lst (ts.map V.ref)) ∧ WordsAt H'' ts done ∧ ws = done ++ rest ∧ Spd (x.cps.toList.drop at_) rest ∧ ts.length ≤ at_) →
        tIfS (tTest (tOp rNe (tOp rIxS (tVar 0) (tVar 3)) (tC (.str " ")))) (tDrop (tBM K "list" rAppend (tVar 1) (tCons (tTup (tCons (tSl rSlS (tVar 0) (tPart (tVar 3)) (tPart (tVar 2))) (tCons (tVar 3) (tCons (tVar 2) tNil)))) tNil))) tNext D
          [some (.str x), some (.ref fl), some (.int ((at_ + 1 + j : Nat) : Int)), some (.int at_), some (.str (srt c))] H2 := by
      rintro rfl D hD
      refine ⟨_, rfl, _, rfl, x, at_, c, rfl, rfl, by omega, atI_nat hc, rfl, _, rfl, ?_⟩
      rcases hC with ⟨rfl, hC⟩ | ⟨hc32, ws', rfl, hC⟩
      · rw [show (!decide (V.str ⟨#[32]⟩ = V.str " ")) = false by decide +kernel]
        refine iteF ?_
        show D.nx _ _
        rw [hD]
        refine ⟨x.length - (at_ + 1 + wd.length), by omega, at_ + 1 + wd.length, _, _, ts, done, rest, by omega, rfl, k, hfl, hw, hws, ?_, by omega⟩
        rw [hdrop]
        exact hC
      · rw [decide_eq_false (fun e => hc32 (by
          rw [show (" " : Str) = ⟨#[32]⟩ by decide +kernel] at e
          injection e with e
          injection e with e
          simpa using e))]
        refine iteT ⟨_, rfl, .inl ⟨rfl, _, SqL.of hfl⟩, _, rfl, _, rfl, _, rfl, _, rfl, _, rfl, x, rfl, by omega, _, rfl, _, rfl, by show 3 ≤ sizeLine; omega, fun t nt => ?_⟩
        have hfl2 : (upd H2 t (.tup [.str (cutS x (some (at_ : Int)) (some ((at_ + 1 + wd.length : Nat) : Int))), .int (at_ : Int), .int ((at_ + 1 + wd.length : Nat) : Int)])) fl = some (.lst (ts.map V.ref)) := by
          rw [upd_ne (ne_of_none hfl nt)]
          exact hfl
        refine ⟨fl, _, _, rfl, rfl, hfl2, by rw [List.length_map]; omega, ?_⟩
        show D.nx _ _
        rw [hD]
        have ew : cutS x (some (at_ : Int)) (some ((at_ + 1 + wd.length : Nat) : Int)) = ⟨(c :: wd).toArray⟩ := by
          unfold cutS
          rw [HT.sIx_nat, HT.sIx_nat, Nat.min_eq_left (by omega), Nat.min_eq_left (by omega), hdr, e1, show at_ + 1 + wd.length - at_ = wd.length + 1 by omega, List.take_succ_cons, List.take_left]
        rw [ew]
        rw [ew] at hfl2
        have hWt : WordAt (upd H2 t (.tup [.str ⟨(c :: wd).toArray⟩, .int (at_ : Int), .int ((at_ + 1 + wd.length : Nat) : Int)])) t ⟨(c :: wd).toArray⟩ := ⟨_, _, upd_same⟩
        have k2 : Kp [fl] H2 (upd (upd H2 t (.tup [.str ⟨(c :: wd).toArray⟩, .int (at_ : Int), .int ((at_ + 1 + wd.length : Nat) : Int)])) fl (.lst (ts.map V.ref ++ [V.ref t]))) := (Kp.new nt).trans (Kp.put hfl2 rfl (by simp))
        have tfl : t ≠ fl := fun e => by
          rw [e, hfl] at nt
          cases nt
        refine ⟨x.length - (at_ + 1 + wd.length), by omega, at_ + 1 + wd.length, _, _, ts ++ [t], done ++ [⟨(c :: wd).toArray⟩], ws', by omega, rfl, k.trans k2, ?_, ?_, by rw [hws]; simp, ?_, ?_⟩
        · rw [upd_same]; simp
        · exact (hw.kp k2).snoc ⟨_, _, by rw [upd_ne tfl]; exact upd_same⟩
        · rw [hdrop]
          exact hC
        · rw [List.length_append, List.length_singleton]
          omega
    refine ⟨_, rfl, rfl, _, rfl, ?_⟩
    rcases hB with ⟨hB, rfl⟩ | ⟨hB, hB2⟩
    · rw [show (!decide (V.str (srt c) = V.str "sign")) = false by rw [hB]; decide +kernel]
      refine iteF (iteF (behind (by simp at hj; exact hj.2) _ rfl))
    · rw [decide_eq_false (fun e => hB (by injection e))]
      refine iteT ⟨_, rfl, _, rfl, x, rfl, by omega, _, _, rfl, rfl, _, rfl, ?_⟩
      by_cases hjn : at_ + 1 + j < x.length
      · rw [decide_eq_true (show ((at_ + 1 + j : Nat) : Int) < (x.length : Int) by omega)]
        have hd : x.cps.toList[at_ + 1 + j]? = some (x.cps.toList[at_ + 1 + j]'(by omega)) := List.getElem?_eq_getElem _
        generalize x.cps.toList[at_ + 1 + j]'(by omega) = d at hd
        refine iteT ⟨_, rfl, _, rfl, x, _, d, rfl, rfl, by omega, atI_nat hd, d, rfl, _, rfl, rfl, _, rfl, ?_⟩
        have hd2 := hd
        rw [hget] at hd2
        by_cases hjw : j < wd.length
        · rw [List.getElem?_append_left hjw] at hd2
          rw [decide_eq_true (show V.str (srt d) = V.str (srt c) by rw [hA d (List.mem_of_getElem? hd2)])]
          refine iteT ⟨fun σ' H'' => ∃ m', m' < m2 ∧ ∃ j, m' + j = wd.length ∧ σ' = [some (.str x), some (.ref fl), some (.int ((at_ + 1 + j : Nat) : Int)), some (.int at_), some (.str (srt c))] ∧ H'' = H2, fun _ _ q => q, ?_⟩
          exact ⟨_, rfl, _, _, rfl, rfl, m2 - 1, by omega, j + 1, by omega, rfl, rfl⟩
        · have hje : j = wd.length := by omega
          rw [List.getElem?_append_right (by omega), hje, Nat.sub_self, ← List.head?_eq_getElem?] at hd2
          rw [decide_eq_false (fun e => hB2 d hd2 (by injection e))]
          exact iteF (behind hje _ rfl)
      · rw [decide_eq_false (show ¬ ((at_ + 1 + j : Nat) : Int) < (x.length : Int) by omega)]
        exact iteF (iteF (behind (by omega) _ rfl))
  · rw [decide_eq_false (show ¬ ((at_ : Nat) : Int) < (x.length : Int) by omega)]
    refine iteF ⟨_, rfl, ?_⟩
    have e0 : x.cps.toList.drop at_ = [] := List.drop_eq_nil_of_le (by omega)
    rw [e0] at hS
    cases hS
    rw [List.append_nil] at hws
    rw [hws] at q
    exact q H' fl ts (k.drop nfl) nfl hfl hw
end
end K2
set_option maxHeartbeats 4000000
/-! P5: trees; what looks at their form. -/
namespace K2
open PySem PySem.Spec L2 DL
open PySem.W (Frag keepIn findIn typeIn subIn kitOne kitAny excIn)
open PyProof.Rows hiding St wpAt wpAt_bind wpAt_stack wpAt_mono
theorem pe_gR {X : Cx} {x : Str} {a : Addr} {pos : Pos} (hg : Gl X x) (h : X.mg x = some (.ref a)) (hdb : (x == ("__debug__" : Str)) = false := by decide) : PE X (.Name x pos) (tC (.ref a)) := pe_glob (v := .ref a) hg h rfl hdb
theorem iT {A B : Prop} {b : Bool} (e : b = true) (h : A) : if b = true then A else B := by
  rw [if_pos e]
  exact h
theorem iF {A B : Prop} {b : Bool} (e : b = false) (h : B) : if b = true then A else B := by
  subst e
  exact iteF h
inductive Op where
  | add | sub | mul | div
def Op.s : Op → Str
  | .add => "+" | .sub => "-" | .mul => "*" | .div => "/"
inductive Tr where
  | val (n : Nat) | nam (x : Str) | call1 (f : Str) (a : Tr) | call2 (f : Str) (a b : Tr) | minus (a : Tr) | pow (a : Tr) (k : Nat) | bin (o : Op) (a b : Tr)
def numT (n : Nat) : Str := Str.ofString (toString (n : Int))
def NumOk (n : Nat) : Prop := nuOk (numT n) = true ∧ PySem.intText? (numT n) = some (n : Int) ∧ n ≤ 999999
def Tr.hd : Tr → Str
  | .val _ => "value" | .nam _ => "name" | .call1 _ _ => "call" | .call2 _ _ _ => "call" | .minus _ => "minus" | .pow _ _ => "power" | .bin o _ _ => o.s
def Tr.hsz : Tr → Nat
  | .val _ => 2 | .nam _ => 2 | .call1 _ _ => 3 | .call2 _ _ _ => 3 | .minus _ => 2 | .pow _ _ => 3 | .bin _ _ _ => 3
def Tr.sz : Tr → Nat
  | .val _ => 1 | .nam _ => 1 | .call1 _ a => a.sz + 1 | .call2 _ a b => a.sz + b.sz + 1 | .minus a => a.sz + 1 | .pow a _ => a.sz + 1 | .bin _ a b => a.sz + b.sz + 1
def Tr.ht : Tr → Nat
  | .val _ => 0 | .nam _ => 0 | .call1 _ a => a.ht + 1 | .call2 _ a b => max a.ht b.ht + 1 | .minus a => a.ht + 1 | .pow a _ => a.ht + 1 | .bin _ a b => max a.ht b.ht + 1
def Tr.parts : Tr → List Tr
  | .val _ => [] | .nam _ => [] | .call1 _ a => [a] | .call2 _ a b => [a, b] | .minus a => [a] | .pow a _ => [a] | .bin _ a b => [a, b]
def Tr.br : Tr → Bool
  | .val _ => false | .nam _ => false | _ => true
def Tr.ok : Tr → Prop
  | .val n => NumOk n
  | .nam x => nmOk x = true
  | .call1 f a => nmOk f = true ∧ a.ok
  | .call2 f a b => nmOk f = true ∧ a.ok ∧ b.ok
  | .minus a => a.ok
  | .pow a k => a.ok ∧ k ≤ 4 ∧ NumOk k
  | .bin _ a b => a.ok ∧ b.ok
/-- a tree stands in the heap -/
def TrAt (H : Hp) : Tr → V → Prop
  | .val n, v => ∃ p, v = .ref p ∧ H p = some (.tup [.str "value", .int (n : Nat)])
  | .nam x, v => ∃ p, v = .ref p ∧ H p = some (.tup [.str "name", .str x])
  | .call1 f a, v => ∃ p q u, v = .ref p ∧ H p = some (.tup [.str "call", .str f, .ref q]) ∧ H q = some (.tup [u]) ∧ TrAt H a u
  | .call2 f a b, v => ∃ p q u u', v = .ref p ∧ H p = some (.tup [.str "call", .str f, .ref q]) ∧ H q = some (.tup [u, u']) ∧ TrAt H a u ∧ TrAt H b u'
  | .minus a, v => ∃ p u, v = .ref p ∧ H p = some (.tup [.str "minus", u]) ∧ TrAt H a u
  | .pow a k, v => ∃ p u, v = .ref p ∧ H p = some (.tup [.str "power", u, .int (k : Nat)]) ∧ TrAt H a u
  | .bin o a b, v => ∃ p u u', v = .ref p ∧ H p = some (.tup [.str o.s, u, u']) ∧ TrAt H a u ∧ TrAt H b u'
theorem TrAt.kp {H H' : Hp} {D : List Addr} (k : Kp D H H') : ∀ {t : Tr} {v : V}, TrAt H t v → TrAt H' t v
  | .val _, _, ⟨p, e, h⟩ => ⟨p, e, k.tup h⟩
  | .nam _, _, ⟨p, e, h⟩ => ⟨p, e, k.tup h⟩
  | .call1 _ _, _, ⟨p, q, u, e, h, h2, a⟩ => ⟨p, q, u, e, k.tup h, k.tup h2, TrAt.kp k a⟩
  | .call2 _ _ _, _, ⟨p, q, u, u', e, h, h2, a, b⟩ => ⟨p, q, u, u', e, k.tup h, k.tup h2, TrAt.kp k a, TrAt.kp k b⟩
  | .minus _, _, ⟨p, u, e, h, a⟩ => ⟨p, u, e, k.tup h, TrAt.kp k a⟩
  | .pow _ _, _, ⟨p, u, e, h, a⟩ => ⟨p, u, e, k.tup h, TrAt.kp k a⟩
  | .bin _ _ _, _, ⟨p, u, u', e, h, a, b⟩ => ⟨p, u, u', e, k.tup h, TrAt.kp k a, TrAt.kp k b⟩
inductive TrsAt (H : Hp) : List V → List Tr → Prop
  | nil : TrsAt H [] []
  | cons {v : V} {t : Tr} {vs : List V} {ts : List Tr} : TrAt H t v → TrsAt H vs ts → TrsAt H (v :: vs) (t :: ts)
theorem TrsAt.kp {H H' : Hp} {D : List Addr} (k : Kp D H H') : ∀ {vs : List V} {ts : List Tr}, TrsAt H vs ts → TrsAt H' vs ts
  | _, _, .nil => .nil
  | _, _, .cons a r => .cons (a.kp k) (r.kp k)
theorem TrsAt.length {H : Hp} : ∀ {vs : List V} {ts : List Tr}, TrsAt H vs ts → vs.length = ts.length
  | _, _, .nil => rfl
  | _, _, .cons _ r => congrArg (· + 1) r.length
theorem TrsAt.append {H : Hp} {us : List V} {rs : List Tr} (h : TrsAt H us rs) : ∀ {vs : List V} {ts : List Tr}, TrsAt H vs ts → TrsAt H (vs ++ us) (ts ++ rs)
  | _, _, .nil => h
  | _, _, .cons a r => .cons a (TrsAt.append h r)
theorem TrsAt.get {H : Hp} : ∀ {vs : List V} {ts : List Tr} (i : Nat) {t : Tr}, TrsAt H vs ts → ts[i]? = some t → ∃ v, vs[i]? = some v ∧ TrAt H t v
  | _, _, _, _, .nil, h => by simp at h
  | _, _, 0, t, .cons (v := v) a r, h => ⟨v, rfl, by cases h; exact a⟩
  | _, _, i + 1, t, .cons a r, h => r.get i h
theorem TrAt.shape {H : Hp} {t : Tr} {v : V} (h : TrAt H t v) : ∃ p xs, v = .ref p ∧ H p = some (.tup xs) ∧ xs[0]? = some (.str t.hd) ∧ xs.length = t.hsz ∧ valV sizesKv (Sum.inr t.hd) = some (.int (t.hsz : Nat)) := by
  cases t with
  | val n => obtain ⟨p, e, h⟩ := h; exact ⟨p, _, e, h, rfl, rfl, by show valV sizesKv (Sum.inr "value") = some (.int 2); decide +kernel⟩
  | nam x => obtain ⟨p, e, h⟩ := h; exact ⟨p, _, e, h, rfl, rfl, by show valV sizesKv (Sum.inr "name") = some (.int 2); decide +kernel⟩
  | call1 f a => obtain ⟨p, q, u, e, h, h2, _⟩ := h; exact ⟨p, _, e, h, rfl, rfl, by show valV sizesKv (Sum.inr "call") = some (.int 3); decide +kernel⟩
  | call2 f a b => obtain ⟨p, q, u, u', e, h, h2, _⟩ := h; exact ⟨p, _, e, h, rfl, rfl, by show valV sizesKv (Sum.inr "call") = some (.int 3); decide +kernel⟩
  | minus a => obtain ⟨p, u, e, h, _⟩ := h; exact ⟨p, _, e, h, rfl, rfl, by show valV sizesKv (Sum.inr "minus") = some (.int 2); decide +kernel⟩
  | pow a k => obtain ⟨p, u, e, h, _⟩ := h; exact ⟨p, _, e, h, rfl, rfl, by show valV sizesKv (Sum.inr "power") = some (.int 3); decide +kernel⟩
  | bin o a b =>
    obtain ⟨p, u, u', e, h, _⟩ := h
    refine ⟨p, _, e, h, rfl, rfl, ?_⟩
    cases o
    · show valV sizesKv (Sum.inr "+") = some (.int 3); decide +kernel
    · show valV sizesKv (Sum.inr "-") = some (.int 3); decide +kernel
    · show valV sizesKv (Sum.inr "*") = some (.int 3); decide +kernel
    · show valV sizesKv (Sum.inr "/") = some (.int 3); decide +kernel
def spHeaded : Sp := fun vs H Q _ => ∃ v d t, vs = [v, .ref d] ∧ TrAt H t v ∧ H d = some (.dK sizesKv) ∧ Q (.bl true) H
def spLeaf : Sp := fun vs H Q _ => ∃ v t, vs = [v] ∧ TrAt H t v ∧ t.ok ∧ t.br = false ∧ ∀ H', Kp [] H H' → Q (.bl true) H'
def spBranch : Sp := fun vs H Q _ => ∃ v t, vs = [v] ∧ TrAt H t v ∧ t.ok ∧ ∀ H', Kp [] H H' → Q (.bl t.br) H'
def spParts : Sp := fun vs H Q _ => ∃ v t, vs = [v] ∧ TrAt H t v ∧ t.br = true ∧ ∀ H' p xs, Kp [] H H' → H' p = some (.tup xs) → TrsAt H' xs t.parts → Q (.ref p) H'
def spForm : Sp := fun vs H Q _ => ∃ v t, vs = [v] ∧ TrAt H t v ∧ t.ok ∧ t.sz ≤ 40 ∧ ∀ H', Kp [] H H' → Q (.bl true) H'
section
variable {w : World} {K : Frag} {mg : Str → Option Value} {base : Heap} {f : Addr} {fd : FuncData} {dD dG dS : Addr}
theorem ok_is_headed (F : L2.Fun K "is_headed" "is_headed" s_is_headed f fd) (T : Nms mg) (c_is_string : ClO prg w K mg base CX0 1 "is_string" spStrT []) : FnOk prg w K mg base CX0 2 f fd ["value", "sizes"] spHeaded := by
  have S := fs_is_headed
  refine F.ok S (fun vs H Q E h => by obtain ⟨x, _, _, rfl, _⟩ := h; rfl) fun cdv A outer s H vs Q E hr hsp => ?_
  obtain ⟨v, d, t, rfl, ht, hd, q⟩ := hsp
  refine ⟨_, (pss_cons (ps_if (PW.pt (pw_or (pt_not (pt_val (pe_callB call_isi (by rfl) T.n_isinstance (by decide +kernel) (pa_cons (pv 0) (pa_cons (pe_bltn (v := .ty "tuple") rfl T.n_tuple (by decide +kernel) rfl) pa_nil))))) (pw_or (pt_cmpR op_eq (pe_callB call_len_seq (by rfl) T.n_len (by decide +kernel) (pa_cons (pv 0) pa_nil)) pe_int (nomark _)) (pw_or1 (pt_not (pt_val (pe_clo c_is_string hr (by decide) rfl (pa_cons (pe_ix ix_tup (pv 0) pe_int (fun _ _ => rfl)) pa_nil)))))))) (pss_one (ps_ret pe_bl)) pss_nil)
    (pss_one (ps_ret (pe_and (pe_cmp (pc_din (hu_of hr) (pe_ix ix_tup (pv 0) pe_int (fun _ _ => rfl)) (pv 1))) (pe_one (pe_cmpR op_eq (pe_callB call_len_seq (by rfl) T.n_len (by decide +kernel) (pa_cons (pv 0) pa_nil)) (pe_dget (hu_of hr) (pv 1) (pe_ix ix_tup (pv 0) pe_int (fun _ _ => rfl)) (fun _ _ => rfl)) (nomark _))))))), ?_⟩
  obtain ⟨p, xs, rfl, hp, h0, hl, hz⟩ := ht.shape
  have hpos : xs.length ≠ 0 := by rw [hl]; cases t <;> exact Nat.succ_ne_zero _
  refine ⟨_, rfl, .ref p, .ty "tuple", _, _, true, rfl, .ty _, .base (.tup hp), kit_same, _, rfl, iteF ?_⟩
  refine ⟨_, rfl, p, xs, rfl, .inr (SqT.of hp), rfl, _, rfl, ?_⟩
  rw [decide_eq_false (show ¬ V.int (xs.length : Nat) = V.int 0 from fun e => hpos (by injection e with e; omega))]
  refine iteF ⟨_, rfl, p, xs, 0, _, rfl, rfl, SqT.of hp, atI_nat (j := 0) h0, t.hd, rfl, _, rfl, iteF ?_⟩
  have g : DGet H d (.str t.hd) (valV sizesKv (Sum.inr t.hd)) := DGet.k (k := Sum.inr t.hd) hd
  rw [hz] at g
  refine ⟨_, rfl, p, xs, 0, _, rfl, rfl, SqT.of hp, atI_nat (j := 0) h0, _, rfl, d, _, rfl, g, true, rfl, ?_⟩
  refine ⟨_, rfl, p, xs, rfl, .inr (SqT.of hp), _, rfl, _, rfl, p, xs, 0, _, rfl, rfl, SqT.of hp, atI_nat (j := 0) h0, d, _, rfl, g, rfl, ?_⟩
  show Q (.bl (decide (V.int (xs.length : Nat) = V.int (t.hsz : Nat)))) H
  rw [hl, decide_eq_true rfl]
  exact q
theorem ok_is_leaf (F : L2.Fun K "is_leaf" "is_leaf" s_is_leaf f fd) (Z : Cns K w mg dD dG dS) (c_is_between : ClO prg w K mg base CX0 2 "is_between" spBetween []) (c_is_name : ClO prg w K mg base CX0 4 "is_name" (spWord nmOk) []) : FnOk prg w K mg base CX0 5 f fd ["value"] spLeaf := by
  have S := fs_is_leaf
  refine F.ok S (fun vs H Q E h => by obtain ⟨x, _, rfl, _⟩ := h; rfl) fun cdv A outer s H vs Q E hr hsp => ?_
  obtain ⟨v, t, rfl, ht, ok, hb, q⟩ := hsp
  refine ⟨_, (pss_cons (ps_if (pt_cmpR op_eq (pe_ix ix_tup (pv 0) pe_int (fun _ _ => rfl)) pe_str (nomark _)) (pss_one (ps_ret (pe_clo c_is_between hr (by decide) rfl (pa_cons (pe_ix ix_tup (pv 0) pe_int (fun _ _ => rfl)) (pa_cons pe_int (pa_cons (pe_gI rfl Z.c_MOST_NUMBER) pa_nil)))))) pss_nil)
    (pss_one (ps_ret (pe_and (pe_cmpR op_eq (pe_ix ix_tup (pv 0) pe_int (fun _ _ => rfl)) pe_str (nomark _)) (pe_one (pe_clo c_is_name hr (by decide) rfl (pa_cons (pe_ix ix_tup (pv 0) pe_int (fun _ _ => rfl)) pa_nil))))))), ?_⟩
  cases t with
  | val n =>
    obtain ⟨p, rfl, hp⟩ := ht
    refine ⟨_, rfl, p, _, 0, .str "value", rfl, rfl, SqT.of hp, rfl, rfl, _, rfl, ?_⟩
    rw [decide_eq_true rfl]
    refine iteT ⟨_, rfl, p, _, 1, .int (n : Nat), rfl, rfl, SqT.of hp, rfl, (n : Nat), 0, 999999, rfl, ?_⟩
    have h1 : n ≤ 999999 := ok.2.2
    rw [decide_eq_true (show (0 : Int) ≤ (n : Nat) by omega), decide_eq_true (show ((n : Nat) : Int) ≤ 999999 by omega)]
    exact q H Kp.refl
  | nam x =>
    obtain ⟨p, rfl, hp⟩ := ht
    refine ⟨_, rfl, p, _, 0, .str "name", rfl, rfl, SqT.of hp, rfl, rfl, _, rfl, ?_⟩
    rw [show decide (V.str "name" = V.str "value") = false by decide +kernel]
    refine iteF ⟨_, rfl, p, _, 0, .str "name", rfl, rfl, SqT.of hp, rfl, rfl, _, rfl, ?_⟩
    rw [decide_eq_true rfl]
    have okx : nmOk x = true := ok
    have hl : x.length ≤ 8 := by
      unfold nmOk at okx
      exact of_decide_eq_true (Bool.and_eq_true_iff.mp okx).2
    refine iteT ⟨_, rfl, p, _, 1, .str x, rfl, rfl, SqT.of hp, rfl, x, rfl, by omega, fun H' k => ?_⟩
    rw [okx]
    exact q H' k
  | _ => cases hb
theorem ok_is_branch (F : L2.Fun K "is_branch" "is_branch" s_is_branch f fd) (Z : Cns K w mg dD dG dS) (c_is_between : ClO prg w K mg base CX0 2 "is_between" spBetween []) (c_is_row : ClO prg w K mg base CX0 1 "is_row" spRowT []) (c_is_name : ClO prg w K mg base CX0 4 "is_name" (spWord nmOk) []) : FnOk prg w K mg base CX0 5 f fd ["value"] spBranch := by
  have S := fs_is_branch
  refine F.ok S (fun vs H Q E h => by obtain ⟨x, _, rfl, _⟩ := h; rfl) fun cdv A outer s H vs Q E hr hsp => ?_
  obtain ⟨v, t, rfl, ht, ok, q⟩ := hsp
  refine ⟨_, (pss_cons (ps_if (pt_cmpR op_eq (pe_ix ix_tup (pv 0) pe_int (fun _ _ => rfl)) pe_str (nomark _)) (pss_one (ps_ret (pe_and (pe_clo c_is_name hr (by decide) rfl (pa_cons (pe_ix ix_tup (pv 0) pe_int (fun _ _ => rfl)) pa_nil)) (pe_one (pe_clo c_is_row hr (by decide) rfl (pa_cons (pe_ix ix_tup (pv 0) pe_int (fun _ _ => rfl)) (pa_cons pe_int (pa_cons (pe_gI rfl Z.c_MOST_OWN) pa_nil)))))))) pss_nil)
    (pss_cons (ps_if (pt_cmpR op_eq (pe_ix ix_tup (pv 0) pe_int (fun _ _ => rfl)) pe_str (nomark _)) (pss_one (ps_ret (pe_clo c_is_between hr (by decide) rfl (pa_cons (pe_ix ix_tup (pv 0) pe_int (fun _ _ => rfl)) (pa_cons pe_int (pa_cons (pe_gI rfl Z.c_MOST_POWER) pa_nil)))))) pss_nil)
    (pss_one (ps_ret (pe_or (pe_cmpR op_in_seq (pe_ix ix_tup (pv 0) pe_int (fun _ _ => rfl)) (pe_gR rfl Z.c_DEEDS) rfl) (pe_one (pe_cmpR op_eq (pe_ix ix_tup (pv 0) pe_int (fun _ _ => rfl)) pe_str (nomark _)))))))), ?_⟩
  -- a call
  have call : ∀ (p q' : Addr) (fn : Str) (us : List V), v = .ref p → H p = some (.tup [.str "call", .str fn, .ref q']) → H q' = some (.tup us) → us.length = 1 ∨ us.length = 2 → nmOk fn = true → (∀ H', Kp [] H H' → Q (.bl true) H') →
      tAndV (tCall (spWord nmOk) [] E0 (tCons (tOp (rIxT K) (tVar 0) (tC (.int 1))) tNil)) (tCall spRowT [] E0 (tCons (tOp (rIxT K) (tVar 0) (tC (.int 2))) (tCons (tC (.int 1)) (tCons (tC (.int 3)) tNil)))) (L2.start n_is_branch [v]) H Q := by
    rintro p q' fn us rfl hp hq hu hf q
    have hl : fn.length ≤ 8 := by
      unfold nmOk at hf
      exact of_decide_eq_true (Bool.and_eq_true_iff.mp hf).2
    refine ⟨_, rfl, p, _, 1, .str fn, rfl, rfl, SqT.of hp, rfl, fn, rfl, by omega, fun H' k => ⟨_, rfl, ?_⟩⟩
    rw [hf]
    refine iteT ⟨_, rfl, p, _, 2, .ref q', rfl, rfl, SqT.of (k.tup hp), rfl, q', us, 1, 3, rfl, k.tup hq, ?_⟩
    rw [decide_eq_true (show (1 : Int) ≤ us.length by omega), decide_eq_true (show (us.length : Int) ≤ 3 by omega)]
    exact q H' k
  have first : ∀ (p : Addr) (h : Str) (xs : List V) (P : Bool → Hp → Prop) (c : Str), v = .ref p → H p = some (.tup (.str h :: xs)) → P (decide (V.str h = V.str c)) H → tTest (tOp rEq (tOp (rIxT K) (tVar 0) (tC (.int 0))) (tC (.str c))) (L2.start n_is_branch [v]) H P := by
    rintro p h xs P c rfl hp hP
    exact ⟨_, rfl, p, _, 0, .str h, rfl, rfl, SqT.of hp, atI_nat (j := 0) rfl, rfl, _, rfl, hP⟩
  have last : ∀ (p : Addr) (h : Str) (xs : List V) (b : Bool), v = .ref p → H p = some (.tup (.str h :: xs)) → (inV (.str h) deedsV || decide (V.str h = V.str "minus")) = b → (Q (.bl b) H) →
      tOrV (tOp (rIn K false) (tOp (rIxT K) (tVar 0) (tC (.int 0))) (tC (.ref dD))) (tOp rEq (tOp (rIxT K) (tVar 0) (tC (.int 0))) (tC (.str "minus"))) (L2.start n_is_branch [v]) H Q := by
    rintro p h xs b rfl hp hb q
    refine ⟨_, rfl, p, _, 0, .str h, rfl, rfl, SqT.of hp, atI_nat (j := 0) rfl, dD, deedsV, rfl, .inr (Z.k_DEEDS H), rfl, rfl, _, rfl, ?_⟩
    show if inV (.str h) deedsV = true then _ else _
    cases hi : inV (.str h) deedsV with
    | true =>
      rw [hi] at hb
      cases hb
      exact q
    | false =>
      rw [hi] at hb
      refine ⟨_, rfl, p, _, 0, .str h, rfl, rfl, SqT.of hp, atI_nat (j := 0) rfl, rfl, ?_⟩
      cases hb
      exact q
  cases t with
  | val n =>
    obtain ⟨p, rfl, hp⟩ := ht
    exact first p _ _ _ _ rfl hp (iF (by decide +kernel) (first p _ _ _ _ rfl hp (iF (by decide +kernel) (last p _ _ false rfl hp (by decide +kernel) (q H Kp.refl)))))
  | nam x =>
    obtain ⟨p, rfl, hp⟩ := ht
    exact first p _ _ _ _ rfl hp (iF (by decide +kernel) (first p _ _ _ _ rfl hp (iF (by decide +kernel) (last p _ _ false rfl hp (by decide +kernel) (q H Kp.refl)))))
  | call1 fn a =>
    obtain ⟨p, q', u, rfl, hp, hq, _⟩ := ht
    exact first p _ _ _ _ rfl hp (iT (by decide +kernel) (call p q' fn [u] rfl hp hq (.inl rfl) ok.1 q))
  | call2 fn a b =>
    obtain ⟨p, q', u, u', rfl, hp, hq, _⟩ := ht
    exact first p _ _ _ _ rfl hp (iT (by decide +kernel) (call p q' fn [u, u'] rfl hp hq (.inr rfl) ok.1 q))
  | minus a =>
    obtain ⟨p, u, rfl, hp, _⟩ := ht
    exact first p _ _ _ _ rfl hp (iF (by decide +kernel) (first p _ _ _ _ rfl hp (iF (by decide +kernel) (last p _ _ true rfl hp (by decide +kernel) (q H Kp.refl)))))
  | pow a k =>
    obtain ⟨p, u, rfl, hp, _⟩ := ht
    refine first p _ _ _ _ rfl hp (iF (by decide +kernel) (first p _ _ _ _ rfl hp (iT (by decide +kernel) ?_)))
    refine ⟨_, rfl, p, _, 2, .int (k : Nat), rfl, rfl, SqT.of hp, rfl, (k : Nat), 0, 4, rfl, ?_⟩
    have h1 : k ≤ 4 := ok.2.1
    rw [decide_eq_true (show (0 : Int) ≤ (k : Nat) by omega), decide_eq_true (show ((k : Nat) : Int) ≤ 4 by omega)]
    exact q H Kp.refl
  | bin o a b =>
    obtain ⟨p, u, u', rfl, hp, _⟩ := ht
    cases o
    · exact first p _ _ _ _ rfl hp (iF (by decide +kernel) (first p _ _ _ _ rfl hp (iF (by decide +kernel) (last p _ _ true rfl hp (by decide +kernel) (q H Kp.refl)))))
    · exact first p _ _ _ _ rfl hp (iF (by decide +kernel) (first p _ _ _ _ rfl hp (iF (by decide +kernel) (last p _ _ true rfl hp (by decide +kernel) (q H Kp.refl)))))
    · exact first p _ _ _ _ rfl hp (iF (by decide +kernel) (first p _ _ _ _ rfl hp (iF (by decide +kernel) (last p _ _ true rfl hp (by decide +kernel) (q H Kp.refl)))))
    · exact first p _ _ _ _ rfl hp (iF (by decide +kernel) (first p _ _ _ _ rfl hp (iF (by decide +kernel) (last p _ _ true rfl hp (by decide +kernel) (q H Kp.refl)))))
end
end K2
set_option maxHeartbeats 4000000
/-! P6: the form of a tree; values alike. -/
namespace K2
open PySem PySem.Spec L2 DL
open PySem.W (Frag keepIn findIn typeIn subIn kitOne kitAny excIn)
open PyProof.Rows hiding St wpAt wpAt_bind wpAt_stack wpAt_mono
def sumSz : List Tr → Nat
  | [] => 0
  | t :: ts => t.sz + sumSz ts
theorem sumSz_append : ∀ (a b : List Tr), sumSz (a ++ b) = sumSz a + sumSz b
  | [], b => by simp [sumSz]
  | t :: a, b => by simp only [List.cons_append, sumSz, sumSz_append a b]; omega
theorem Tr.sz_pos (t : Tr) : 1 ≤ t.sz := by cases t <;> simp only [Tr.sz] <;> omega
theorem Tr.sz_parts (t : Tr) : t.sz = sumSz t.parts + 1 := by cases t <;> simp only [Tr.sz, Tr.parts, sumSz] <;> omega
theorem sumSz_len : ∀ ts : List Tr, ts.length ≤ sumSz ts
  | [] => Nat.le_refl _
  | t :: ts => by have := sumSz_len ts; have := t.sz_pos; simp only [List.length_cons, sumSz]; omega
theorem Tr.ok_parts {t : Tr} (h : t.ok) : ∀ u ∈ t.parts, u.ok := by
  cases t with
  | val n => intro u m; cases m
  | nam x => intro u m; cases m
  | call1 f a => intro u m; simp only [Tr.parts, List.mem_singleton] at m; rw [m]; exact h.2
  | call2 f a b => intro u m; simp only [Tr.parts, List.mem_cons, List.not_mem_nil, or_false] at m; rcases m with rfl | rfl; exact h.2.1; exact h.2.2
  | minus a => intro u m; simp only [Tr.parts, List.mem_singleton] at m; rw [m]; exact h
  | pow a k => intro u m; simp only [Tr.parts, List.mem_singleton] at m; rw [m]; exact h.1
  | bin o a b => intro u m; simp only [Tr.parts, List.mem_cons, List.not_mem_nil, or_false] at m; rcases m with rfl | rfl; exact h.1; exact h.2
section
variable {w : World} {K : Frag} {mg : Str → Option Value} {base : Heap} {f : Addr} {fd : FuncData} {dD dG dS : Addr}
theorem ok_parts_of (F : L2.Fun K "parts_of" "parts_of" s_parts_of f fd) (Z : Cns K w mg dD dG dS) : FnOk prg w K mg base CX0 1 f fd ["tree"] spParts := by
  have S := fs_parts_of
  refine F.ok S (fun vs H Q E h => by obtain ⟨x, _, rfl, _⟩ := h; rfl) fun cdv A outer s H vs Q E hr hsp => ?_
  obtain ⟨v, t, rfl, ht, hb, q⟩ := hsp
  refine ⟨_, (pss_cons (ps_if (pt_cmpR op_in_seq (pe_ix ix_tup (pv 0) pe_int (fun _ _ => rfl)) (pe_gR rfl Z.c_DEEDS) rfl) (pss_one (ps_ret (pe_slice sl_tupA (pv 0) (po_some pe_int) po_none))) pss_nil)
    (pss_cons (ps_if (pt_cmpR op_eq (pe_ix ix_tup (pv 0) pe_int (fun _ _ => rfl)) pe_str (nomark _)) (pss_one (ps_ret (pe_ix ix_tup (pv 0) pe_int (fun _ _ => rfl)))) pss_nil)
    (pss_one (ps_ret (pe_ifExp (pt_cmpR op_in_seq (pe_ix ix_tup (pv 0) pe_int (fun _ _ => rfl)) (pe_tup (pa_cons pe_str (pa_cons pe_str pa_nil))) rfl) (pe_tup (pa_cons (pe_ix ix_tup (pv 0) pe_int (fun _ _ => rfl)) pa_nil)) (pe_tup pa_nil)))))), ?_⟩
  have first : ∀ (p : Addr) (h : Str) (xs : List V) (P : Bool → Hp → Prop), v = .ref p → H p = some (.tup (.str h :: xs)) → P (inV (.str h) deedsV) H → tTest (tOp (rIn K false) (tOp (rIxT K) (tVar 0) (tC (.int 0))) (tC (.ref dD))) (L2.start n_parts_of [v]) H P := by
    rintro p h xs P rfl hp hP
    exact ⟨_, rfl, p, _, 0, .str h, rfl, rfl, SqT.of hp, atI_nat (j := 0) rfl, dD, deedsV, rfl, .inr (Z.k_DEEDS H), rfl, rfl, _, rfl, hP⟩
  have second : ∀ (p : Addr) (h : Str) (xs : List V) (P : Bool → Hp → Prop), v = .ref p → H p = some (.tup (.str h :: xs)) → P (decide (V.str h = V.str "call")) H → tTest (tOp rEq (tOp (rIxT K) (tVar 0) (tC (.int 0))) (tC (.str "call"))) (L2.start n_parts_of [v]) H P := by
    rintro p h xs P rfl hp hP
    exact ⟨_, rfl, p, _, 0, .str h, rfl, rfl, SqT.of hp, atI_nat (j := 0) rfl, rfl, _, rfl, hP⟩
  have third : ∀ (p : Addr) (h : Str) (u : V) (xs : List V), v = .ref p → H p = some (.tup (.str h :: u :: xs)) → inV (.str h) [.str "minus", .str "power"] = true → (∀ H' q', Kp [] H H' → H' q' = some (.tup [u]) → Q (.ref q') H') →
      tIf (tTest (tOp (rIn K false) (tOp (rIxT K) (tVar 0) (tC (.int 0))) (tTup (tCons (tC (.str "minus")) (tCons (tC (.str "power")) tNil))))) (tTup (tCons (tOp (rIxT K) (tVar 0) (tC (.int 1))) tNil)) (tTup tNil) (L2.start n_parts_of [v]) H Q := by
    rintro p h u xs rfl hp hi hQ
    refine ⟨_, rfl, p, _, 0, .str h, rfl, rfl, SqT.of hp, atI_nat (j := 0) rfl, by show 2 ≤ sizeLine; decide, fun p2 n2 => ⟨p2, _, rfl, .inr (SqT.of upd_same), rfl, rfl, _, rfl, iT hi ?_⟩⟩
    have k2 : Kp [] H (upd H p2 (.tup [.str "minus", .str "power"])) := Kp.new n2
    refine ⟨_, rfl, p, _, 1, u, rfl, rfl, SqT.of (k2.tup hp), atI_nat (j := 1) rfl, by show 1 ≤ sizeLine; decide, fun p3 n3 => hQ _ p3 (k2.trans (Kp.new n3)) upd_same⟩
  cases t with
  | val n => cases hb
  | nam x => cases hb
  | call1 fn a =>
    obtain ⟨p, q', u, rfl, hp, hq, ha⟩ := ht
    exact first p _ _ _ rfl hp (iF (by decide +kernel) (second p _ _ _ rfl hp (iT (by decide +kernel) ⟨_, rfl, p, _, 2, .ref q', rfl, rfl, SqT.of hp, atI_nat (j := 2) rfl, q H q' _ Kp.refl hq (.cons ha .nil)⟩)))
  | call2 fn a b =>
    obtain ⟨p, q', u, u', rfl, hp, hq, ha, hb'⟩ := ht
    exact first p _ _ _ rfl hp (iF (by decide +kernel) (second p _ _ _ rfl hp (iT (by decide +kernel) ⟨_, rfl, p, _, 2, .ref q', rfl, rfl, SqT.of hp, atI_nat (j := 2) rfl, q H q' _ Kp.refl hq (.cons ha (.cons hb' .nil))⟩)))
  | minus a =>
    obtain ⟨p, u, rfl, hp, ha⟩ := ht
    exact first p _ _ _ rfl hp (iF (by decide +kernel) (second p _ _ _ rfl hp (iF (by decide +kernel) (third p _ u _ rfl hp (by decide +kernel) fun H' q' k e => q H' q' _ k e (.cons (ha.kp k) .nil)))))
  | pow a k =>
    obtain ⟨p, u, rfl, hp, ha⟩ := ht
    exact first p _ _ _ rfl hp (iF (by decide +kernel) (second p _ _ _ rfl hp (iF (by decide +kernel) (third p _ u _ rfl hp (by decide +kernel) fun H' q' k e => q H' q' _ k e (.cons (ha.kp k) .nil)))))
  | bin o a b =>
    obtain ⟨p, u, u', rfl, hp, ha, hb'⟩ := ht
    have fin : tSl (rSlA K) (tVar 0) (tPart (tC (.int 1))) tNoPart (L2.start n_parts_of [.ref p]) H Q := by
      refine ⟨_, rfl, _, rfl, p, _, rfl, SqT.of hp, fun h => absurd h.1 (by show ¬ HT.sIx 3 0 (some 1) = 0; decide), fun _ p2 n2 => ?_⟩
      have k2 : Kp [] H (upd H p2 (.tup (cutV [.str o.s, u, u'] (some 1) none))) := Kp.new n2
      exact q _ p2 [u, u'] k2 upd_same (.cons (ha.kp k2) (.cons (hb'.kp k2) .nil))
    cases o
    · exact first p _ _ _ rfl hp (iT (by decide +kernel) fin)
    · exact first p _ _ _ rfl hp (iT (by decide +kernel) fin)
    · exact first p _ _ _ rfl hp (iT (by decide +kernel) fin)
    · exact first p _ _ _ rfl hp (iT (by decide +kernel) fin)
theorem ok_has_tree_form (F : L2.Fun K "has_tree_form" "has_tree_form" s_has_tree_form f fd) (T : Nms mg) (Z : Cns K w mg dD dG dS) (c_is_headed : ClO prg w K mg base CX0 2 "is_headed" spHeaded []) (c_is_leaf : ClO prg w K mg base CX0 5 "is_leaf" spLeaf []) (c_is_branch : ClO prg w K mg base CX0 5 "is_branch" spBranch [])
    (c_parts_of : ClO prg w K mg base CX0 1 "parts_of" spParts []) : FnOk prg w K mg base CX0 6 f fd ["value"] spForm := by
  have S := fs_has_tree_form
  refine F.ok S (fun vs H Q E h => by obtain ⟨x, _, rfl, _⟩ := h; rfl) fun cdv A outer s H vs Q E hr hsp => ?_
  obtain ⟨v, t, rfl, ht, okt, hsz, q⟩ := hsp
  have DK : DictK K prg w dS sizesKv := Z.k_SIZES
  refine ⟨_, (pss_cons (ps_par (i := 1) (j := 2) (by rfl) S.nd rfl rfl (by decide) rfl rfl (pa_cons (pe_lst (pa_cons (pv 0) pa_nil)) (pa_cons pe_int pa_nil)) (by rfl))
    (pss_cons (ps_while PassesOwn.never (pt_cmpR op_lt (pv 2) (pe_callB call_len_seq (by rfl) T.n_len (by decide +kernel) (pa_cons (pv 1) pa_nil)) (nomark _)) (pss_cons (ps_par (i := 3) (j := 2) (by rfl) S.nd rfl rfl (by decide) rfl rfl (pa_cons (pe_ix ix_list (pv 1) (pv 2) (fun _ _ => rfl)) (pa_cons (pe_op op_add (pv 2) pe_int) pa_nil)) (by rfl))
    (pss_cons (ps_if (PW.pt (pw_or (pt_not (pt_val (pe_clo c_is_headed hr (by decide) rfl (pa_cons (pv 3) (pa_cons (pe_callTy (call_dictK DK) (by rfl) T.n_dict (by decide +kernel) (pa_cons (pe_gR rfl Z.c_SIZES) pa_nil)) pa_nil))))) (pw_or1 (pt_cmpR op_gt (pe_callB call_len_seq (by rfl) T.n_len (by decide +kernel) (pa_cons (pv 1) pa_nil)) (pe_gI rfl Z.c_MOST_PLACES) (nomark _))))) (pss_one (ps_ret pe_bl)) pss_nil)
    (pss_one (ps_if (pt_val (pe_clo c_is_branch hr (by decide) rfl (pa_cons (pv 3) pa_nil))) (pss_one (ps_expr (pe_bm PySem.F.plainAttrs_list PySem.F.slot_list_extend PySem.F.type_list_extend mt_extendT (pv 1) (pa_cons (pe_clo c_parts_of hr (by decide) rfl (pa_cons (pv 3) pa_nil)) pa_nil)))) (pss_one (ps_if (pt_not (pt_val (pe_clo c_is_leaf hr (by decide) rfl (pa_cons (pv 3) pa_nil)))) (pss_one (ps_ret pe_bl)) pss_nil)))))))
    (pss_one (ps_ret pe_bl)))), ?_⟩
  have sl : sizeLine = 16777216 := sizeLine_eq
  refine ⟨_, rfl, by show 1 ≤ sizeLine; omega, fun fl nfl => ⟨_, _, rfl, ?_⟩⟩
  refine ⟨fun m σ H' => ∃ (at_ : Nat) (o3 : Option V) (ls : List V) (ts : List Tr), m = sumSz (ts.drop at_) ∧ σ = [some v, some (.ref fl), some (.int at_), o3] ∧ Kp [fl] H H' ∧ H' fl = some (.lst ls) ∧ TrsAt H' ls ts ∧ at_ + sumSz (ts.drop at_) ≤ 40 ∧ (∀ u ∈ ts, u.ok) ∧ at_ ≤ ts.length,
    ⟨_, 0, none, [v], [t], rfl, rfl, Kp.new nfl, upd_same, .cons (ht.kp (Kp.new (D := []) nfl)) .nil, by simpa [sumSz] using hsz, by simpa using okt, Nat.zero_le _⟩, fun m σ H' h => ?_⟩
  obtain ⟨at_, o3, ls, ts, rfl, rfl, k, hfl, hT, h40, hok, hle⟩ := h
  have hll := hT.length
  refine ⟨_, rfl, _, rfl, fl, ls, rfl, .inl (SqL.of hfl), _, _, rfl, rfl, _, rfl, ?_⟩
  by_cases hat : at_ < ts.length
  · refine iT (decide_eq_true (by omega)) ⟨fun σ' H'' => ∃ m', m' < sumSz (ts.drop at_) ∧ ∃ (at_ : Nat) (o3 : Option V) (ls : List V) (ts : List Tr), m' = sumSz (ts.drop at_) ∧ σ' = [some v, some (.ref fl), some (.int at_), o3] ∧ Kp [fl] H H'' ∧ H'' fl = some (.lst ls) ∧ TrsAt H'' ls ts ∧ at_ + sumSz (ts.drop at_) ≤ 40 ∧ (∀ u ∈ ts, u.ok) ∧ at_ ≤ ts.length, fun _ _ q => q, ?_⟩
    have hdr := List.drop_eq_getElem_cons hat
    have hu : ts[at_]? = some ts[at_] := List.getElem?_eq_getElem hat
    generalize ts[at_] = u at hdr hu
    obtain ⟨x, hx, hxu⟩ := hT.get at_ hu
    have oku := hok u (List.mem_of_getElem? hu)
    rw [hdr] at h40 ⊢
    simp only [sumSz] at h40 ⊢
    have hsu := u.sz_parts
    refine ⟨_, rfl, _, rfl, fl, ls, _, x, rfl, rfl, SqL.of hfl, atI_nat hx, _, rfl, _, _, rfl, rfl, _, _, rfl, ?_⟩
    refine ⟨_, rfl, rfl, fun d nd => ?_⟩
    have k1 : Kp [fl] H' (upd H' d (.dK sizesKv)) := Kp.new nd
    have hfl1 : (upd H' d (.dK sizesKv)) fl = some (.lst ls) := by rw [upd_ne (ne_of_none hfl nd)]; exact hfl
    have hd1 : (upd H' d (.dK sizesKv)) d = some (.dK sizesKv) := upd_same
    have hT1 := hT.kp k1
    have hxu1 := hxu.kp k1
    have k01 := k.trans k1
    generalize upd H' d (.dK sizesKv) = H1 at k1 hfl1 hd1 hT1 hxu1 k01 ⊢
    refine ⟨x, d, u, rfl, hxu1, hd1, true, rfl, iteF ?_⟩
    refine ⟨_, rfl, fl, ls, rfl, .inl (SqL.of hfl1), _, _, rfl, rfl, _, rfl, iF (decide_eq_false ?_) ?_⟩
    · have h1 : ts.length = at_ + (ts.drop at_).length := by rw [List.length_drop]; omega
      have h2 := sumSz_len (ts.drop at_)
      rw [hdr] at h1 h2
      simp only [sumSz] at h2
      omega
    refine ⟨_, rfl, x, u, rfl, hxu1, oku, fun H2 k2 => ⟨_, rfl, ?_⟩⟩
    have hfl2 : H2 fl = some (.lst ls) := k2.lst hfl1 (by simp)
    have hT2 := hT1.kp k2
    have hxu2 := hxu1.kp k2
    have k02 := k01.trans k2.of
    have hdr1 : ts.drop (at_ + 1) = (ts.drop at_).tail := by rw [List.tail_drop]
    rw [hdr, List.tail_cons] at hdr1
    cases hb : u.br with
    | true =>
      refine iteT ⟨_, rfl, .inl ⟨rfl, _, SqL.of hfl2⟩, _, rfl, x, u, rfl, hxu2, hb, fun H3 p xs k3 hp hxs => ?_⟩
      have hfl3 : H3 fl = some (.lst ls) := k3.lst hfl2 (by simp)
      have hxl := hxs.length
      have hpl := sumSz_len u.parts
      have h1 : ts.length ≤ 40 := by
        have h1 : ts.length = at_ + (ts.drop at_).length := by rw [List.length_drop]; omega
        have h2 := sumSz_len (ts.drop at_)
        rw [hdr] at h1 h2
        simp only [sumSz] at h2
        omega
      refine ⟨fl, p, ls, xs, rfl, rfl, hfl3, SqT.of hp, by omega, ?_⟩
      have k4 : Kp [fl] H3 (upd H3 fl (.lst (ls ++ xs))) := Kp.put hfl3 rfl (by simp)
      have e1 : (ts ++ u.parts).drop (at_ + 1) = ts.drop (at_ + 1) ++ u.parts := List.drop_append_of_le_length (by omega)
      refine ⟨sumSz (ts.drop (at_ + 1)) + sumSz u.parts, by rw [hdr1]; omega, at_ + 1, _, ls ++ xs, ts ++ u.parts, by rw [e1, sumSz_append], rfl, (k02.trans k3.of).trans k4, upd_same, (hxs.append (hT2.kp k3)).kp k4, ?_, fun y m => ?_, by rw [List.length_append]; omega⟩
      · rw [e1, sumSz_append, hdr1]
        omega
      · rcases List.mem_append.mp m with m | m
        · exact hok y m
        · exact Tr.ok_parts oku y m
    | false =>
      refine iteF ⟨_, rfl, x, u, rfl, hxu2, oku, hb, fun H3 k3 => ⟨_, rfl, iteF ?_⟩⟩
      refine ⟨sumSz (ts.drop (at_ + 1)), by rw [hdr1]; have := u.sz_pos; omega, at_ + 1, _, ls, ts, rfl, rfl, k02.trans k3.of, k3.lst hfl2 (by simp), hT2.kp k3, ?_, hok, by omega⟩
      rw [hdr1]
      have := u.sz_pos
      omega
  · refine iF (decide_eq_false (by omega)) ?_
    exact q H' (k.drop nfl)
/-! ### values alike -/
def flat (v : V) : Prop := (∃ i, v = .int i) ∨ ∃ x, v = .str x
def SmA (H : Hp) : Nat → V → V → Prop
  | 0, v, u => v = u ∧ flat v
  | n + 1, v, u => (v = u ∧ flat v) ∨ ∃ a b xs ys, v = .ref a ∧ u = .ref b ∧ H a = some (.tup xs) ∧ H b = some (.tup ys) ∧ xs.length = ys.length ∧ xs.length ≤ 1000 ∧ ∀ (i : Nat) x y, xs[i]? = some x → ys[i]? = some y → SmA H n x y
theorem SmA.kp {H H' : Hp} {D : List Addr} (k : Kp D H H') : ∀ {n : Nat} {v u : V}, SmA H n v u → SmA H' n v u
  | 0, _, _, h => h
  | n + 1, _, _, .inl h => .inl h
  | n + 1, _, _, .inr ⟨a, b, xs, ys, e1, e2, h1, h2, l, z, g⟩ => .inr ⟨a, b, xs, ys, e1, e2, k.tup h1, k.tup h2, l, z, fun i x y p q => (g i x y p q).kp k⟩
def spSame : Nat → Sp
  | 0 => fun _ _ _ _ => False
  | n + 1 => fun vs H Q _ => ∃ v u, vs = [v, u] ∧ SmA H n v u ∧ ∀ H', Kp [] H H' → Q (.bl true) H'
def spSimple : Sp := fun vs H Q _ => ∃ v, vs = [v] ∧ flat v ∧ ∀ H', Kp [] H H' → Q (.bl true) H'
theorem ok_is_simple (F : L2.Fun K "is_simple" "is_simple" s_is_simple f fd) (T : Nms mg) : FnOk prg w K mg base CX0 1 f fd ["value"] spSimple := by
  have S := fs_is_simple
  refine F.ok S (fun vs H Q E h => by obtain ⟨x, rfl, _⟩ := h; rfl) fun cdv A outer s H vs Q E hr hsp => ?_
  obtain ⟨v, rfl, hf, q⟩ := hsp
  refine ⟨_, (pss_one (ps_ret (pe_or (pe_cmpR op_isN (pv 0) pe_non (nomark _)) (pe_one (pe_callB call_isiT (by rfl) T.n_isinstance (by decide +kernel) (pa_cons (pv 0) (pa_cons (pe_tup (pa_cons (pe_bltn (v := .ty "int") rfl T.n_int (by decide +kernel) rfl) (pa_cons (pe_bltn (v := .ty "str") rfl T.n_str (by decide +kernel) rfl) pa_nil))) pa_nil))))))), ?_⟩
  rcases hf with ⟨i, rfl⟩ | ⟨x, rfl⟩
  · refine ⟨_, rfl, rfl, _, rfl, iF (by rfl) ⟨_, rfl, by show 2 ≤ sizeLine; decide, fun p np => ?_⟩⟩
    exact ⟨.int i, p, _, _, [.type "int", .type "str"], true, rfl, upd_same, .cons (.ty _) (.cons (.ty _) .nil), .base (.int i), kitAny_cons kit_same (fun z => by cases z) (fun _ => rfl), q _ (Kp.new np)⟩
  · refine ⟨_, rfl, rfl, _, rfl, iF (by rfl) ⟨_, rfl, by show 2 ≤ sizeLine; decide, fun p np => ?_⟩⟩
    exact ⟨.str x, p, _, _, [.type "int", .type "str"], true, rfl, upd_same, .cons (.ty _) (.cons (.ty _) .nil), .base (.str x), kitAny_cons (kit_ty (b := "int") (r := false) (by decide +kernel)) (fun _ => kitAny_cons kit_same (fun z => by cases z) (fun _ => rfl)) (fun z => by cases z), q _ (Kp.new np)⟩
end
end K2
set_option maxHeartbeats 4000000
/-! P7: are_same; texts of trees. -/
namespace K2
open PySem PySem.Spec L2 DL
open PySem.W (Frag keepIn findIn typeIn subIn kitOne kitAny excIn)
open PyProof.Rows hiding St wpAt wpAt_bind wpAt_stack wpAt_mono
/-- a promise of nothing -/
def spNo : Sp := fun _ _ _ _ => False
theorem fnOk_no {w : World} {K : Frag} {mg : Str → Option Value} {base : Heap} {k : Nat} {f : Addr} {fd : FuncData} {ps : List Str} : FnOk prg w K mg base CX0 k f fd ps spNo :=
  ⟨fun _ _ _ _ h => h.elim, fun _ _ _ _ _ _ _ _ _ _ _ _ _ h => h.elim⟩
theorem kit_no {K : Frag} {a b : String} (h : kitB a b = some false) : kitOne K (.type a) (.type b) = some false := kit_ty h
section
variable {w : World} {K : Frag} {mg : Str → Option Value} {base : Heap} {f : Addr} {fd : FuncData} {dD dG dS : Addr}
theorem ok_are_same (n : Nat) (F : L2.Fun K "are_same" "are_same" s_are_same f fd) (T : Nms mg) (c_is_simple : ClO prg w K mg base CX0 1 "is_simple" spSimple []) (c_are_same : ClO prg w K mg base CX0 (n + 1) "are_same" (spSame n) []) : FnOk prg w K mg base CX0 (n + 2) f fd ["one", "two"] (spSame (n + 1)) := by
  have S := fs_are_same
  refine F.ok S (fun vs H Q E h => by obtain ⟨x, _, rfl, _⟩ := h; rfl) fun cdv A outer s H vs Q E hr hsp => ?_
  obtain ⟨v, u, rfl, hs, q⟩ := hsp
  refine ⟨_, (pss_cons (ps_if (PW.pt (pw_and (pt_val (pe_callB call_isi (by rfl) T.n_isinstance (by decide +kernel) (pa_cons (pv 0) (pa_cons (pe_bltn (v := .ty "tuple") rfl T.n_tuple (by decide +kernel) rfl) pa_nil)))) (pw_and1 (pt_val (pe_callB call_isi (by rfl) T.n_isinstance (by decide +kernel) (pa_cons (pv 1) (pa_cons (pe_bltn (v := .ty "tuple") rfl T.n_tuple (by decide +kernel) rfl) pa_nil))))))) (pss_one (ps_ret (pe_and (pe_cmpR op_eq (pe_callB call_len_seq (by rfl) T.n_len (by decide +kernel) (pa_cons (pv 0) pa_nil)) (pe_callB call_len_seq (by rfl) T.n_len (by decide +kernel) (pa_cons (pv 1) pa_nil)) (nomark _)) (pe_one (pe_callB (cr_all (by rfl)) (by rfl) T.n_all (by decide +kernel) (pa_cons (pe_lc (own := [("first", 2), ("other", 3)]) (g := gTup K 2 (gCons (gName 2) (gCons (gName 3) gNil))) (tt := tYes) (by rfl) S.nd (RZ.pi_zipA (by rfl) T.n_zip (pa_cons (pv 0) (pa_cons (pv 1) pa_nil))) (blkOk_by (own := [("first", 2), ("other", 3)]) (N := n_are_same) (sc := defScope s_are_same) (by decide +kernel)) (fun _ _ _ _ _ => (pg_tup rfl (pgs_cons (pg_name (i := 2) S.nd rfl (Or.inl rfl)) (pgs_cons (pg_name (i := 3) S.nd rfl (Or.inl rfl)) pgs_nil)))) (fun _ _ _ _ _ => pts_nil) (fun _ _ _ _ _ => (pe_clo c_are_same hr (Nat.le_refl _) rfl (pa_cons (pv 2) (pa_cons (pv 3) pa_nil))))) pa_nil)))))) pss_nil)
    (pss_cons (ps_if (PW.pt (pw_or (pt_val (pe_callB call_isi (by rfl) T.n_isinstance (by decide +kernel) (pa_cons (pv 0) (pa_cons (pe_bltn (v := .ty "tuple") rfl T.n_tuple (by decide +kernel) rfl) pa_nil)))) (pw_or (pt_val (pe_callB call_isi (by rfl) T.n_isinstance (by decide +kernel) (pa_cons (pv 1) (pa_cons (pe_bltn (v := .ty "tuple") rfl T.n_tuple (by decide +kernel) rfl) pa_nil)))) (pw_or1 (pt_cmpR op_ne (pe_callB call_isi (by rfl) T.n_isinstance (by decide +kernel) (pa_cons (pv 0) (pa_cons (pe_bltn (v := .ty "bool") rfl T.n_bool (by decide +kernel) rfl) pa_nil))) (pe_callB call_isi (by rfl) T.n_isinstance (by decide +kernel) (pa_cons (pv 1) (pa_cons (pe_bltn (v := .ty "bool") rfl T.n_bool (by decide +kernel) rfl) pa_nil))) (nomark _)))))) (pss_one (ps_ret pe_bl)) pss_nil)
    (pss_cons (ps_if (PW.pt (pw_or (pt_not (pt_val (pe_clo c_is_simple hr (by omega) rfl (pa_cons (pv 0) pa_nil)))) (pw_or1 (pt_not (pt_val (pe_clo c_is_simple hr (by omega) rfl (pa_cons (pv 1) pa_nil))))))) (pss_one (ps_ret pe_bl)) pss_nil)
    (pss_one (ps_ret (pe_cmpR op_eq (pv 0) (pv 1) (nomark _))))))), ?_⟩
  have simple : v = u → flat v → ∃ ty : String, (∀ H', TyX K H' v (.type ty)) ∧ kitOne K (.type ty) (.type "tuple") = some false ∧ kitOne K (.type ty) (.type "bool") = some false ∧ scal v v = true := by
    rintro rfl (⟨i, rfl⟩ | ⟨x, rfl⟩)
    · exact ⟨"int", fun _ => .base (.int i), kit_ty (by decide +kernel), kit_ty (by decide +kernel), rfl⟩
    · exact ⟨"str", fun _ => .base (.str x), kit_ty (by decide +kernel), kit_ty (by decide +kernel), rfl⟩
  have plain : v = u → flat v → (∃ t0 : TS, t0 = t0) → True := fun _ _ _ => trivial
  have sl : sizeLine = 16777216 := sizeLine_eq
  have hs' : (v = u ∧ flat v) ∨ ∃ a b xs ys m, n = m + 1 ∧ v = .ref a ∧ u = .ref b ∧ H a = some (.tup xs) ∧ H b = some (.tup ys) ∧ xs.length = ys.length ∧ xs.length ≤ 1000 ∧ ∀ (i : Nat) x y, xs[i]? = some x → ys[i]? = some y → SmA H m x y := by
    cases n with
    | zero => exact .inl hs
    | succ m =>
      rcases hs with h | ⟨a, b, xs, ys, e1, e2, h1, h2, l, z, g⟩
      · exact .inl h
      · exact .inr ⟨a, b, xs, ys, m, rfl, e1, e2, h1, h2, l, z, g⟩
  rcases hs' with ⟨e, hf⟩ | ⟨a, b, xs, ys, m, rfl, rfl, rfl, ha, hb, hl, hz, hg⟩
  · obtain ⟨ty, h1, h2, h3, h4⟩ := simple e hf
    subst e
    refine ⟨_, rfl, v, .ty "tuple", _, _, false, rfl, .ty _, h1 H, h2, false, rfl, iteF (iteF ?_)⟩
    refine ⟨_, rfl, v, .ty "tuple", _, _, false, rfl, .ty _, h1 H, h2, false, rfl, iteF ?_⟩
    refine ⟨_, rfl, v, .ty "tuple", _, _, false, rfl, .ty _, h1 H, h2, false, rfl, iteF ?_⟩
    refine ⟨_, rfl, v, .ty "bool", _, _, false, rfl, .ty _, h1 H, h3, _, rfl, v, .ty "bool", _, _, false, rfl, .ty _, h1 H, h3, rfl, _, rfl, iF (by rfl) ?_⟩
    refine ⟨_, rfl, v, rfl, hf, fun H1 k1 => ⟨true, rfl, iteF ⟨_, rfl, v, rfl, hf, fun H2 k2 => ⟨true, rfl, iteF ?_⟩⟩⟩⟩
    refine ⟨_, rfl, _, rfl, h4, ?_⟩
    rw [decide_eq_true rfl]
    exact q _ (k1.trans k2)
  · refine ⟨_, rfl, .ref a, .ty "tuple", _, _, true, rfl, .ty _, .base (.tup ha), kit_same, true, rfl, iteT ?_⟩
    refine ⟨_, rfl, .ref b, .ty "tuple", _, _, true, rfl, .ty _, .base (.tup hb), kit_same, true, rfl, iteT ?_⟩
    refine ⟨_, rfl, a, xs, rfl, .inr (SqT.of ha), _, rfl, b, ys, rfl, .inr (SqT.of hb), rfl, _, rfl, iT (decide_eq_true (by rw [hl])) ?_⟩
    refine ⟨_, rfl, _, rfl, a, b, xs, ys, rfl, .inr ⟨SqT.of ha, SqT.of hb, fun D nD => ?_⟩⟩
    refine lc_any xs.length (fun i Hb => Kp [D] H Hb ∧ Hb D = some (.lst ((List.replicate i true).map V.bl))) ⟨Kp.new nD, upd_same⟩ (fun i Hb hi h => ?_) (fun Hb h => ?_) (fun i x Hb Hb' hi h y => ?_) fun Hb h => ?_
    · exact ⟨xs, ys, xs[i], ys[i]'(by omega), SqT.of (h.1.tup ha), SqT.of (h.1.tup hb), by simp [hi], by simp [hl ▸ hi]⟩
    · exact ⟨xs, ys, SqT.of (h.1.tup ha), SqT.of (h.1.tup hb), .inl (Nat.le_refl _)⟩
    · obtain ⟨t, x1, y1, rfl, nt, rfl, hx, hy⟩ := y
      have kt : Kp [D] H (upd Hb t (.tup [x1, y1])) := h.1.trans (Kp.new nt)
      refine ⟨t, _, rfl, SqT.of upd_same, rfl, _, _, rfl, _, _, rfl, rfl, rfl, ?_⟩
      refine ⟨_, rfl, _, rfl, x1, y1, rfl, (hg i x1 y1 (hx xs (SqT.of (h.1.tup ha))) (hy ys (SqT.of (h.1.tup hb)))).kp kt, fun H2 k2 => ?_⟩
      have hD2 : H2 D = some (.lst ((List.replicate i true).map V.bl)) := k2.lst (by rw [upd_ne (ne_of_none h.2 nt)]; exact h.2) (by simp)
      refine ⟨_, hD2, by rw [List.length_map, List.length_replicate]; omega, (kt.trans k2.of).trans (Kp.put hD2 rfl (by simp)), ?_⟩
      rw [upd_same, List.replicate_succ']
      simp
    · refine ⟨D, _, rfl, SqL.of h.2, ?_⟩
      rw [show (List.replicate xs.length true).all id = true by simp]
      exact q _ (h.1.drop nD)
theorem all_same (F : L2.Fun K "are_same" "are_same" s_are_same f fd) (T : Nms mg) (c_is_simple : ClO prg w K mg base CX0 1 "is_simple" spSimple []) (hm : mg "are_same" = some (.ref f)) (hk : keepIn K (.ref f) = true) (hb : L2.Binds K fd ["one", "two"] []) : ∀ n, ClO prg w K mg base CX0 (n + 1) "are_same" (spSame n) []
  | 0 => ⟨f, fd, _, [], fnOk_no, hm, hk, hb, .nil⟩
  | n + 1 => ⟨f, fd, _, [], ok_are_same n F T c_is_simple (all_same F T c_is_simple hm hk hb n), hm, hk, hb, .nil⟩
end
/-! ### texts -/
def cat (ps : List Str) : Str := ⟨(ps.flatMap fun p => p.cps.toList).toArray⟩
theorem str_ext {x y : Str} (h : x.cps.toList = y.cps.toList) : x = y := by
  obtain ⟨⟨a⟩⟩ := x
  obtain ⟨⟨b⟩⟩ := y
  cases h
  rfl
theorem app_cps (x y : Str) : (x ++ y).cps.toList = x.cps.toList ++ y.cps.toList := by
  show (x.cps ++ y.cps).toList = _
  simp
theorem cat_cps (ps : List Str) : (cat ps).cps.toList = ps.flatMap fun p => p.cps.toList := by simp [cat]
theorem cat_cons (p : Str) (ps : List Str) : cat (p :: ps) = p ++ cat ps := str_ext (by rw [app_cps, cat_cps, cat_cps, List.flatMap_cons])
theorem cat_app (a b : List Str) : cat (a ++ b) = cat a ++ cat b := str_ext (by rw [app_cps, cat_cps, cat_cps, cat_cps, List.flatMap_append])
theorem cat_one (p : Str) : cat [p] = p := str_ext (by rw [cat_cps]; simp)
theorem app_assoc (x y z : Str) : x ++ y ++ z = x ++ (y ++ z) := str_ext (by simp only [app_cps, List.append_assoc])
theorem app_length (x y : Str) : (x ++ y).length = x.length + y.length := by
  show (x.cps ++ y.cps).size = _
  rw [Array.size_append]
  rfl
def Op.lv : Op → Nat
  | .add => 0 | .sub => 0 | .mul => 1 | .div => 1
def Tr.lv : Tr → Nat
  | .minus _ => 0 | .pow _ _ => 2 | .bin o _ _ => o.lv | _ => 3
def wrp (l l' : Nat) (ps : List Str) : List Str := if l' ≤ l then ps else [("(" : Str)] ++ ps ++ [(")" : Str)]
def Tr.pr : Tr → List Str
  | .val n => [numT n]
  | .nam x => [x]
  | .call1 f a => [f, ("(" : Str)] ++ a.pr ++ [(")" : Str)]
  | .call2 f a b => [f, ("(" : Str)] ++ a.pr ++ [("," : Str), (" " : Str)] ++ b.pr ++ [(")" : Str)]
  | .minus a => [("-" : Str)] ++ wrp a.lv 1 a.pr
  | .pow a k => wrp a.lv 3 a.pr ++ [("^" : Str), numT k]
  | .bin o a b => wrp a.lv o.lv a.pr ++ [(" " : Str), o.s, (" " : Str)] ++ wrp b.lv (o.lv + 1) b.pr
theorem wrp_len (l l' : Nat) (ps : List Str) : (cat (wrp l l' ps)).length ≤ (cat ps).length + 2 := by
  unfold wrp
  split
  · omega
  · rw [cat_app, cat_app, app_length, app_length, cat_one, cat_one]
    show 1 + _ + 1 ≤ _
    omega
theorem nm_len {x : Str} (h : nmOk x = true) : x.length ≤ 8 := by
  unfold nmOk at h
  exact of_decide_eq_true (Bool.and_eq_true_iff.mp h).2
theorem nu_len {x : Str} (h : nuOk x = true) : x.length ≤ 6 := by
  unfold nuOk at h
  exact of_decide_eq_true (Bool.and_eq_true_iff.mp (Bool.and_eq_true_iff.mp h).2).1
theorem Op.s_len (o : Op) : o.s.length = 1 := by cases o <;> decide +kernel
theorem Tr.pr_len {t : Tr} (h : t.ok) : (cat t.pr).length ≤ 20 * t.sz := by
  induction t with
  | val n =>
    have := nu_len h.1
    simp only [Tr.pr, Tr.sz, cat_one]
    omega
  | nam x =>
    have := nm_len h
    simp only [Tr.pr, Tr.sz, cat_one]
    omega
  | call1 f a ih =>
    have := ih h.2
    have := nm_len h.1
    simp only [Tr.pr, Tr.sz, cat_app, cat_cons, app_length, cat_one]
    have e1 : ("(" : Str).length = 1 := by decide +kernel
    have e2 : (")" : Str).length = 1 := by decide +kernel
    have e5 : (cat []).length = 0 := by decide +kernel
    omega
  | call2 f a b iha ihb =>
    have := iha h.2.1
    have := ihb h.2.2
    have := nm_len h.1
    simp only [Tr.pr, Tr.sz, cat_app, cat_cons, app_length, cat_one]
    have e1 : ("(" : Str).length = 1 := by decide +kernel
    have e2 : (")" : Str).length = 1 := by decide +kernel
    have e3 : ("," : Str).length = 1 := by decide +kernel
    have e4 : (" " : Str).length = 1 := by decide +kernel
    have e5 : (cat []).length = 0 := by decide +kernel
    omega
  | minus a ih =>
    have := ih h
    have := wrp_len a.lv 1 a.pr
    simp only [Tr.pr, Tr.sz, cat_app, app_length, cat_one]
    have e1 : ("-" : Str).length = 1 := by decide +kernel
    omega
  | pow a k ih =>
    have := ih h.1
    have := nu_len h.2.2.1
    have := wrp_len a.lv 3 a.pr
    simp only [Tr.pr, Tr.sz, cat_app, cat_cons, app_length, cat_one]
    have e1 : ("^" : Str).length = 1 := by decide +kernel
    have e5 : (cat []).length = 0 := by decide +kernel
    omega
  | bin o a b iha ihb =>
    have := iha h.1
    have := ihb h.2
    have := wrp_len a.lv o.lv a.pr
    have := wrp_len b.lv (o.lv + 1) b.pr
    have := o.s_len
    simp only [Tr.pr, Tr.sz, cat_app, cat_cons, app_length, cat_one]
    have e4 : (" " : Str).length = 1 := by decide +kernel
    have e5 : (cat []).length = 0 := by decide +kernel
    omega
end K2
set_option maxHeartbeats 4000000
/-! P8: the texts of trees, by the program. -/
namespace K2
open PySem PySem.Spec L2 DL
open PySem.W (Frag keepIn findIn typeIn subIn kitOne kitAny excIn)
open PyProof.Rows hiding St wpAt wpAt_bind wpAt_stack wpAt_mono
/-- a text, within brackets if it binds too little -/
def AL (x : Str) (l m : Nat) : Str := if m ≤ l then x else "(" ++ x ++ ")"
theorem al_wrp (ps : List Str) (l m : Nat) : AL (cat ps) l m = cat (wrp l m ps) := by
  unfold AL wrp
  split
  · rfl
  · rw [cat_app, cat_app, cat_one, cat_one]
theorem al_len (x : Str) (l m : Nat) : (AL x l m).length ≤ x.length + 2 := by
  unfold AL
  split
  · omega
  · rw [app_length, app_length]
    show 1 + _ + 1 ≤ _
    omega
theorem app_nil (x : Str) : x ++ cat [] = x := str_ext (by rw [app_cps, cat_cps]; simp)
theorem hd_leaf (t : Tr) : inV (.str t.hd) [.str "value", .str "name"] = !t.br := by
  cases t with
  | val n => show inV (.str "value") [.str "value", .str "name"] = true; decide +kernel
  | nam x => show inV (.str "name") [.str "value", .str "name"] = true; decide +kernel
  | call1 f a => show inV (.str "call") [.str "value", .str "name"] = false; decide +kernel
  | call2 f a b => show inV (.str "call") [.str "value", .str "name"] = false; decide +kernel
  | minus a => show inV (.str "minus") [.str "value", .str "name"] = false; decide +kernel
  | pow a k => show inV (.str "power") [.str "value", .str "name"] = false; decide +kernel
  | bin o a b =>
    cases o
    · show inV (.str "+") [.str "value", .str "name"] = false; decide +kernel
    · show inV (.str "-") [.str "value", .str "name"] = false; decide +kernel
    · show inV (.str "*") [.str "value", .str "name"] = false; decide +kernel
    · show inV (.str "/") [.str "value", .str "name"] = false; decide +kernel
def spAtLeast : Sp := fun vs H Q _ => ∃ (p : Addr) (x : Str) (l m : Nat), vs = [.ref p, .int m] ∧ H p = some (.tup [.str x, .int l]) ∧ x.length ≤ 10000 ∧ Q (.str (AL x l m)) H
def spDeedT : Sp := fun vs H Q _ => ∃ (o : Op) (p q : Addr) (x y : Str) (l m : Nat), vs = [.str o.s, .ref p, .ref q] ∧ H p = some (.tup [.str x, .int l]) ∧ H q = some (.tup [.str y, .int m]) ∧ x.length ≤ 10000 ∧ y.length ≤ 10000 ∧
  ∀ H' r, Kp [] H H' → H' r = some (.tup [.str (AL x l o.lv ++ " " ++ o.s ++ " " ++ AL y m (o.lv + 1)), .int (o.lv : Nat)]) → Q (.ref r) H'
def spLev : Nat → Sp
  | 0 => spNo
  | n + 1 => fun vs H Q _ => ∃ (v : V) (t : Tr), vs = [v] ∧ TrAt H t v ∧ t.ok ∧ t.ht ≤ n ∧ t.sz ≤ 40 ∧ ∀ H' r, Kp [] H H' → H' r = some (.tup [.str (cat t.pr), .int (t.lv : Nat)]) → Q (.ref r) H'
def spSumT : Sp := fun vs H Q _ => ∃ (v : V) (t : Tr), vs = [v] ∧ TrAt H t v ∧ t.ok ∧ t.ht ≤ 11 ∧ t.sz ≤ 40 ∧ ∀ H', Kp [] H H' → Q (.str (cat t.pr)) H'
theorem small_log {n : Nat} (h : n ≤ 999999) : ((n : Nat) : Int).natAbs.log2 < 1920 := by
  rw [Int.natAbs_natCast]
  by_cases z : n = 0
  · rw [z]
    decide +kernel
  · exact (Nat.log2_lt z).mpr (Nat.lt_of_le_of_lt h (Nat.lt_of_lt_of_le (show 999999 < 2 ^ 20 by decide) (Nat.pow_le_pow_right (by decide) (by decide))))
section
variable {w : World} {K : Frag} {mg : Str → Option Value} {base : Heap} {f : Addr} {fd : FuncData} {dD dG dS : Addr}
theorem ok_at_least (F : L2.Fun K "at_least" "at_least" s_at_least f fd) : FnOk prg w K mg base CX0 1 f fd ["told", "level"] spAtLeast := by
  have S := fs_at_least
  refine F.ok S (fun vs H Q E h => by obtain ⟨x, _, _, _, rfl, _⟩ := h; rfl) fun cdv A outer s H vs Q E hr hsp => ?_
  obtain ⟨p, x, l, m, rfl, hp, hx, q⟩ := hsp
  refine ⟨_, (pss_one (ps_ret (pe_ifExp (pt_cmpR op_ge (pe_ix ix_tup (pv 0) pe_int (fun _ _ => rfl)) (pv 1) (nomark _)) (pe_ix ix_tup (pv 0) pe_int (fun _ _ => rfl)) (pe_op op_add_str (pe_op op_add_str pe_str (pe_ix ix_tup (pv 0) pe_int (fun _ _ => rfl))) pe_str)))), ?_⟩
  have sl : sizeLine = 16777216 := sizeLine_eq
  have e1 : ("(" : Str).length = 1 := by decide +kernel
  have e2 : (")" : Str).length = 1 := by decide +kernel
  refine ⟨_, rfl, p, _, 1, .int l, rfl, rfl, SqT.of hp, rfl, _, rfl, _, _, rfl, rfl, _, rfl, ?_⟩
  unfold AL at q
  by_cases h : m ≤ l
  · rw [if_pos h] at q
    exact iT (decide_eq_true (by omega)) ⟨_, rfl, p, _, 0, .str x, rfl, rfl, SqT.of hp, rfl, q⟩
  · rw [if_neg h] at q
    refine iF (decide_eq_false (by omega)) ⟨_, rfl, p, _, 0, .str x, rfl, rfl, SqT.of hp, rfl, _, _, rfl, rfl, by omega, _, _, rfl, rfl, ?_, q⟩
    rw [app_length]
    omega
theorem ok_deed_text (F : L2.Fun K "deed_text" "deed_text" s_deed_text f fd) (Z : Cns K w mg dD dG dS) (c_at_least : ClO prg w K mg base CX0 1 "at_least" spAtLeast []) : FnOk prg w K mg base CX0 2 f fd ["deed", "one", "other"] spDeedT := by
  have S := fs_deed_text
  refine F.ok S (fun vs H Q E h => by obtain ⟨x, _, _, _, _, _, _, rfl, _⟩ := h; rfl) fun cdv A outer s H vs Q E hr hsp => ?_
  obtain ⟨o, p, q', x, y, l, m, rfl, hp, hq, hx, hy, q⟩ := hsp
  refine ⟨_, (pss_cons (ps_set (i := 3) S.nd rfl (Or.inl rfl) (pe_ifExp (pt_cmpR op_in_seq (pv 0) (pe_tup (pa_cons pe_str (pa_cons pe_str pa_nil))) rfl) (pe_gI rfl Z.c_SUM) (pe_gI rfl Z.c_TERM)))
    (pss_one (ps_ret (pe_tup (pa_cons (pe_op op_add_str (pe_op op_add_str (pe_op op_add_str (pe_op op_add_str (pe_clo c_at_least hr (by decide) rfl (pa_cons (pv 1) (pa_cons (pv 3) pa_nil))) pe_str) (pv 0)) pe_str) (pe_clo c_at_least hr (by decide) rfl (pa_cons (pv 2) (pa_cons (pe_op op_add (pv 3) pe_int) pa_nil)))) (pa_cons (pv 3) pa_nil)))))), ?_⟩
  have sl : sizeLine = 16777216 := sizeLine_eq
  have e1 : (" " : Str).length = 1 := by decide +kernel
  have eo := o.s_len
  have a1 := al_len x l o.lv
  have a2 := al_len y m (o.lv + 1)
  have rest : ∀ H1, Kp [] H H1 → tRet (tTup (tCons (tOp (fun x y H Q => ∃ i j, x = .str i ∧ y = .str j ∧ i.length + j.length ≤ sizeLine ∧ Q (.str (i ++ j)) H) (tOp (fun x y H Q => ∃ i j, x = .str i ∧ y = .str j ∧ i.length + j.length ≤ sizeLine ∧ Q (.str (i ++ j)) H) (tOp (fun x y H Q => ∃ i j, x = .str i ∧ y = .str j ∧ i.length + j.length ≤ sizeLine ∧ Q (.str (i ++ j)) H) (tOp (fun x y H Q => ∃ i j, x = .str i ∧ y = .str j ∧ i.length + j.length ≤ sizeLine ∧ Q (.str (i ++ j)) H) (tCall spAtLeast [] E0 (tCons (tVar 1) (tCons (tVar 3) tNil))) (tC (.str " "))) (tVar 0)) (tC (.str " "))) (tCall spAtLeast [] E0 (tCons (tVar 2) (tCons (tOp (rI0 fun i j => .int (i + j)) (tVar 3) (tC (.int 1))) tNil)))) (tCons (tVar 3) tNil)))
      { nx := fun _ H' => Q .non H', rt := Q } [some (.str o.s), some (.ref p), some (.ref q'), some (.int (o.lv : Nat))] H1 := fun H1 k1 => by
    refine ⟨_, rfl, _, rfl, p, x, l, o.lv, rfl, k1.tup hp, hx, _, _, rfl, rfl, by omega, _, rfl, _, _, rfl, rfl, ?_, _, _, rfl, rfl, ?_, _, rfl, _, rfl, _, _, rfl, rfl, q', y, m, o.lv + 1, rfl, k1.tup hq, hy, _, _, rfl, rfl, ?_, _, rfl, by show 2 ≤ sizeLine; decide, fun r nr => ?_⟩
    · rw [app_length]; omega
    · rw [app_length, app_length]; omega
    · rw [app_length, app_length, app_length]; omega
    · exact q _ r (k1.trans (Kp.new nr)) upd_same
  cases o
  · exact ⟨_, rfl, by show 2 ≤ sizeLine; decide, fun t nt => ⟨t, _, rfl, .inr (SqT.of upd_same), rfl, rfl, _, rfl, iT (by decide +kernel) (rest _ (Kp.new nt))⟩⟩
  · exact ⟨_, rfl, by show 2 ≤ sizeLine; decide, fun t nt => ⟨t, _, rfl, .inr (SqT.of upd_same), rfl, rfl, _, rfl, iT (by decide +kernel) (rest _ (Kp.new nt))⟩⟩
  · exact ⟨_, rfl, by show 2 ≤ sizeLine; decide, fun t nt => ⟨t, _, rfl, .inr (SqT.of upd_same), rfl, rfl, _, rfl, iF (by decide +kernel) (rest _ (Kp.new nt))⟩⟩
  · exact ⟨_, rfl, by show 2 ≤ sizeLine; decide, fun t nt => ⟨t, _, rfl, .inr (SqT.of upd_same), rfl, rfl, _, rfl, iF (by decide +kernel) (rest _ (Kp.new nt))⟩⟩
theorem ok_leveled (n : Nat) (F : L2.Fun K "leveled" "leveled" s_leveled f fd) (T : Nms mg) (Z : Cns K w mg dD dG dS) (c_at_least : ClO prg w K mg base CX0 1 "at_least" spAtLeast []) (c_deed_text : ClO prg w K mg base CX0 2 "deed_text" spDeedT []) (c_leveled : ClO prg w K mg base CX0 (n + 3) "leveled" (spLev n) []) : FnOk prg w K mg base CX0 (n + 4) f fd ["tree"] (spLev (n + 1)) := by
  have S := fs_leveled
  refine F.ok S (fun vs H Q E h => by obtain ⟨x, _, rfl, _⟩ := h; rfl) fun cdv A outer s H vs Q E hr hsp => ?_
  obtain ⟨v, t, rfl, ht, ok, hh, hz, q⟩ := hsp
  refine ⟨_, (pss_cons (ps_if (pt_cmpR op_in_seq (pe_ix ix_tup (pv 0) pe_int (fun _ _ => rfl)) (pe_tup (pa_cons pe_str (pa_cons pe_str pa_nil))) rfl) (pss_one (ps_ret (pe_tup (pa_cons (pe_callTy call_strX (by rfl) T.n_str (by decide +kernel) (pa_cons (pe_ix ix_tup (pv 0) pe_int (fun _ _ => rfl)) pa_nil)) (pa_cons (pe_gI rfl Z.c_ATOM) pa_nil))))) pss_nil)
    (pss_cons (ps_if (pt_cmpR op_eq (pe_ix ix_tup (pv 0) pe_int (fun _ _ => rfl)) pe_str (nomark _)) (pss_one (ps_ret (pe_tup (pa_cons (pe_op op_add_str (pe_op op_add_str (pe_op op_add_str (pe_ix ix_tup (pv 0) pe_int (fun _ _ => rfl)) pe_str) (pe_join pe_str (pe_lc (te := tOp (rIxT K) (tCall (spLev n) [] E0 (tCons (tVar 1) tNil)) (tC (.int 0))) (own := [("part", 1)]) (g := gName 1) (tt := tYes) (by rfl) S.nd (pi_tup (pe_ix ix_tup (pv 0) pe_int (fun _ _ => rfl))) (blkOk_by (own := [("part", 1)]) (N := n_leveled) (sc := defScope s_leveled) (by decide +kernel)) (fun _ _ _ _ _ => (pg_name (i := 1) S.nd rfl (Or.inl rfl))) (fun _ _ _ _ _ => pts_nil) (fun _ _ _ _ _ => (pe_ix (r := rIxT K) ix_tup (pe_clo c_leveled hr (Nat.le_refl _) rfl (pa_cons (pv 1) pa_nil)) pe_int (fun _ _ => rfl)))))) pe_str) (pa_cons (pe_gI rfl Z.c_ATOM) pa_nil))))) pss_nil)
    (pss_cons (ps_if (pt_cmpR op_eq (pe_ix ix_tup (pv 0) pe_int (fun _ _ => rfl)) pe_str (nomark _)) (pss_one (ps_ret (pe_tup (pa_cons (pe_op op_add_str pe_str (pe_clo c_at_least hr (by omega) rfl (pa_cons (pe_clo c_leveled hr (Nat.le_refl _) rfl (pa_cons (pe_ix ix_tup (pv 0) pe_int (fun _ _ => rfl)) pa_nil)) (pa_cons (pe_gI rfl Z.c_TERM) pa_nil)))) (pa_cons (pe_gI rfl Z.c_SUM) pa_nil))))) pss_nil)
    (pss_cons (ps_if (pt_cmpR op_eq (pe_ix ix_tup (pv 0) pe_int (fun _ _ => rfl)) pe_str (nomark _)) (pss_one (ps_ret (pe_tup (pa_cons (pe_op op_add_str (pe_op op_add_str (pe_clo c_at_least hr (by omega) rfl (pa_cons (pe_clo c_leveled hr (Nat.le_refl _) rfl (pa_cons (pe_ix ix_tup (pv 0) pe_int (fun _ _ => rfl)) pa_nil)) (pa_cons (pe_gI rfl Z.c_ATOM) pa_nil))) pe_str) (pe_callTy call_strX (by rfl) T.n_str (by decide +kernel) (pa_cons (pe_ix ix_tup (pv 0) pe_int (fun _ _ => rfl)) pa_nil))) (pa_cons (pe_gI rfl Z.c_POWER) pa_nil))))) pss_nil)
    (pss_one (ps_ret (pe_clo c_deed_text hr (by omega) rfl (pa_cons (pe_ix ix_tup (pv 0) pe_int (fun _ _ => rfl)) (pa_cons (pe_clo c_leveled hr (Nat.le_refl _) rfl (pa_cons (pe_ix ix_tup (pv 0) pe_int (fun _ _ => rfl)) pa_nil)) (pa_cons (pe_clo c_leveled hr (Nat.le_refl _) rfl (pa_cons (pe_ix ix_tup (pv 0) pe_int (fun _ _ => rfl)) pa_nil)) pa_nil)))))))))), ?_⟩
  have sl : sizeLine = 16777216 := sizeLine_eq
  obtain ⟨p, xs, rfl, hp, h0, hl, _⟩ := ht.shape
  -- the first test's heap
  refine ⟨_, rfl, p, xs, 0, _, rfl, rfl, SqT.of hp, atI_nat (j := 0) h0, by show 2 ≤ sizeLine; decide, fun p2 n2 => ⟨p2, _, rfl, .inr (SqT.of upd_same), rfl, rfl, _, rfl, ?_⟩⟩
  have k1 : Kp [] H (upd H p2 (.tup [.str "value", .str "name"])) := Kp.new n2
  have ht1 := ht.kp k1
  generalize upd H p2 (.tup [.str "value", .str "name"]) = H1 at k1 ht1 ⊢
  have isH : ∀ (c h : Str) (us : List V) (P : Bool → Hp → Prop), H1 p = some (.tup (.str h :: us)) → P (decide (V.str h = V.str c)) H1 → tTest (tOp rEq (tOp (rIxT K) (tVar 0) (tC (.int 0))) (tC (.str c))) (L2.start n_leveled [.ref p]) H1 P := by
    intro c h us P hp hP
    exact ⟨_, rfl, p, _, 0, .str h, rfl, rfl, SqT.of hp, atI_nat (j := 0) rfl, rfl, _, rfl, hP⟩
  have lev : ∀ (j : Nat) (us : List V) (u : V) (a : Tr) (H2 : Hp) (P : VK), Kp [] H1 H2 → H1 p = some (.tup us) → us[j]? = some u → TrAt H1 a u → a.ok → a.ht + 1 ≤ n → a.sz ≤ 40 → (∀ H' r, Kp [] H2 H' → H' r = some (.tup [.str (cat a.pr), .int (a.lv : Nat)]) → P (.ref r) H') →
      tCall (spLev n) [] E0 (tCons (tOp (rIxT K) (tVar 0) (tC (.int (j : Nat)))) tNil) (L2.start n_leveled [.ref p]) H2 P := by
    intro j us u a H2 P k2 hp hu ha oka hha hza hP
    refine ⟨_, rfl, p, us, _, u, rfl, rfl, SqT.of (k2.tup hp), atI_nat (j := j) hu, ?_⟩
    cases n with
    | zero => omega
    | succ n => exact ⟨u, a, rfl, ha.kp k2, oka, by omega, hza, hP⟩
  cases t with
  | val m =>
    obtain ⟨_, e, hp1⟩ := ht1
    cases e
    refine iT (hd_leaf (.val m)) ⟨_, rfl, p, _, 1, .int (m : Nat), rfl, rfl, SqT.of hp1, rfl, .inl ⟨_, rfl, small_log ok.2.2, by show 2 ≤ sizeLine; decide, fun r nr => q _ r (k1.trans (Kp.new nr)) ?_⟩⟩
    rw [upd_same]
    show _ = some (HO.tup [.str (cat [numT m]), .int 3])
    rw [cat_one]
    rfl
  | nam x =>
    obtain ⟨_, e, hp1⟩ := ht1
    cases e
    refine iT (hd_leaf (.nam x)) ⟨_, rfl, p, _, 1, .str x, rfl, rfl, SqT.of hp1, rfl, .inr ⟨_, rfl, by show 2 ≤ sizeLine; decide, fun r nr => q _ r (k1.trans (Kp.new nr)) ?_⟩⟩
    rw [upd_same]
    show _ = some (HO.tup [.str (cat [x]), .int 3])
    rw [cat_one]
  | call1 fn a =>
    obtain ⟨_, q', u, e, hp1, hq1, ha⟩ := ht1
    cases e
    refine iF (hd_leaf _) (isH _ _ _ _ hp1 (iT (by decide +kernel) ?_))
    have hfl := nm_len ok.1
    have hpl := Tr.pr_len ok.2
    have e1 : ("(" : Str).length = 1 := by decide +kernel
    have e2 : (")" : Str).length = 1 := by decide +kernel
    simp only [Tr.sz, Tr.ht] at hz hh
    refine ⟨_, rfl, p, _, 1, .str fn, rfl, rfl, SqT.of hp1, rfl, _, _, rfl, rfl, by omega, ⟨_, rfl⟩, _, rfl, p, _, 2, .ref q', rfl, rfl, SqT.of hp1, rfl, q', rfl, ⟨_, SqT.of hq1⟩, fun D nD => ?_⟩
    refine lc_tup (xs := [u]) (fun i Hb => Kp [D] H1 Hb ∧ Hb D = some (.lst (([cat a.pr].take i).map V.str))) ⟨Kp.new nD, upd_same⟩ (fun i Hb _ h => SqT.of (h.1.tup hq1)) (fun i x Hb hx h => ?_) fun Hb h => ?_
    · have hi : i = 0 := by
        have := (List.getElem?_eq_some_iff.mp hx).1
        simp at this
        exact this
      subst hi
      cases hx
      refine ⟨rfl, _, rfl, ?_⟩
      cases n with
      | zero => omega
      | succ n =>
        refine ⟨u, a, rfl, (ha.kp h.1), ok.2, by omega, by omega, fun H' r k hr' => ?_⟩
        have hD := k.lst h.2 (by simp)
        exact ⟨r, _, 0, _, rfl, rfl, SqT.of hr', rfl, _, hD, by show 0 < sizeLine; omega, (h.1.trans k.of).trans (Kp.put hD rfl (by simp)), upd_same⟩
    · have e3 : Txt.join ", " [cat a.pr] = cat a.pr := rfl
      refine ⟨_, D, [cat a.pr], rfl, rfl, .inl (SqL.of h.2), ?_, ?_⟩
      · simp only [List.map_cons, List.map_nil, List.sum_cons, List.sum_nil, List.length_cons, List.length_nil]
        have e4 : (", " : Str).length = 2 := by decide +kernel
        omega
      rw [e3]
      refine ⟨_, _, rfl, rfl, ?_, _, _, rfl, rfl, ?_, by show 2 ≤ sizeLine; decide, fun r nr => q _ r ((k1.trans (h.1.drop nD)).trans (Kp.new nr)) ?_⟩
      · rw [app_length]; omega
      · rw [app_length, app_length]; omega
      · rw [upd_same]
        show _ = some (HO.tup [.str (cat ([fn, ("(" : Str)] ++ a.pr ++ [(")" : Str)])), .int 3])
        rw [cat_app, cat_app, cat_cons, cat_one, cat_one]
  | call2 fn a b =>
    obtain ⟨_, q', u, u', e, hp1, hq1, ha, hb⟩ := ht1
    cases e
    refine iF (hd_leaf _) (isH _ _ _ _ hp1 (iT (by decide +kernel) ?_))
    have hfl := nm_len ok.1
    have hpl := Tr.pr_len ok.2.1
    have hpl2 := Tr.pr_len ok.2.2
    have e1 : ("(" : Str).length = 1 := by decide +kernel
    have e2 : (")" : Str).length = 1 := by decide +kernel
    have e4 : (", " : Str).length = 2 := by decide +kernel
    simp only [Tr.sz, Tr.ht] at hz hh
    refine ⟨_, rfl, p, _, 1, .str fn, rfl, rfl, SqT.of hp1, rfl, _, _, rfl, rfl, by omega, ⟨_, rfl⟩, _, rfl, p, _, 2, .ref q', rfl, rfl, SqT.of hp1, rfl, q', rfl, ⟨_, SqT.of hq1⟩, fun D nD => ?_⟩
    refine lc_tup (xs := [u, u']) (fun i Hb => Kp [D] H1 Hb ∧ Hb D = some (.lst (([cat a.pr, cat b.pr].take i).map V.str))) ⟨Kp.new nD, upd_same⟩ (fun i Hb _ h => SqT.of (h.1.tup hq1)) (fun i x Hb hx h => ?_) fun Hb h => ?_
    · have hi : i = 0 ∨ i = 1 := by
        have := (List.getElem?_eq_some_iff.mp hx).1
        simp at this
        omega
      cases n with
      | zero => omega
      | succ n =>
        rcases hi with rfl | rfl
        · cases hx
          refine ⟨rfl, _, rfl, u, a, rfl, (ha.kp h.1), ok.2.1, by omega, by omega, fun H' r k hr' => ?_⟩
          have hD := k.lst h.2 (by simp)
          exact ⟨r, _, 0, _, rfl, rfl, SqT.of hr', rfl, _, hD, by show 0 < sizeLine; omega, (h.1.trans k.of).trans (Kp.put hD rfl (by simp)), upd_same⟩
        · cases hx
          refine ⟨rfl, _, rfl, u', b, rfl, (hb.kp h.1), ok.2.2, by omega, by omega, fun H' r k hr' => ?_⟩
          have hD := k.lst h.2 (by simp)
          exact ⟨r, _, 0, _, rfl, rfl, SqT.of hr', rfl, _, hD, by show 1 < sizeLine; omega, (h.1.trans k.of).trans (Kp.put hD rfl (by simp)), upd_same⟩
    · have e3 : Txt.join ", " [cat a.pr, cat b.pr] = cat a.pr ++ ", " ++ cat b.pr := rfl
      refine ⟨_, D, [cat a.pr, cat b.pr], rfl, rfl, .inl (SqL.of h.2), ?_, ?_⟩
      · simp only [List.map_cons, List.map_nil, List.sum_cons, List.sum_nil, List.length_cons, List.length_nil]
        omega
      rw [e3]
      refine ⟨_, _, rfl, rfl, ?_, _, _, rfl, rfl, ?_, by show 2 ≤ sizeLine; decide, fun r nr => q _ r ((k1.trans (h.1.drop nD)).trans (Kp.new nr)) ?_⟩
      · rw [app_length, app_length, app_length]; omega
      · rw [app_length, app_length, app_length, app_length]; omega
      · rw [upd_same]
        show _ = some (HO.tup [.str (cat ([fn, ("(" : Str)] ++ a.pr ++ [("," : Str), (" " : Str)] ++ b.pr ++ [(")" : Str)])), .int 3])
        rw [show (", " : Str) = "," ++ " " by decide +kernel]
        simp only [cat_app, cat_cons, app_nil, app_assoc]
  | minus a =>
    obtain ⟨_, u, e, hp1, ha⟩ := ht1
    cases e
    simp only [Tr.sz, Tr.ht] at hz hh
    have hpl := Tr.pr_len (t := a) ok
    have e1 : ("-" : Str).length = 1 := by decide +kernel
    have a1 := al_len (cat a.pr) a.lv 1
    refine iF (hd_leaf _) (isH _ _ _ _ hp1 (iF (by decide +kernel) (isH _ _ _ _ hp1 (iT (by decide +kernel) ?_))))
    refine lev 1 _ u a H1 _ Kp.refl hp1 rfl ha ok (by omega) (by omega) fun H2 r k2 hr2 => ?_
    refine ⟨r, cat a.pr, a.lv, 1, rfl, hr2, by omega, _, _, rfl, rfl, by omega, by show 2 ≤ sizeLine; decide, fun r3 nr => q _ r3 ((k1.trans k2).trans (Kp.new nr)) ?_⟩
    rw [upd_same]
    show _ = some (HO.tup [.str (cat ([("-" : Str)] ++ wrp a.lv 1 a.pr)), .int 0])
    rw [cat_app, cat_one, ← al_wrp]
  | pow a k =>
    obtain ⟨_, u, e, hp1, ha⟩ := ht1
    cases e
    simp only [Tr.sz, Tr.ht] at hz hh
    have hpl := Tr.pr_len (t := a) ok.1
    have hnl := nu_len ok.2.2.1
    have e1 : ("^" : Str).length = 1 := by decide +kernel
    have a1 := al_len (cat a.pr) a.lv 3
    refine iF (hd_leaf _) (isH _ _ _ _ hp1 (iF (by decide +kernel) (isH _ _ _ _ hp1 (iF (by decide +kernel) (isH _ _ _ _ hp1 (iT (by decide +kernel) ?_))))))
    refine lev 1 _ u a H1 _ Kp.refl hp1 rfl ha ok.1 (by omega) (by omega) fun H2 r k2 hr2 => ?_
    refine ⟨r, cat a.pr, a.lv, 3, rfl, hr2, by omega, _, _, rfl, rfl, by omega, _, rfl, p, _, 2, .int (k : Nat), rfl, rfl, SqT.of (k2.tup hp1), rfl, .inl ⟨_, rfl, small_log ok.2.2.2.2, _, _, rfl, rfl, ?_, by show 2 ≤ sizeLine; decide, fun r3 nr => q _ r3 ((k1.trans k2).trans (Kp.new nr)) ?_⟩⟩
    · rw [app_length]
      have : (numT k).length ≤ 6 := hnl
      show _ + (numT k).length ≤ _
      omega
    rw [upd_same]
    show _ = some (HO.tup [.str (cat (wrp a.lv 3 a.pr ++ [("^" : Str), numT k])), .int 2])
    rw [cat_app, cat_cons, cat_one, ← al_wrp, app_assoc]
    rfl
  | bin o a b =>
    obtain ⟨_, u, u', e, hp1, ha, hb⟩ := ht1
    cases e
    simp only [Tr.sz, Tr.ht] at hz hh
    have hpl := Tr.pr_len (t := a) ok.1
    have hpl2 := Tr.pr_len (t := b) ok.2
    have fin : tRet (tCall spDeedT [] E0 (tCons (tOp (rIxT K) (tVar 0) (tC (.int 0))) (tCons (tCall (spLev n) [] E0 (tCons (tOp (rIxT K) (tVar 0) (tC (.int 1))) tNil)) (tCons (tCall (spLev n) [] E0 (tCons (tOp (rIxT K) (tVar 0) (tC (.int 2))) tNil)) tNil)))) { nx := fun _ H' => Q .non H', rt := Q } (L2.start n_leveled [.ref p]) H1 := by
      refine ⟨_, rfl, p, _, 0, .str o.s, rfl, rfl, SqT.of hp1, atI_nat (j := 0) rfl, ?_⟩
      refine lev 1 _ u a H1 _ Kp.refl hp1 rfl ha ok.1 (by omega) (by omega) fun H2 r k2 hr2 => ?_
      refine lev 2 _ u' b H2 _ k2 hp1 rfl hb ok.2 (by omega) (by omega) fun H3 r3 k3 hr3 => ?_
      refine ⟨o, r, r3, _, _, a.lv, b.lv, rfl, k3.tup hr2, hr3, by omega, by omega, fun H4 r4 k4 hr4 => q _ r4 (((k1.trans k2).trans k3).trans k4) ?_⟩
      rw [hr4]
      show _ = some (HO.tup [.str (cat (wrp a.lv o.lv a.pr ++ [(" " : Str), o.s, (" " : Str)] ++ wrp b.lv (o.lv + 1) b.pr)), .int (o.lv : Nat)])
      rw [cat_app, cat_app, cat_cons, cat_cons, cat_one, ← al_wrp, ← al_wrp]
      simp only [app_assoc]
    cases o
    · exact iF (hd_leaf _) (isH _ _ _ _ hp1 (iF (by decide +kernel) (isH _ _ _ _ hp1 (iF (by decide +kernel) (isH _ _ _ _ hp1 (iF (by decide +kernel) fin))))))
    · exact iF (hd_leaf _) (isH _ _ _ _ hp1 (iF (by decide +kernel) (isH _ _ _ _ hp1 (iF (by decide +kernel) (isH _ _ _ _ hp1 (iF (by decide +kernel) fin))))))
    · exact iF (hd_leaf _) (isH _ _ _ _ hp1 (iF (by decide +kernel) (isH _ _ _ _ hp1 (iF (by decide +kernel) (isH _ _ _ _ hp1 (iF (by decide +kernel) fin))))))
    · exact iF (hd_leaf _) (isH _ _ _ _ hp1 (iF (by decide +kernel) (isH _ _ _ _ hp1 (iF (by decide +kernel) (isH _ _ _ _ hp1 (iF (by decide +kernel) fin))))))
theorem all_lev (F : L2.Fun K "leveled" "leveled" s_leveled f fd) (T : Nms mg) (Z : Cns K w mg dD dG dS) (c_at_least : ClO prg w K mg base CX0 1 "at_least" spAtLeast []) (c_deed_text : ClO prg w K mg base CX0 2 "deed_text" spDeedT []) (hm : mg "leveled" = some (.ref f)) (hk : keepIn K (.ref f) = true) (hb : L2.Binds K fd ["tree"] []) : ∀ n, ClO prg w K mg base CX0 (n + 3) "leveled" (spLev n) []
  | 0 => ⟨f, fd, _, [], fnOk_no, hm, hk, hb, .nil⟩
  | n + 1 => ⟨f, fd, _, [], ok_leveled n F T Z c_at_least c_deed_text (all_lev F T Z c_at_least c_deed_text hm hk hb n), hm, hk, hb, .nil⟩
theorem ok_sum_text (F : L2.Fun K "sum_text" "sum_text" s_sum_text f fd) (c_leveled : ClO prg w K mg base CX0 15 "leveled" (spLev 12) []) : FnOk prg w K mg base CX0 16 f fd ["tree"] spSumT := by
  have S := fs_sum_text
  refine F.ok S (fun vs H Q E h => by obtain ⟨x, _, rfl, _⟩ := h; rfl) fun cdv A outer s H vs Q E hr hsp => ?_
  obtain ⟨v, t, rfl, ht, ok, hh, hz, q⟩ := hsp
  refine ⟨_, (pss_one (ps_ret (pe_ix ix_tup (pe_clo c_leveled hr (by decide) rfl (pa_cons (pv 0) pa_nil)) pe_int (fun _ _ => rfl)))), ?_⟩
  exact ⟨_, rfl, v, t, rfl, ht, ok, hh, hz, fun H' r k hr' => ⟨r, _, 0, _, rfl, rfl, SqT.of hr', rfl, q H' k⟩⟩
end
end K2
set_option maxHeartbeats 4000000
/-! P9: the parser's state; its small methods. -/
namespace K2
open PySem PySem.Spec L2 DL
open PySem.W (Frag keepIn findIn typeIn subIn kitOne kitAny excIn)
open PyProof.Rows hiding St wpAt wpAt_bind wpAt_stack wpAt_mono
/-- what is known of the class -/
structure PC (K : Frag) (C : Addr) : Prop where
  cl : L2.Cls K C
  n_words : NoAttr K C "words"
  n_at : NoAttr K C "at"
  n_deep : NoAttr K C "deep"
  n_places : NoAttr K C "places"
  n_is_bound : NoAttr K C "is_bound"
  n_names : NoAttr K C "names"
def flds (wl nl : Addr) (a d pl : Nat) : List (Str × V) := [("words", .ref wl), ("at", .int a), ("deep", .int d), ("places", .int pl), ("is_bound", .bl true), ("names", .ref nl)]
structure PsAt (C p wl nl : Addr) (H : Hp) (ws : List Str) (a d pl k : Nat) : Prop where
  ex : ∃ dx ts nms, H p = some (.ins C dx (flds wl nl a d pl)) ∧ H wl = some (.lst (ts.map V.ref)) ∧ WordsAt H ts ws ∧ H nl = some (.lst nms) ∧ nms.length = k
  le : k ≤ a
  sz : ws.length ≤ 100000
  ne : wl ≠ nl
/-- the next word -/
def nxt (ws : List Str) (a : Nat) : Str := (ws[a]?).getD Str.empty
section
variable {C p wl nl : Addr} {H H' : Hp} {ws : List Str} {a d pl k : Nat}
theorem PsAt.kp {D : List Addr} (h : PsAt C p wl nl H ws a d pl k) (q : Kp D H H') (m1 : p ∉ D) (m2 : wl ∉ D) (m3 : nl ∉ D) : PsAt C p wl nl H' ws a d pl k := by
  obtain ⟨dx, ts, nms, h1, h2, h3, h4, h5⟩ := h.ex
  exact ⟨⟨dx, ts, nms, q.ins h1 m1, q.lst h2 m2, h3.kp q, q.lst h4 m3, h5⟩, h.le, h.sz, h.ne⟩
/-- the instance is written -/
theorem PsAt.put {dx : Addr} {fs : List (Str × V)} {a' d' pl' : Nat} (h : PsAt C p wl nl H ws a d pl k) (e : H p = some (.ins C dx fs)) (hk : k ≤ a') : PsAt C p wl nl (upd H p (.ins C dx (flds wl nl a' d' pl'))) ws a' d' pl' k := by
  obtain ⟨dx', ts, nms, h1, h2, h3, h4, h5⟩ := h.ex
  have n1 : wl ≠ p := ne_of h2 h1 (by intro z; cases z)
  have n2 : nl ≠ p := ne_of h4 h1 (by intro z; cases z)
  have kq : Kp [p] H (upd H p (.ins C dx (flds wl nl a' d' pl'))) := Kp.put e rfl (by simp)
  exact ⟨⟨dx, ts, nms, upd_same, by rw [upd_ne n1]; exact h2, h3.kp kq, by rw [upd_ne n2]; exact h4, h5⟩, hk, h.sz, h.ne⟩
theorem PsAt.atp (h : PsAt C p wl nl H ws a d pl k) : ∃ dx, H p = some (.ins C dx (flds wl nl a d pl)) := let ⟨dx, _, _, h1, _⟩ := h.ex; ⟨dx, h1⟩
end
theorem s_ne1 : ¬ ("words" : Str) = "at" := by decide +kernel
theorem put_at {wl nl : Addr} {a d pl b : Nat} : putF "at" (.int (b : Nat)) (flds wl nl a d pl) = flds wl nl b d pl := by
  unfold flds
  show (if ("words" : Str) = "at" then _ else _ :: (if ("at" : Str) = "at" then _ else _)) = _
  rw [if_neg (by decide +kernel), if_pos rfl]
theorem put_deep {wl nl : Addr} {a d pl b : Nat} : putF "deep" (.int (b : Nat)) (flds wl nl a d pl) = flds wl nl a b pl := by
  unfold flds
  show (if ("words" : Str) = "deep" then _ else _ :: (if ("at" : Str) = "deep" then _ else _ :: (if ("deep" : Str) = "deep" then _ else _))) = _
  rw [if_neg (by decide +kernel), if_neg (by decide +kernel), if_pos rfl]
theorem put_places {wl nl : Addr} {a d pl b : Nat} : putF "places" (.int (b : Nat)) (flds wl nl a d pl) = flds wl nl a d b := by
  unfold flds
  show (if ("words" : Str) = "places" then _ else _ :: (if ("at" : Str) = "places" then _ else _ :: (if ("deep" : Str) = "places" then _ else _ :: (if ("places" : Str) = "places" then _ else _)))) = _
  rw [if_neg (by decide +kernel), if_neg (by decide +kernel), if_neg (by decide +kernel), if_pos rfl]
theorem put_bound {wl nl : Addr} {a d pl : Nat} : putF "is_bound" (.bl true) (flds wl nl a d pl) = flds wl nl a d pl := by
  unfold flds
  show (if ("words" : Str) = "is_bound" then _ else _ :: (if ("at" : Str) = "is_bound" then _ else _ :: (if ("deep" : Str) = "is_bound" then _ else _ :: (if ("places" : Str) = "is_bound" then _ else _ :: (if ("is_bound" : Str) = "is_bound" then _ else _))))) = _
  rw [if_neg (by decide +kernel), if_neg (by decide +kernel), if_neg (by decide +kernel), if_neg (by decide +kernel), if_pos rfl]
theorem put_at1 {wl nl : Addr} {a d pl b : Nat} : putF "at" (.int (((b : Nat) : Int) + 1)) (flds wl nl a d pl) = flds wl nl (b + 1) d pl := by
  rw [show ((b : Nat) : Int) + 1 = ((b + 1 : Nat) : Int) by omega, put_at]
theorem put_deep1 {wl nl : Addr} {a d pl b : Nat} : putF "deep" (.int (((b : Nat) : Int) + 1)) (flds wl nl a d pl) = flds wl nl a (b + 1) pl := by
  rw [show ((b : Nat) : Int) + 1 = ((b + 1 : Nat) : Int) by omega, put_deep]
theorem put_deepm {wl nl : Addr} {a d pl b : Nat} : putF "deep" (.int (((b + 1 : Nat) : Int) - 1)) (flds wl nl a d pl) = flds wl nl a b pl := by
  rw [show ((b + 1 : Nat) : Int) - 1 = ((b : Nat) : Int) by omega, put_deep]
theorem put_places1 {wl nl : Addr} {a d pl b : Nat} : putF "places" (.int (((b : Nat) : Int) + 1)) (flds wl nl a d pl) = flds wl nl a d (b + 1) := by
  rw [show ((b : Nat) : Int) + 1 = ((b + 1 : Nat) : Int) by omega, put_places]
theorem put_le {f : Str} {y : V} {fs : List (Str × V)} {n : Nat} (h : fs.length ≤ n) : (putF f y fs).length ≤ n + 1 := by
  have := length_putF f y fs
  omega
theorem flds_new {wl nl : Addr} : putF "names" (.ref nl) (putF "is_bound" (.bl true) (putF "places" (.int 0) (putF "deep" (.int 0) (putF "at" (.int 0) (putF "words" (.ref wl) []))))) = flds wl nl 0 0 0 := by
  show putF "names" (.ref nl) (putF "is_bound" (.bl true) (putF "places" (.int 0) (putF "deep" (.int 0) (if ("words" : Str) = "at" then _ else [(("words" : Str), V.ref wl), ("at", .int 0)])))) = _
  rw [if_neg (by decide +kernel)]
  show putF "names" (.ref nl) (putF "is_bound" (.bl true) (putF "places" (.int 0) (if ("words" : Str) = "deep" then _ else _ :: (if ("at" : Str) = "deep" then _ else [(("at" : Str), V.int 0), ("deep", .int 0)])))) = _
  rw [if_neg (by decide +kernel), if_neg (by decide +kernel)]
  show putF "names" (.ref nl) (putF "is_bound" (.bl true) (if ("words" : Str) = "places" then _ else _ :: (if ("at" : Str) = "places" then _ else _ :: (if ("deep" : Str) = "places" then _ else [(("deep" : Str), V.int 0), ("places", .int 0)])))) = _
  rw [if_neg (by decide +kernel), if_neg (by decide +kernel), if_neg (by decide +kernel)]
  show putF "names" (.ref nl) (if ("words" : Str) = "is_bound" then _ else _ :: (if ("at" : Str) = "is_bound" then _ else _ :: (if ("deep" : Str) = "is_bound" then _ else _ :: (if ("places" : Str) = "is_bound" then _ else [(("places" : Str), V.int 0), ("is_bound", .bl true)])))) = _
  rw [if_neg (by decide +kernel), if_neg (by decide +kernel), if_neg (by decide +kernel), if_neg (by decide +kernel)]
  show (if ("words" : Str) = "names" then _ else _ :: (if ("at" : Str) = "names" then _ else _ :: (if ("deep" : Str) = "names" then _ else _ :: (if ("places" : Str) = "names" then _ else _ :: (if ("is_bound" : Str) = "names" then _ else [(("is_bound" : Str), V.bl true), ("names", .ref nl)]))))) = _
  rw [if_neg (by decide +kernel), if_neg (by decide +kernel), if_neg (by decide +kernel), if_neg (by decide +kernel), if_neg (by decide +kernel)]
  rfl
def spInit (C : Addr) : Sp := fun vs H Q _ => ∃ (y dy wl : Addr) (ts : List Addr) (ws : List Str), vs = [.ref y, .ref wl] ∧ H y = some (.ins C dy []) ∧ H wl = some (.lst (ts.map V.ref)) ∧ WordsAt H ts ws ∧ ws.length ≤ 100000 ∧ ∀ H' nl, Kp [y] H H' → H nl = none → PsAt C y wl nl H' ws 0 0 0 0 → Q .non H'
def spWd (C : Addr) : Sp := fun vs H Q _ => ∃ (p wl nl : Addr) (ws : List Str) (a d pl k : Nat), vs = [.ref p] ∧ PsAt C p wl nl H ws a d pl k ∧ Q (.str (nxt ws a)) H
def spTakes (C : Addr) : Sp := fun vs H Q _ => ∃ (p wl nl : Addr) (ws : List Str) (a d pl k : Nat) (x : Str), vs = [.ref p, .str x] ∧ PsAt C p wl nl H ws a d pl k ∧ (nxt ws a ≠ x → Q (.bl false) H) ∧ (nxt ws a = x → ∀ H', Kp [p] H H' → PsAt C p wl nl H' ws (a + 1) d pl k → Q (.bl true) H')
def spBound (C : Addr) : Sp := fun vs H Q _ => ∃ (p wl nl : Addr) (ws : List Str) (a d pl k : Nat), vs = [.ref p, .bl true] ∧ PsAt C p wl nl H ws a d pl k ∧ ∀ H', Kp [p] H H' → PsAt C p wl nl H' ws a d pl k → Q .non H'
def spAnyName (C : Addr) : Sp := fun vs H Q _ => ∃ (p wl nl : Addr) (ws : List Str) (a d pl k : Nat) (x y : Str), vs = [.ref p, .str y] ∧ PsAt C p wl nl H ws a d pl k ∧ ws[a]? = some x ∧ nmOk x = true ∧ ∀ H', Kp [p, nl] H H' → PsAt C p wl nl H' ws (a + 1) d pl (k + 1) → Q (.str x) H'
def spAnyNum (C : Addr) : Sp := fun vs H Q _ => ∃ (p wl nl : Addr) (ws : List Str) (a d pl k n : Nat) (m : V), vs = [.ref p, m] ∧ PsAt C p wl nl H ws a d pl k ∧ ws[a]? = some (numT n) ∧ NumOk n ∧ (m = .non ∨ (m = .int 4 ∧ n ≤ 4)) ∧ ∀ H', Kp [p] H H' → PsAt C p wl nl H' ws (a + 1) d pl k → Q (.int (n : Nat)) H'
def spSited (C : Addr) : Sp := fun vs H Q _ => ∃ (p wl nl q : Addr) (ws : List Str) (a d pl k : Nat) (x y : V) (xs : List V), vs = [.ref p, x, y, .ref q] ∧ PsAt C p wl nl H ws a d pl k ∧ H q = some (.lst xs) ∧ q ≠ p ∧ pl + 1 ≤ 40 ∧
  ∀ H' r tp, Kp [p] H H' → PsAt C p wl nl H' ws a d (pl + 1) k → H' r = some (.tup [x, y, .int a, .ref tp]) → Q (.ref r) H'
section
variable {w : World} {K : Frag} {mg : Str → Option Value} {base : Heap} {f : Addr} {fd : FuncData} {dD dG dS C : Addr}
theorem ok_P_init (F : L2.Fun K "__init__" "RowParser.__init__" s_P_init f fd) (D : PC K C) : FnOk prg w K mg base CX0 1 f fd ["self", "words"] (spInit C) := by
  have S := fs_P_init
  refine F.ok S (fun vs H Q E h => by obtain ⟨y, dy, wl, ts, ws, rfl, _⟩ := h; rfl) fun cdv A outer s H vs Q E hr hsp => ?_
  obtain ⟨y, dy, wl, ts, ws, rfl, hy, hw, hws, hz, q⟩ := hsp
  refine ⟨_, (pss_cons (ps_fld (pv 0) (pv 1) rfl)
    (pss_cons (ps_fld (pv 0) pe_int rfl)
    (pss_cons (ps_fld (pv 0) pe_int rfl)
    (pss_cons (ps_fld (pv 0) pe_int rfl)
    (pss_cons (ps_fld (pv 0) pe_bl rfl)
    (pss_one (ps_fld (pv 0) (pe_lst pa_nil) rfl))))))), ?_⟩
  refine ⟨_, rfl, _, rfl, y, C, dy, _, rfl, hy, D.cl, D.n_words, by decide, ?_⟩
  refine ⟨_, rfl, y, C, dy, _, rfl, upd_same, D.cl, D.n_at, Nat.lt_of_le_of_lt (put_le (Nat.le_refl 0)) (by decide), ?_⟩
  refine ⟨_, rfl, y, C, dy, _, rfl, upd_same, D.cl, D.n_deep, Nat.lt_of_le_of_lt (put_le (put_le (Nat.le_refl 0))) (by decide), ?_⟩
  refine ⟨_, rfl, y, C, dy, _, rfl, upd_same, D.cl, D.n_places, Nat.lt_of_le_of_lt (put_le (put_le (put_le (Nat.le_refl 0)))) (by decide), ?_⟩
  refine ⟨_, rfl, y, C, dy, _, rfl, upd_same, D.cl, D.n_is_bound, Nat.lt_of_le_of_lt (put_le (put_le (put_le (put_le (Nat.le_refl 0))))) (by decide), ?_⟩
  rw [upd_upd, upd_upd, upd_upd, upd_upd]
  refine ⟨by show 0 ≤ sizeLine; exact Nat.zero_le _, fun nl nn => ?_⟩
  have ny : y ≠ nl := fun e => by
    rw [← e, upd_same] at nn
    cases nn
  have nn0 : H nl = none := by
    rw [upd_ne (Ne.symm ny)] at nn
    exact nn
  refine ⟨_, rfl, y, C, dy, _, rfl, by rw [upd_ne ny]; exact upd_same, D.cl, D.n_names, Nat.lt_of_le_of_lt (put_le (put_le (put_le (put_le (put_le (Nat.le_refl 0)))))) (by decide), ?_⟩
  have k1 : Kp [y] H (upd H y (.ins C dy (putF "is_bound" (.bl true) (putF "places" (.int 0) (putF "deep" (.int 0) (putF "at" (.int 0) (putF "words" (.ref wl) []))))))) := Kp.put hy rfl (by simp)
  have k2 := k1.trans (Kp.new (o := .lst []) nn)
  have k3 := k2.trans (Kp.put (o := .ins C dy (putF "names" (.ref nl) (putF "is_bound" (.bl true) (putF "places" (.int 0) (putF "deep" (.int 0) (putF "at" (.int 0) (putF "words" (.ref wl) []))))))) (show _ = some (HO.ins C dy (putF "is_bound" (.bl true) (putF "places" (.int 0) (putF "deep" (.int 0) (putF "at" (.int 0) (putF "words" (.ref wl) [])))))) from by rw [upd_ne ny]; exact upd_same) rfl (by simp))
  have wy : wl ∉ [y] := by simpa using ne_of hw hy (by intro z; cases z)
  refine q _ nl k3 nn0 ⟨⟨dy, ts, [], ?_, k3.lst hw wy, hws.kp k3, ?_, rfl⟩, Nat.le_refl _, hz, ne_of_none hw nn0⟩
  · rw [upd_same, flds_new]
  · rw [upd_ne (Ne.symm ny)]
    exact upd_same
theorem ok_P_word (F : L2.Fun K "word" "RowParser.word" s_P_word f fd) (T : Nms mg) (D : PC K C) : FnOk prg w K mg base CX0 1 f fd ["self"] (spWd C) := by
  have S := fs_P_word
  refine F.ok S (fun vs H Q E h => by obtain ⟨p, _, _, _, _, _, _, _, rfl, _⟩ := h; rfl) fun cdv A outer s H vs Q E hr hsp => ?_
  obtain ⟨p, wl, nl, ws, a, d, pl, k, rfl, hp, q⟩ := hsp
  refine ⟨_, (pss_one (ps_ret (pe_ifExp (pt_cmpR op_lt (pe_fld (pv 0) rfl) (pe_callB call_len_seq (by rfl) T.n_len (by decide +kernel) (pa_cons (pe_fld (pv 0) rfl) pa_nil)) (nomark _)) (pe_ix ix_tup (pe_ix ix_list (pe_fld (pv 0) rfl) (pe_fld (pv 0) rfl) (fun _ _ => rfl)) pe_int (fun _ _ => rfl)) pe_str))), ?_⟩
  obtain ⟨dx, ts, nms, h1, h2, h3, h4, h5⟩ := hp.ex
  have hl := h3.length
  refine ⟨_, rfl, p, C, dx, _, .int a, rfl, h1, D.cl, D.n_at, rfl, _, rfl, p, C, dx, _, .ref wl, rfl, h1, D.cl, D.n_words, rfl, wl, _, rfl, .inl (SqL.of h2), _, _, rfl, rfl, _, rfl, ?_⟩
  by_cases ha : a < ws.length
  · refine iT (decide_eq_true (by rw [List.length_map]; omega)) ?_
    obtain ⟨t, ht, b, e, hT⟩ := h3.get a (List.getElem?_eq_getElem ha)
    refine ⟨_, rfl, p, C, dx, _, .ref wl, rfl, h1, D.cl, D.n_words, rfl, _, rfl, p, C, dx, _, .int a, rfl, h1, D.cl, D.n_at, rfl, wl, _, _, .ref t, rfl, rfl, SqL.of h2, atI_nat (by rw [List.getElem?_map, ht]; rfl), t, _, 0, _, rfl, rfl, SqT.of hT, rfl, ?_⟩
    have e1 : nxt ws a = ws[a] := by unfold nxt; rw [List.getElem?_eq_getElem ha]; rfl
    rw [e1] at q
    exact q
  · refine iF (decide_eq_false (by rw [List.length_map]; omega)) ?_
    have e1 : nxt ws a = Str.empty := by unfold nxt; rw [List.getElem?_eq_none (by omega)]; rfl
    rw [e1] at q
    exact q
theorem ok_P_takes (F : L2.Fun K "takes" "RowParser.takes" s_P_takes f fd) (D : PC K C) (c_word : ClM prg w K mg base 1 C "word" (spWd C) []) : FnOk prg w K mg base CX0 2 f fd ["self", "text"] (spTakes C) := by
  have S := fs_P_takes
  refine F.ok S (fun vs H Q E h => by obtain ⟨p, _, _, _, _, _, _, _, _, rfl, _⟩ := h; rfl) fun cdv A outer s H vs Q E hr hsp => ?_
  obtain ⟨p, wl, nl, ws, a, d, pl, k, x, rfl, hp, q1, q2⟩ := hsp
  refine ⟨_, (pss_cons (ps_if (pt_cmpR op_ne (pe_clm0 c_word D.cl hr (by decide) (pv 0)) (pv 1) (nomark _)) (pss_one (ps_ret pe_bl)) pss_nil)
    (pss_cons (ps_fld (pv 0) (pe_op op_add (pe_fld (pv 0) rfl) pe_int) rfl)
    (pss_one (ps_ret pe_bl)))), ?_⟩
  obtain ⟨dx, h1⟩ := hp.atp
  refine ⟨_, rfl, p, dx, _, rfl, h1, rfl, p, wl, nl, ws, a, d, pl, k, rfl, hp, _, rfl, rfl, _, rfl, ?_⟩
  by_cases e : nxt ws a = x
  · refine iF (by rw [e, decide_eq_true rfl]; rfl) ?_
    refine ⟨_, rfl, p, C, dx, _, .int a, rfl, h1, D.cl, D.n_at, rfl, _, _, rfl, rfl, _, rfl, p, C, dx, _, rfl, h1, D.cl, D.n_at, by show 6 < 1000; decide, ?_⟩
    rw [put_at1]
    exact q2 e _ (Kp.put h1 rfl (by simp)) (hp.put h1 (Nat.le_succ_of_le hp.le))
  · refine iT (by rw [decide_eq_false (fun z => e (by injection z))]; rfl) ?_
    exact q1 e
theorem ok_P_bound (F : L2.Fun K "bound" "RowParser.bound" s_P_bound f fd) (D : PC K C) : FnOk prg w K mg base CX0 1 f fd ["self", "is_right"] (spBound C) := by
  have S := fs_P_bound
  refine F.ok S (fun vs H Q E h => by obtain ⟨p, _, _, _, _, _, _, _, rfl, _⟩ := h; rfl) fun cdv A outer s H vs Q E hr hsp => ?_
  obtain ⟨p, wl, nl, ws, a, d, pl, k, rfl, hp, q⟩ := hsp
  refine ⟨_, (pss_one (ps_fld (pv 0) (pe_and (pe_fld (pv 0) rfl) (pe_one (pv 1))) rfl)), ?_⟩
  obtain ⟨dx, h1⟩ := hp.atp
  refine ⟨_, rfl, p, C, dx, _, .bl true, rfl, h1, D.cl, D.n_is_bound, rfl, true, rfl, iteT ⟨_, rfl, _, rfl, p, C, dx, _, rfl, h1, D.cl, D.n_is_bound, by show 6 < 1000; decide, ?_⟩⟩
  rw [put_bound]
  exact q _ (Kp.put h1 rfl (by simp)) (hp.put h1 hp.le)
theorem nm_nm {x : Str} (h : nmOk x = true) : isNm x = true := (Bool.and_eq_true_iff.mp h).1
theorem nu_nu {x : Str} (h : nuOk x = true) : isNu x = true := (Bool.and_eq_true_iff.mp h).1
theorem nxt_of {ws : List Str} {a : Nat} {x : Str} (h : ws[a]? = some x) : nxt ws a = x := by unfold nxt; rw [h]; rfl
theorem ok_P_any_name (F : L2.Fun K "any_name" "RowParser.any_name" s_P_any_name f fd) (D : PC K C) (c_word : ClM prg w K mg base 1 C "word" (spWd C) []) (c_bound : ClM prg w K mg base 1 C "bound" (spBound C) []) (c_is_any_name : ClO prg w K mg base CX0 2 "is_any_name" (spWord isNm) []) (c_is_name_word : ClO prg w K mg base CX0 3 "is_name_word" (spWord nmOk) []) :
    FnOk prg w K mg base CX0 4 f fd ["self", "does"] (spAnyName C) := by
  have S := fs_P_any_name
  refine F.ok S (fun vs H Q E h => by obtain ⟨p, _, _, _, _, _, _, _, _, _, rfl, _⟩ := h; rfl) fun cdv A outer s H vs Q E hr hsp => ?_
  obtain ⟨p, wl, nl, ws, a, d, pl, k, x, y, rfl, hp, hx, ok, q⟩ := hsp
  refine ⟨_, (pss_cons (ps_set (i := 2) S.nd rfl (Or.inl rfl) (pe_clm0 c_word D.cl hr (by decide) (pv 0)))
    (pss_cons (ps_if (pt_not (pt_val (pe_clo c_is_any_name hr (by decide) rfl (pa_cons (pv 2) pa_nil)))) (pss_one (ps_ret pe_non)) pss_nil)
    (pss_cons (ps_expr (pe_clm c_bound D.cl hr (by decide) (pv 0) (pa_cons (pe_clo c_is_name_word hr (by decide) rfl (pa_cons (pv 2) pa_nil)) pa_nil)))
    (pss_cons (ps_expr (pe_bm PySem.F.plainAttrs_list PySem.F.slot_list_append PySem.F.type_list_append mt_append (pe_fld (pv 0) rfl) (pa_cons (pe_tup (pa_cons (pv 1) (pa_cons (pv 2) (pa_cons (pe_fld (pv 0) rfl) (pa_cons pe_int pa_nil))))) pa_nil)))
    (pss_cons (ps_fld (pv 0) (pe_op op_add (pe_fld (pv 0) rfl) pe_int) rfl)
    (pss_one (ps_ret (pv 2)))))))), ?_⟩
  have sl : sizeLine = 16777216 := sizeLine_eq
  obtain ⟨dx, h1⟩ := hp.atp
  have hl := nm_len ok
  have halt : a < ws.length := (List.getElem?_eq_some_iff.mp hx).1
  have hsz := hp.sz
  refine ⟨_, rfl, p, dx, _, rfl, h1, rfl, p, wl, nl, ws, a, d, pl, k, rfl, hp, ?_⟩
  rw [nxt_of hx]
  refine ⟨_, rfl, x, rfl, by omega, fun H1 k1 => ?_⟩
  rw [nm_nm ok]
  refine ⟨true, rfl, iteF ?_⟩
  have hp1 := hp.kp k1 (by simp) (by simp) (by simp)
  refine ⟨_, rfl, p, dx, _, rfl, k1.ins h1 (by simp), rfl, _, rfl, x, rfl, by omega, fun H2 k2 => ?_⟩
  rw [ok]
  have hp2 := hp1.kp k2 (by simp) (by simp) (by simp)
  refine ⟨p, wl, nl, ws, a, d, pl, k, rfl, hp2, fun H3 k3 hp3 => ?_⟩
  obtain ⟨dx3, ts3, nms, e1, e2, e3, e4, e5⟩ := hp3.ex
  have k03 : Kp [p, nl] H H3 := (k1.of.trans k2.of).trans (k3.mono (by simp))
  refine ⟨_, rfl, p, C, dx3, _, .ref nl, rfl, e1, D.cl, D.n_names, rfl, .inl ⟨rfl, _, SqL.of e4⟩, _, rfl, _, rfl, _, rfl, p, C, dx3, _, .int a, rfl, e1, D.cl, D.n_at, rfl, by show 4 ≤ sizeLine; omega, fun t nt => ?_⟩
  have e4' : (upd H3 t (.tup [.str y, .str x, .int a, .int 0])) nl = some (.lst nms) := by rw [upd_ne (ne_of_none e4 nt)]; exact e4
  have hle := hp3.le
  refine ⟨nl, nms, _, rfl, rfl, e4', by omega, ?_⟩
  have np : p ≠ nl := ne_of e1 e4 (by intro z; cases z)
  have pt : p ≠ t := ne_of_none e1 nt
  have k4 : Kp [p, nl] H3 (upd (upd H3 t (.tup [.str y, .str x, .int a, .int 0])) nl (.lst (nms ++ [.ref t]))) := (Kp.new nt).trans (Kp.put e4' rfl (by simp))
  have e1' : (upd (upd H3 t (.tup [.str y, .str x, .int a, .int 0])) nl (.lst (nms ++ [.ref t]))) p = some (.ins C dx3 (flds wl nl a d pl)) := by
    rw [upd_ne np, upd_ne pt]
    exact e1
  refine ⟨_, rfl, p, C, dx3, _, .int a, rfl, e1', D.cl, D.n_at, rfl, _, _, rfl, rfl, _, rfl, p, C, dx3, _, rfl, e1', D.cl, D.n_at, by show 6 < 1000; decide, ?_⟩
  rw [put_at1]
  have k5 := (k03.trans k4).trans (Kp.put (o := .ins C dx3 (flds wl nl (a + 1) d pl)) e1' rfl (by simp))
  refine ⟨_, rfl, q _ k5 ⟨⟨dx3, ts3, nms ++ [.ref t], upd_same, ?_, ?_, ?_, by simp [e5]⟩, by omega, hp.sz, hp.ne⟩⟩
  · rw [upd_ne (ne_of e2 e1 (by intro z; cases z)), upd_ne hp.ne, upd_ne (ne_of_none e2 nt)]
    exact e2
  · exact (e3.kp k4).kp (Kp.put (D := [p]) e1' rfl (by simp))
  · rw [upd_ne (Ne.symm np)]
    exact upd_same
theorem ok_P_any_number (F : L2.FunD K "any_number" "RowParser.any_number" (defArgs s_P_any_number) (defBody s_P_any_number) (defScope s_P_any_number) [.non] [] f fd) (T : Nms mg) (D : PC K C) (c_word : ClM prg w K mg base 1 C "word" (spWd C) []) (c_bound : ClM prg w K mg base 1 C "bound" (spBound C) []) (c_is_any_number : ClO prg w K mg base CX0 2 "is_any_number" (spWord isNu) []) (c_is_number_word : ClO prg w K mg base CX0 3 "is_number_word" (spWord nuOk) []) :
    FnOk prg w K mg base CX0 4 f fd ["self", "most"] (spAnyNum C) := by
  have S := fs_P_any_number
  refine F.ok S (fun vs H Q E h => by obtain ⟨p, _, _, _, _, _, _, _, _, _, rfl, _⟩ := h; rfl) fun cdv A outer s H vs Q E hr hsp => ?_
  obtain ⟨p, wl, nl, ws, a, d, pl, k, n, m, rfl, hp, hx, ok, hm, q⟩ := hsp
  refine ⟨_, (pss_cons (ps_set (i := 2) S.nd rfl (Or.inl rfl) (pe_clm0 c_word D.cl hr (by decide) (pv 0)))
    (pss_cons (ps_if (pt_not (pt_val (pe_clo c_is_any_number hr (by decide) rfl (pa_cons (pv 2) pa_nil)))) (pss_one (ps_ret pe_non)) pss_nil)
    (pss_cons (ps_fld (pv 0) (pe_op op_add (pe_fld (pv 0) rfl) pe_int) rfl)
    (pss_cons (ps_set (i := 3) S.nd rfl (Or.inl rfl) (pe_ifExp (pt_val (pe_clo c_is_number_word hr (by decide) rfl (pa_cons (pv 2) pa_nil))) (pe_callTy call_int_str (by rfl) T.n_int (by decide +kernel) (pa_cons (pv 2) pa_nil)) (pe_un un_neg pe_int)))
    (pss_cons (ps_expr (pe_clm c_bound D.cl hr (by decide) (pv 0) (pa_cons (pe_and (pe_cmpR op_ge (pv 3) pe_int (nomark _)) (pe_one (pe_or (pe_cmpR op_isN (pv 1) pe_non (nomark _)) (pe_one (pe_cmpR op_le (pv 3) (pv 1) (nomark _)))))) pa_nil)))
    (pss_one (ps_ret (pv 3)))))))), ?_⟩
  obtain ⟨dx, h1⟩ := hp.atp
  have hl := nu_len ok.1
  refine ⟨_, rfl, p, dx, _, rfl, h1, rfl, p, wl, nl, ws, a, d, pl, k, rfl, hp, ?_⟩
  rw [nxt_of hx]
  refine ⟨_, rfl, _, rfl, by omega, fun H1 k1 => ?_⟩
  rw [nu_nu ok.1]
  refine ⟨true, rfl, iteF ?_⟩
  have hp1 := hp.kp k1 (by simp) (by simp) (by simp)
  have g1 := k1.ins h1 (by simp)
  refine ⟨_, rfl, p, C, dx, _, .int a, rfl, g1, D.cl, D.n_at, rfl, _, _, rfl, rfl, _, rfl, p, C, dx, _, rfl, g1, D.cl, D.n_at, by show 6 < 1000; decide, ?_⟩
  rw [put_at1]
  have k2 : Kp [p] H1 (upd H1 p (.ins C dx (flds wl nl (a + 1) d pl))) := Kp.put g1 rfl (by simp)
  have hp2 := hp1.put (a' := a + 1) (d' := d) (pl' := pl) g1 (Nat.le_succ_of_le hp1.le)
  generalize upd H1 p (.ins C dx (flds wl nl (a + 1) d pl)) = H2 at k2 hp2 ⊢
  refine ⟨_, rfl, _, rfl, by omega, fun H3 k3 => ?_⟩
  rw [ok.1]
  refine ⟨true, rfl, iteT ⟨_, rfl, _, _, rfl, ok.2.1, by omega, ?_⟩⟩
  have hp3 := hp2.kp k3 (by simp) (by simp) (by simp)
  obtain ⟨dx3, h3⟩ := hp3.atp
  have fin : ∀ H4, Kp [p] H3 H4 → PsAt C p wl nl H4 ws (a + 1) d pl k → Q (.int (n : Nat)) H4 := fun H4 k4 hp4 => q H4 (((Kp.of k1).trans k2).trans ((Kp.of k3).trans k4)) hp4
  rcases hm with rfl | ⟨rfl, hn⟩
  · refine ⟨_, rfl, p, dx3, _, rfl, h3, rfl, _, rfl, _, _, rfl, rfl, true, congrArg V.bl (decide_eq_true (by omega)), iteT ⟨_, rfl, rfl, _, rfl, iT (by rfl) ⟨p, wl, nl, ws, a + 1, d, pl, k, rfl, hp3, fun H4 k4 hp4 => ⟨_, rfl, fin H4 k4 hp4⟩⟩⟩⟩
  · refine ⟨_, rfl, p, dx3, _, rfl, h3, rfl, _, rfl, _, _, rfl, rfl, true, congrArg V.bl (decide_eq_true (by omega)), iteT ⟨_, rfl, rfl, _, rfl, iF (by rfl) ⟨_, rfl, _, rfl, _, _, rfl, rfl, p, wl, nl, ws, a + 1, d, pl, k, ?_, hp3, fun H4 k4 hp4 => ⟨_, rfl, fin H4 k4 hp4⟩⟩⟩⟩
    show [V.ref p, V.bl (decide (((n : Nat) : Int) ≤ 4))] ++ [] = _
    rw [decide_eq_true (show ((n : Nat) : Int) ≤ 4 by omega)]
    rfl
theorem ok_P_sited (F : L2.Fun K "sited" "RowParser.sited" s_P_sited f fd) (T : Nms mg) (Z : Cns K w mg dD dG dS) (D : PC K C) (c_bound : ClM prg w K mg base 1 C "bound" (spBound C) []) : FnOk prg w K mg base CX0 2 f fd ["self", "tree", "begin", "parts"] (spSited C) := by
  have S := fs_P_sited
  refine F.ok S (fun vs H Q E h => by obtain ⟨p, _, _, _, _, _, _, _, _, _, _, _, rfl, _⟩ := h; rfl) fun cdv A outer s H vs Q E hr hsp => ?_
  obtain ⟨p, wl, nl, q', ws, a, d, pl, k, x, y, xs, rfl, hp, hq, hqp, h40, q⟩ := hsp
  refine ⟨_, (pss_cons (ps_fld (pv 0) (pe_op op_add (pe_fld (pv 0) rfl) pe_int) rfl)
    (pss_cons (ps_expr (pe_clm c_bound D.cl hr (by decide) (pv 0) (pa_cons (pe_cmpR op_le (pe_fld (pv 0) rfl) (pe_gI rfl Z.c_MOST_PLACES) (nomark _)) pa_nil)))
    (pss_one (ps_ret (pe_tup (pa_cons (pv 1) (pa_cons (pv 2) (pa_cons (pe_fld (pv 0) rfl) (pa_cons (pe_callTy call_tuple_of (by rfl) T.n_tuple (by decide +kernel) (pa_cons (pv 3) pa_nil)) pa_nil))))))))), ?_⟩
  obtain ⟨dx, h1⟩ := hp.atp
  refine ⟨_, rfl, p, C, dx, _, .int pl, rfl, h1, D.cl, D.n_places, rfl, _, _, rfl, rfl, _, rfl, p, C, dx, _, rfl, h1, D.cl, D.n_places, by show 6 < 1000; decide, ?_⟩
  rw [put_places1]
  have k1 : Kp [p] H (upd H p (.ins C dx (flds wl nl a d (pl + 1)))) := Kp.put h1 rfl (by simp)
  have hp1 := hp.put (a' := a) (d' := d) (pl' := pl + 1) h1 hp.le
  have g1 : (upd H p (.ins C dx (flds wl nl a d (pl + 1)))) p = some (.ins C dx (flds wl nl a d (pl + 1))) := upd_same
  generalize upd H p (.ins C dx (flds wl nl a d (pl + 1))) = H1 at k1 hp1 g1 ⊢
  refine ⟨_, rfl, p, dx, _, rfl, g1, rfl, _, rfl, p, C, dx, _, .int (pl + 1 : Nat), rfl, g1, D.cl, D.n_places, rfl, _, _, rfl, rfl, p, wl, nl, ws, a, d, pl + 1, k, ?_, hp1, fun H2 k2 hp2 => ?_⟩
  · show [V.ref p, V.bl (decide (((pl + 1 : Nat) : Int) ≤ 40))] ++ [] = _
    rw [decide_eq_true (show ((pl + 1 : Nat) : Int) ≤ 40 by omega)]
    rfl
  obtain ⟨dx2, h2⟩ := hp2.atp
  have hq2 : H2 q' = some (.lst xs) := k2.lst (k1.lst hq (by simpa using hqp)) (by simpa using hqp)
  refine ⟨_, rfl, _, rfl, _, rfl, p, C, dx2, _, .int a, rfl, h2, D.cl, D.n_at, rfl, _, rfl, q', xs, rfl, .inl ⟨SqL.of hq2, fun tp ntp => ⟨by show 4 ≤ sizeLine; decide, fun r nr => ?_⟩⟩⟩
  have k3 : Kp [] H2 (upd (upd H2 tp (.tup xs)) r (.tup [x, y, .int a, .ref tp])) := (Kp.new ntp).trans (Kp.new nr)
  exact q _ r tp ((k1.trans k2).trans k3.of) (hp2.kp k3 (by simp) (by simp) (by simp)) upd_same
end
end K2
set_option maxHeartbeats 4000000
/-! P10: which words stand for a tree; powers, deeds, terms, sums read. -/
namespace K2
open PySem PySem.Spec L2 DL
open PySem.W (Frag keepIn findIn typeIn subIn kitOne kitAny excIn)
open PyProof.Rows hiding St wpAt wpAt_bind wpAt_stack wpAt_mono
/-- words that stand for a tree: 0 as a sum, 1 as a term, 2 as a power, 3 as an atom; at most so many brackets deep -/
inductive Der : Nat → Nat → List Str → Tr → Prop
  | val {d n : Nat} : NumOk n → Der 3 d [numT n] (.val n)
  | nam {d : Nat} {x : Str} : nmOk x = true → Der 3 d [x] (.nam x)
  | par {d : Nat} {us : List Str} {t : Tr} : Der 0 d us t → Der 3 (d + 1) ([("(" : Str)] ++ us ++ [(")" : Str)]) t
  | call1 {d : Nat} {f : Str} {us : List Str} {t : Tr} : nmOk f = true → Der 0 d us t → Der 3 (d + 1) ([f, ("(" : Str)] ++ us ++ [(")" : Str)]) (.call1 f t)
  | call2 {d : Nat} {f : Str} {us vs : List Str} {t u : Tr} : nmOk f = true → Der 0 d us t → Der 0 d vs u → Der 3 (d + 1) ([f, ("(" : Str)] ++ us ++ [("," : Str)] ++ vs ++ [(")" : Str)]) (.call2 f t u)
  | pow {d k : Nat} {us : List Str} {t : Tr} : Der 3 d us t → k ≤ 4 → NumOk k → Der 2 d (us ++ [("^" : Str), numT k]) (.pow t k)
  | up2 {d : Nat} {us : List Str} {t : Tr} : Der 3 d us t → Der 2 d us t
  | bin1 {d : Nat} {o : Op} {us vs : List Str} {t u : Tr} : o.lv = 1 → Der 1 d us t → Der 2 d vs u → Der 1 d (us ++ o.s :: vs) (.bin o t u)
  | up1 {d : Nat} {us : List Str} {t : Tr} : Der 2 d us t → Der 1 d us t
  | minus {d : Nat} {us : List Str} {t : Tr} : Der 1 d us t → Der 0 d (("-" : Str) :: us) (.minus t)
  | bin0 {d : Nat} {o : Op} {us vs : List Str} {t u : Tr} : o.lv = 0 → Der 0 d us t → Der 1 d vs u → Der 0 d (us ++ o.s :: vs) (.bin o t u)
  | up0 {d : Nat} {us : List Str} {t : Tr} : Der 1 d us t → Der 0 d us t
def flatT : List (Op × List Str × Tr) → List Str
  | [] => []
  | e :: r => e.1.s :: (e.2.1 ++ flatT r)
def foldT : Tr → List (Op × List Str × Tr) → Tr
  | t, [] => t
  | t, e :: r => foldT (.bin e.1 t e.2.2) r
theorem flatT_snoc (e : Op × List Str × Tr) : ∀ tl, flatT (tl ++ [e]) = flatT tl ++ e.1.s :: e.2.1
  | [] => by simp [flatT]
  | x :: tl => by simp [flatT, flatT_snoc e tl]
theorem foldT_snoc (e : Op × List Str × Tr) : ∀ (tl : List (Op × List Str × Tr)) (t : Tr), foldT t (tl ++ [e]) = .bin e.1 (foldT t tl) e.2.2
  | [], t => rfl
  | x :: tl, t => by simp [foldT, foldT_snoc e tl]
theorem Der.chain1 {d : Nat} {us : List Str} {t : Tr} (h : Der 1 d us t) : ∃ us0 t0 tl, Der 2 d us0 t0 ∧ us = us0 ++ flatT tl ∧ t = foldT t0 tl ∧ ∀ e ∈ tl, e.1.lv = 1 ∧ Der 2 d e.2.1 e.2.2 := by
  generalize hl : 1 = l at h
  induction h with
  | @bin1 d o us vs t u ho h1 h2 ih1 ih2 =>
    obtain ⟨us0, t0, tl, a, rfl, rfl, b⟩ := ih1 rfl
    refine ⟨us0, t0, tl ++ [(o, vs, u)], a, ?_, ?_, fun e m => ?_⟩
    · rw [flatT_snoc, List.append_assoc]
    · rw [foldT_snoc]
    · rcases List.mem_append.mp m with m | m
      · exact b e m
      · rw [List.mem_singleton] at m
        rw [m]
        exact ⟨ho, h2⟩
  | up1 h ih => exact ⟨_, _, [], h, (by simp [flatT]), rfl, fun e m => by cases m⟩
  | val => cases hl
  | nam => cases hl
  | par => cases hl
  | call1 => cases hl
  | call2 => cases hl
  | pow => cases hl
  | up2 => cases hl
  | minus => cases hl
  | bin0 => cases hl
  | up0 => cases hl
theorem Der.chain0 {d : Nat} {us : List Str} {t : Tr} (h : Der 0 d us t) : ∃ (neg : Bool) (us0 : List Str) (t0 : Tr) (tl : List (Op × List Str × Tr)), Der 1 d us0 t0 ∧ us = (if neg then [("-" : Str)] else []) ++ (us0 ++ flatT tl) ∧ t = foldT (if neg then .minus t0 else t0) tl ∧ ∀ e ∈ tl, e.1.lv = 0 ∧ Der 1 d e.2.1 e.2.2 := by
  generalize hl : 0 = l at h
  induction h with
  | @bin0 d o us vs t u ho h1 h2 ih1 ih2 =>
    obtain ⟨neg, us0, t0, tl, a, rfl, rfl, b⟩ := ih1 rfl
    refine ⟨neg, us0, t0, tl ++ [(o, vs, u)], a, ?_, ?_, fun e m => ?_⟩
    · rw [flatT_snoc]
      simp only [List.append_assoc]
    · rw [foldT_snoc]
    · rcases List.mem_append.mp m with m | m
      · exact b e m
      · rw [List.mem_singleton] at m
        rw [m]
        exact ⟨ho, h2⟩
  | up0 h ih => exact ⟨false, _, _, [], h, (by simp [flatT]), rfl, fun e m => by cases m⟩
  | minus h ih => exact ⟨true, _, _, [], h, (by simp [flatT]), rfl, fun e m => by cases m⟩
  | val => cases hl
  | nam => cases hl
  | par => cases hl
  | call1 => cases hl
  | call2 => cases hl
  | pow => cases hl
  | up2 => cases hl
  | bin1 => cases hl
  | up1 => cases hl
/-- what may stand behind -/
def cont : Nat → List Str
  | 0 => ["(", "^", "*", "/", "+", "-"]
  | 1 => ["(", "^", "*", "/"]
  | 2 => ["(", "^"]
  | _ => ["("]
def Fol (l : Nat) (x : Str) : Prop := x ∉ cont l
theorem not_nm {x y : Str} (h : nmOk x = true) (n : isNm y = false) : x ≠ y := fun e => by
  rw [e] at h
  have := (Bool.and_eq_true_iff.mp h).1
  rw [n] at this
  cases this
theorem not_nu {x y : Str} (h : nuOk x = true) (n : isNu y = false) : x ≠ y := fun e => by
  rw [e] at h
  have := (Bool.and_eq_true_iff.mp h).1
  rw [n] at this
  cases this
/-- the first word of a term -/
theorem Der.first {l d : Nat} {us : List Str} {t : Tr} (h : Der l d us t) : 1 ≤ l → ∃ x r, us = x :: r ∧ x ≠ "-" := by
  induction h with
  | val h => exact fun _ => ⟨_, _, rfl, not_nu h.1 (by decide +kernel)⟩
  | nam h => exact fun _ => ⟨_, _, rfl, not_nm h (by decide +kernel)⟩
  | par h ih => exact fun _ => ⟨_, _, rfl, by decide +kernel⟩
  | call1 hf h ih => exact fun _ => ⟨_, _, rfl, not_nm hf (by decide +kernel)⟩
  | call2 hf h h' ih ih' => exact fun _ => ⟨_, _, rfl, not_nm hf (by decide +kernel)⟩
  | pow h h1 h2 ih => exact fun _ => let ⟨x, r, e, n⟩ := ih (by decide); ⟨x, _, by rw [e]; rfl, n⟩
  | up2 h ih => exact fun _ => ih (by decide)
  | bin1 ho h h' ih ih' => exact fun _ => let ⟨x, r, e, n⟩ := ih (by decide); ⟨x, _, by rw [e]; rfl, n⟩
  | up1 h ih => exact fun _ => ih (by decide)
  | minus h ih => exact fun z => absurd z (by decide)
  | bin0 ho h h' ih ih' => exact fun z => absurd z (by decide)
  | up0 h ih => exact fun z => absurd z (by decide)
theorem Der.sz_ok {l d : Nat} {us : List Str} {t : Tr} (h : Der l d us t) : t.ok := by
  induction h with
  | val h => exact h
  | nam h => exact h
  | par h ih => exact ih
  | call1 hf h ih => exact ⟨hf, ih⟩
  | call2 hf h h' ih ih' => exact ⟨hf, ih, ih'⟩
  | pow h h1 h2 ih => exact ⟨ih, h1, h2⟩
  | up2 h ih => exact ih
  | bin1 ho h h' ih ih' => exact ⟨ih, ih'⟩
  | up1 h ih => exact ih
  | minus h ih => exact ih
  | bin0 ho h h' ih ih' => exact ⟨ih, ih'⟩
  | up0 h ih => exact ih
theorem nxt_app (pre l : List Str) {a : Nat} (h : pre.length = a) : nxt (pre ++ l) a = nxt l 0 := by
  unfold nxt
  rw [List.getElem?_append_right (by omega), h, Nat.sub_self]
theorem nxt_cons (x : Str) (l : List Str) : nxt (x :: l) 0 = x := rfl
def SitAt (H : Hp) (r : Addr) (t : Tr) : Prop := ∃ u b e tp, H r = some (.tup [u, b, e, tp]) ∧ TrAt H t u
theorem SitAt.kp {H H' : Hp} {D : List Addr} {r : Addr} {t : Tr} (h : SitAt H r t) (k : Kp D H H') : SitAt H' r t := let ⟨u, b, e, tp, h1, h2⟩ := h; ⟨u, b, e, tp, k.tup h1, h2.kp k⟩
/-- a method that reads a tree -/
def spLv (C : Addr) (l dm : Nat) : Sp := fun vs H Q _ => ∃ (p wl nl : Addr) (ws : List Str) (a d pl k : Nat) (us rest pre : List Str) (dd : Nat) (t : Tr), vs = [.ref p] ∧ PsAt C p wl nl H ws a d pl k ∧ Der l dd us t ∧ dd ≤ dm ∧ d + dd ≤ 12 ∧ ws = pre ++ (us ++ rest) ∧ pre.length = a ∧ pl + t.sz ≤ 40 ∧ Fol l (nxt rest 0) ∧
  ∀ H' r k', Kp [p, nl] H H' → PsAt C p wl nl H' ws (a + us.length) d (pl + t.sz) k' → k ≤ k' → SitAt H' r t → Q (.ref r) H'
/-- a deed and what stands behind it -/
def spDeed (C g : Addr) (l dm : Nat) : Sp := fun vs H Q _ => ∃ (p wl nl r q : Addr) (b : Int) (ws : List Str) (a d pl k : Nat) (o : Op) (us rest pre : List Str) (dd : Nat) (tc u : Tr), vs = [.ref p, .ref r, .int b, .ref q] ∧ PsAt C p wl nl H ws a d pl k ∧ H q = some (.met g p) ∧ SitAt H r tc ∧ Der l dd us u ∧ dd ≤ dm ∧ d + dd ≤ 12 ∧
  ws = pre ++ (o.s :: (us ++ rest)) ∧ pre.length = a ∧ pl + u.sz + 1 ≤ 40 ∧ Fol l (nxt rest 0) ∧ ∀ H' r' k', Kp [p, nl] H H' → PsAt C p wl nl H' ws (a + 1 + us.length) d (pl + u.sz + 1) k' → k ≤ k' → SitAt H' r' (.bin o tc u) → Q (.ref r') H'
section
variable {w : World} {K : Frag} {mg : Str → Option Value} {base : Heap} {f : Addr} {fd : FuncData} {dD dG dS C : Addr}
theorem ok_P_any_power (n dm : Nat) (hn : 4 ≤ n) (F : L2.Fun K "any_power" "RowParser.any_power" s_P_any_power f fd) (Z : Cns K w mg dD dG dS) (D : PC K C) (c_any_atom : ClM prg w K mg base n C "any_atom" (spLv C 3 dm) []) (c_takes : ClM prg w K mg base 2 C "takes" (spTakes C) []) (c_any_number : ClM prg w K mg base 4 C "any_number" (spAnyNum C) []) (c_sited : ClM prg w K mg base 2 C "sited" (spSited C) []) :
    FnOk prg w K mg base CX0 (n + 1) f fd ["self"] (spLv C 2 dm) := by
  have S := fs_P_any_power
  refine F.ok S (fun vs H Q E h => by obtain ⟨p, _, _, _, _, _, _, _, _, _, _, _, _, rfl, _⟩ := h; rfl) fun cdv A outer s H vs Q E hr hsp => ?_
  obtain ⟨p, wl, nl, ws, a, d, pl, k, us, rest, pre, dd, t, rfl, hp, hD, hdm, hd, hws, hpre, hpl, hfol, q⟩ := hsp
  refine ⟨_, (pss_cons (ps_set (i := 1) S.nd rfl (Or.inl rfl) (pe_fld (pv 0) rfl))
    (pss_cons (ps_set (i := 2) S.nd rfl (Or.inl rfl) (pe_clm0 c_any_atom D.cl hr (Nat.le_refl _) (pv 0)))
    (pss_cons (ps_if (PW.pt (pw_or (pt_cmpR op_isN (pv 2) pe_non (nomark _)) (pw_or1 (pt_not (pt_val (pe_clm c_takes D.cl hr (by omega) (pv 0) (pa_cons pe_str pa_nil))))))) (pss_one (ps_ret (pv 2))) pss_nil)
    (pss_cons (ps_set (i := 3) S.nd rfl (Or.inl rfl) (pe_clm c_any_number D.cl hr (by omega) (pv 0) (pa_cons (pe_gI rfl Z.c_MOST_POWER) pa_nil)))
    (pss_one (ps_ret (pe_ifExp (pt_cmpR op_isN (pv 3) pe_non (nomark _)) pe_non (pe_clm c_sited D.cl hr (by omega) (pv 0) (pa_cons (pe_tup (pa_cons pe_str (pa_cons (pe_ix ix_tup (pv 2) pe_int (fun _ _ => rfl)) (pa_cons (pv 3) pa_nil)))) (pa_cons (pv 1) (pa_cons (pe_lst (pa_cons (pv 2) pa_nil)) pa_nil))))))))))), ?_⟩
  obtain ⟨dx, h1⟩ := hp.atp
  have hD' : (Der 3 dd us t) ∨ ∃ us0 t0 m, us = us0 ++ [("^" : Str), numT m] ∧ t = .pow t0 m ∧ Der 3 dd us0 t0 ∧ m ≤ 4 ∧ NumOk m := by
    cases hD with
    | pow h a b => exact .inr ⟨_, _, _, rfl, rfl, h, a, b⟩
    | up2 h => exact .inl h
  refine ⟨_, rfl, p, C, dx, _, .int a, rfl, h1, D.cl, D.n_at, rfl, ?_⟩
  refine ⟨_, rfl, p, dx, _, rfl, h1, rfl, ?_⟩
  rcases hD' with hD | ⟨us0, t0, m, rfl, rfl, hD, hm, hmo⟩
  · refine ⟨p, wl, nl, ws, a, d, pl, k, us, rest, pre, dd, t, rfl, hp, hD, hdm, hd, hws, hpre, hpl, fun z => hfol (by simp only [cont, List.mem_cons, List.not_mem_nil, or_false] at z ⊢; exact .inl z), fun H1 r k1 kk hp1 hk1 hs => ?_⟩
    obtain ⟨dx1, g1⟩ := hp1.atp
    refine ⟨_, rfl, rfl, _, rfl, iF (by rfl) ⟨_, rfl, p, dx1, _, rfl, g1, rfl, p, wl, nl, ws, _, d, _, k1, _, rfl, hp1, fun _ => ⟨false, rfl, iteT ⟨_, rfl, q H1 r k1 kk hp1 hk1 hs⟩⟩, fun e => ?_⟩⟩
    exfalso
    rw [hws, ← List.append_assoc, nxt_app (pre ++ us) rest (by rw [List.length_append, hpre])] at e
    exact hfol (by rw [e]; decide +kernel)
  · rw [List.append_assoc] at hws
    refine ⟨p, wl, nl, ws, a, d, pl, k, us0, _, pre, dd, t0, rfl, hp, hD, hdm, hd, hws, hpre, (by simp only [Tr.sz] at hpl; omega), (by show Fol 3 "^"; unfold Fol; decide +kernel), fun H1 r k1 kk hp1 hk1 hs => ?_⟩
    obtain ⟨dx1, g1⟩ := hp1.atp
    have en : nxt ws (a + us0.length) = "^" := by
      rw [hws, ← List.append_assoc, nxt_app (pre ++ us0) _ (by rw [List.length_append, hpre])]
      rfl
    refine ⟨_, rfl, rfl, _, rfl, iF (by rfl) ⟨_, rfl, p, dx1, _, rfl, g1, rfl, p, wl, nl, ws, _, d, _, k1, _, rfl, hp1, fun e => absurd en e, fun _ H2 kk2 hp2 => ⟨true, rfl, iteF ?_⟩⟩⟩
    obtain ⟨dx2, g2⟩ := hp2.atp
    have eg : ws[a + us0.length + 1]? = some (numT m) := by
      rw [hws, ← List.append_assoc, List.getElem?_append_right (by rw [List.length_append, hpre]; omega)]
      rw [List.length_append, hpre, show a + us0.length + 1 - (a + us0.length) = 1 by omega]
      rfl
    refine ⟨_, rfl, p, dx2, _, rfl, g2, rfl, p, wl, nl, ws, _, d, _, k1, m, .int 4, rfl, hp2, eg, hmo, .inr ⟨rfl, hm⟩, fun H3 kk3 hp3 => ?_⟩
    obtain ⟨dx3, g3⟩ := hp3.atp
    have hs3 : SitAt H3 r t0 := (hs.kp kk2).kp kk3
    obtain ⟨u, b, e, tp, hr3, hu3⟩ := hs3
    refine ⟨_, rfl, rfl, _, rfl, iF (by rfl) ⟨_, rfl, p, dx3, _, rfl, g3, rfl, _, rfl, r, _, 0, u, rfl, rfl, SqT.of hr3, rfl, _, rfl, by show 3 ≤ sizeLine; decide, fun x nx => ⟨_, rfl, _, rfl, by show 1 ≤ sizeLine; decide, fun l nl' => ?_⟩⟩⟩
    have k4 : Kp [] H3 (upd (upd H3 x (.tup [.str "power", u, .int m])) l (.lst [.ref r])) := (Kp.new nx).trans (Kp.new nl')
    have hp4 := hp3.kp k4 (by simp) (by simp) (by simp)
    have hx4 : (upd (upd H3 x (.tup [.str "power", u, .int m])) l (.lst [.ref r])) x = some (.tup [.str "power", u, .int m]) := by
      rw [upd_ne (ne_of_none (show (upd H3 x (.tup [.str "power", u, .int m])) x = some _ from upd_same) nl')]
      exact upd_same
    have lp : l ≠ p := fun e => by
      have z : (upd H3 x (.tup [.str "power", u, .int m])) p = some _ := (Kp.new (D := []) nx).ins g3 (by simp)
      rw [← e, nl'] at z
      cases z
    refine ⟨p, wl, nl, l, ws, _, d, _, k1, .ref x, .int a, _, rfl, hp4, upd_same, lp, by simp only [Tr.sz] at hpl; omega, fun H5 r5 tp5 kk5 hp5 hr5 => ?_⟩
    have kfin : Kp [p, nl] H H5 := ((kk.trans ((kk2.trans kk3).mono (by simp))).trans k4.of).trans (kk5.mono (by simp))
    refine q H5 r5 k1 kfin ?_ hk1 ⟨_, _, _, _, hr5, x, u, rfl, kk5.tup hx4, (hu3.kp k4).kp kk5⟩
    have e1 : a + us0.length + 1 + 1 = a + (us0 ++ [("^" : Str), numT m]).length := by rw [List.length_append]; simp only [List.length_cons, List.length_nil]; omega
    rw [← e1]
    simp only [Tr.sz, ← Nat.add_assoc]
    exact hp5
theorem ok_P_deed (n l dm : Nat) (g : Addr) (hn : 4 ≤ n) (hl1 : l = 1 ∨ l = 2) (F : L2.Fun K "deed" "RowParser.deed" s_P_deed f fd) (D : PC K C) (F0 : FnR prg w K mg base CX0 n g (spLv C l dm)) (hg : PySem.W.fnIn K g = true) (c_word : ClM prg w K mg base 1 C "word" (spWd C) []) (c_sited : ClM prg w K mg base 2 C "sited" (spSited C) []) :
    FnOk prg w K mg base CX0 (n + 1) f fd ["self", "one", "begin", "read_other"] (spDeed C g l dm) := by
  have S := fs_P_deed
  refine F.ok S (fun vs H Q E h => by obtain ⟨p, _, _, _, _, _, _, _, _, _, _, _, _, _, _, _, _, _, rfl, _⟩ := h; rfl) fun cdv A outer s H vs Q E hr hsp => ?_
  obtain ⟨p, wl, nl, r, q', b, ws, a, d, pl, k, o, us, rest, pre, dd, tc, u, rfl, hp, hq', hs, hD, hdm, hd, hws, hpre, hpl, hfol, q⟩ := hsp
  refine ⟨_, (pss_cons (ps_set (i := 4) S.nd rfl (Or.inl rfl) (pe_clm0 c_word D.cl hr (by omega) (pv 0)))
    (pss_cons (ps_fld (pv 0) (pe_op op_add (pe_fld (pv 0) rfl) pe_int) rfl)
    (pss_cons (ps_set (i := 5) S.nd rfl (Or.inl rfl) (pe_callM (i := 3) F0 hr hg rfl (.inl rfl)))
    (pss_one (ps_ret (pe_ifExp (pt_cmpR op_isN (pv 5) pe_non (nomark _)) pe_non (pe_clm c_sited D.cl hr (by omega) (pv 0) (pa_cons (pe_tup (pa_cons (pv 4) (pa_cons (pe_ix ix_tup (pv 1) pe_int (fun _ _ => rfl)) (pa_cons (pe_ix ix_tup (pv 5) pe_int (fun _ _ => rfl)) pa_nil)))) (pa_cons (pv 2) (pa_cons (pe_lst (pa_cons (pv 1) (pa_cons (pv 5) pa_nil))) pa_nil)))))))))), ?_⟩
  obtain ⟨dx, h1⟩ := hp.atp
  have en : nxt ws a = o.s := by rw [hws, nxt_app pre _ hpre]; rfl
  refine ⟨_, rfl, p, dx, _, rfl, h1, rfl, p, wl, nl, ws, a, d, pl, k, rfl, hp, ?_⟩
  rw [en]
  refine ⟨_, rfl, p, C, dx, _, .int a, rfl, h1, D.cl, D.n_at, rfl, _, _, rfl, rfl, _, rfl, p, C, dx, _, rfl, h1, D.cl, D.n_at, by show 6 < 1000; decide, ?_⟩
  rw [put_at1]
  have k1 : Kp [p] H (upd H p (.ins C dx (flds wl nl (a + 1) d pl))) := Kp.put h1 rfl (by simp)
  have hp1 := hp.put (a' := a + 1) (d' := d) (pl' := pl) h1 (Nat.le_succ_of_le hp.le)
  generalize upd H p (.ins C dx (flds wl nl (a + 1) d pl)) = H1 at k1 hp1 ⊢
  refine ⟨q', p, rfl, k1.at_ hq' rfl, ?_⟩
  refine ⟨p, wl, nl, ws, a + 1, d, pl, k, us, rest, pre ++ [o.s], dd, u, rfl, hp1, hD, hdm, hd, by rw [hws]; simp, by rw [List.length_append, hpre]; rfl, by omega, hfol, fun H2 r2 k2 kk2 hp2 hk2 hs2 => ?_⟩
  obtain ⟨dx2, g2⟩ := hp2.atp
  obtain ⟨v1, b1, e1, tp1, hr1, hv1⟩ := (hs.kp k1).kp kk2
  obtain ⟨v2, b2, e2, tp2, hr2, hv2⟩ := hs2
  refine ⟨_, rfl, rfl, _, rfl, iF (by rfl) ⟨_, rfl, p, dx2, _, rfl, g2, rfl, _, rfl, _, rfl, r, _, 0, v1, rfl, rfl, SqT.of hr1, rfl, _, rfl, r2, _, 0, v2, rfl, rfl, SqT.of hr2, rfl, by show 3 ≤ sizeLine; decide, fun x nx => ⟨_, rfl, _, rfl, _, rfl, by show 2 ≤ sizeLine; decide, fun l' nl' => ?_⟩⟩⟩
  have k4 : Kp [] H2 (upd (upd H2 x (.tup [.str o.s, v1, v2])) l' (.lst [.ref r, .ref r2])) := (Kp.new nx).trans (Kp.new nl')
  have hp4 := hp2.kp k4 (by simp) (by simp) (by simp)
  have hx4 : (upd (upd H2 x (.tup [.str o.s, v1, v2])) l' (.lst [.ref r, .ref r2])) x = some (.tup [.str o.s, v1, v2]) := by
    rw [upd_ne (ne_of_none (show (upd H2 x (.tup [.str o.s, v1, v2])) x = some _ from upd_same) nl')]
    exact upd_same
  have lp : l' ≠ p := fun e => by
    have z : (upd H2 x (.tup [.str o.s, v1, v2])) p = some _ := (Kp.new (D := []) nx).ins g2 (by simp)
    rw [← e, nl'] at z
    cases z
  refine ⟨p, wl, nl, l', ws, _, d, _, k2, .ref x, .int b, _, rfl, hp4, upd_same, lp, by omega, fun H5 r5 tp5 kk5 hp5 hr5 => ?_⟩
  have kfin : Kp [p, nl] H H5 := (((k1.mono (by simp)).trans kk2).trans k4.of).trans (kk5.mono (by simp))
  exact q H5 r5 k2 kfin hp5 hk2 ⟨_, _, _, _, hr5, x, v1, v2, rfl, kk5.tup hx4, (hv1.kp k4).kp kk5, (hv2.kp k4).kp kk5⟩
end
end K2
set_option maxHeartbeats 4000000
/-! P11: terms and sums read. -/
namespace K2
open PySem PySem.Spec L2 DL
open PySem.W (Frag keepIn findIn typeIn subIn kitOne kitAny excIn)
open PyProof.Rows hiding St wpAt wpAt_bind wpAt_stack wpAt_mono
theorem inV2 (x a b : Str) : inV (.str x) [.str a, .str b] = (decide (a = x) || decide (b = x)) := by
  show ((a == x) || ((b == x) || false)) = _
  rw [Bool.or_false]
  rfl
theorem foldT_sz : ∀ (tl : List (Op × List Str × Tr)) (t : Tr), t.sz ≤ (foldT t tl).sz
  | [], t => Nat.le_refl _
  | e :: tl, t => Nat.le_trans (by simp only [Tr.sz]; omega) (foldT_sz tl (.bin e.1 t e.2.2))
theorem fol_up {l : Nat} {x : Str} (h : Fol l x) (hl : l ≤ 1) : Fol (l + 1) x := fun z => h (by
  rcases Nat.le_one_iff_eq_zero_or_eq_one.mp hl with rfl | rfl
  · simp only [cont, List.mem_cons, List.not_mem_nil, or_false] at z ⊢
    rcases z with z | z | z | z
    · exact .inl z
    · exact .inr (.inl z)
    · exact .inr (.inr (.inl z))
    · exact .inr (.inr (.inr (.inl z)))
  · simp only [cont, List.mem_cons, List.not_mem_nil, or_false] at z ⊢
    rcases z with z | z
    · exact .inl z
    · exact .inr (.inl z))
theorem fol_op {o : Op} {l : Nat} (h : o.lv = l) : Fol (l + 1) o.s := by
  subst h
  unfold Fol
  cases o
  · show ("+" : Str) ∉ cont 1; decide +kernel
  · show ("-" : Str) ∉ cont 1; decide +kernel
  · show ("*" : Str) ∉ cont 2; decide +kernel
  · show ("/" : Str) ∉ cont 2; decide +kernel
theorem fol_tail {l : Nat} {tl : List (Op × List Str × Tr)} {rest : List Str} (hl : l ≤ 1) (h : ∀ e ∈ tl, e.1.lv = l) (hf : Fol l (nxt rest 0)) : Fol (l + 1) (nxt (flatT tl ++ rest) 0) := by
  cases tl with
  | nil => exact fol_up hf hl
  | cons e tl => exact fol_op (h e List.mem_cons_self)
theorem Op.of1 {o : Op} (h : o.lv = 1) : inV (.str o.s) [.str "*", .str "/"] = true := by
  cases o
  · cases h
  · cases h
  · decide +kernel
  · decide +kernel
theorem Op.of0 {o : Op} (h : o.lv = 0) : inV (.str o.s) [.str "+", .str "-"] = true := by
  cases o
  · decide +kernel
  · decide +kernel
  · cases h
  · cases h
theorem fol1 {x : Str} (h : Fol 1 x) : inV (.str x) [.str "*", .str "/"] = false := by
  rw [inV2, decide_eq_false, decide_eq_false]
  · rfl
  · exact fun e => h (by rw [← e]; decide +kernel)
  · exact fun e => h (by rw [← e]; decide +kernel)
theorem fol0 {x : Str} (h : Fol 0 x) : inV (.str x) [.str "+", .str "-"] = false := by
  rw [inV2, decide_eq_false, decide_eq_false]
  · rfl
  · exact fun e => h (by rw [← e]; decide +kernel)
  · exact fun e => h (by rw [← e]; decide +kernel)
section
variable {w : World} {K : Frag} {mg : Str → Option Value} {base : Heap} {f : Addr} {fd : FuncData} {dD dG dS C g : Addr}
theorem ok_P_any_term (n dm : Nat) (hn : 4 ≤ n) (F : L2.Fun K "any_term" "RowParser.any_term" s_P_any_term f fd) (D : PC K C) (b_any_power : BMeth K C "any_power" g) (c_any_power : ClM prg w K mg base n C "any_power" (spLv C 2 dm) []) (c_deed : ClM prg w K mg base n C "deed" (spDeed C g 2 dm) []) (c_word : ClM prg w K mg base 1 C "word" (spWd C) []) :
    FnOk prg w K mg base CX0 (n + 1) f fd ["self"] (spLv C 1 dm) := by
  have S := fs_P_any_term
  refine F.ok S (fun vs H Q E h => by obtain ⟨p, _, _, _, _, _, _, _, _, _, _, _, _, rfl, _⟩ := h; rfl) fun cdv A outer s H vs Q E hr hsp => ?_
  obtain ⟨p, wl, nl, ws, a, d, pl, k, us, rest, pre, dd, t, rfl, hp, hD, hdm, hd, hws, hpre, hpl, hfol, q⟩ := hsp
  refine ⟨_, (pss_cons (ps_set (i := 1) S.nd rfl (Or.inl rfl) (pe_fld (pv 0) rfl))
    (pss_cons (ps_set (i := 2) S.nd rfl (Or.inl rfl) (pe_clm0 c_any_power D.cl hr (Nat.le_refl _) (pv 0)))
    (pss_cons (ps_while PassesOwn.never (PW.pt (pw_and (pt_cmpR op_notN (pv 2) pe_non (nomark _)) (pw_and1 (pt_cmpR op_in_seq (pe_clm0 c_word D.cl hr (by omega) (pv 0)) (pe_tup (pa_cons pe_str (pa_cons pe_str pa_nil))) rfl)))) (pss_one (ps_set (i := 2) S.nd rfl (Or.inl rfl) (pe_clm c_deed D.cl hr (Nat.le_refl _) (pv 0) (pa_cons (pv 2) (pa_cons (pv 1) (pa_cons (pe_bndM D.cl b_any_power (pv 0)) pa_nil)))))))
    (pss_one (ps_ret (pv 2)))))), ?_⟩
  obtain ⟨dx, h1⟩ := hp.atp
  obtain ⟨us0, t0, tl, hD0, rfl, rfl, htl⟩ := hD.chain1
  have hs0 := foldT_sz tl t0
  refine ⟨_, rfl, p, C, dx, _, .int a, rfl, h1, D.cl, D.n_at, rfl, ?_⟩
  rw [List.append_assoc] at hws
  refine ⟨_, rfl, p, dx, _, rfl, h1, rfl, p, wl, nl, ws, a, d, pl, k, us0, flatT tl ++ rest, pre, dd, t0, rfl, hp, hD0, hdm, hd, hws, hpre, by omega, fol_tail (Nat.le_refl _) (fun e m => (htl e m).1) hfol, fun H1 r k1 kk1 hp1 hk1 hr1 => ?_⟩
  refine ⟨fun m σ H' => ∃ (r : Addr) (tc : Tr) (tl' : List (Op × List Str × Tr)) (ac kc : Nat) (prec : List Str), m = tl'.length ∧ σ = [some (.ref p), some (.int a), some (.ref r)] ∧ Kp [p, nl] H H' ∧ PsAt C p wl nl H' ws ac d (pl + tc.sz) kc ∧ k ≤ kc ∧ SitAt H' r tc ∧ ws = prec ++ (flatT tl' ++ rest) ∧ prec.length = ac ∧ foldT t0 tl = foldT tc tl' ∧ ∀ e ∈ tl', e.1.lv = 1 ∧ Der 2 dd e.2.1 e.2.2,
    ⟨_, r, t0, tl, a + us0.length, k1, pre ++ us0, rfl, rfl, kk1, hp1, hk1, hr1, by rw [hws, List.append_assoc], by rw [List.length_append, hpre], rfl, htl⟩, fun m σ H' h => ?_⟩
  obtain ⟨r', tc, tl', ac, kc, prec, rfl, rfl, kk, hpc, hkc, hrc, hwc, hac, hfold, htl'⟩ := h
  obtain ⟨dxc, hc⟩ := hpc.atp
  have en : nxt ws ac = nxt (flatT tl' ++ rest) 0 := by rw [hwc, nxt_app prec _ hac]
  refine ⟨_, rfl, rfl, _, rfl, iT (by rfl) ⟨_, rfl, p, dxc, _, rfl, hc, rfl, p, wl, nl, ws, ac, d, _, kc, rfl, hpc, by show 2 ≤ sizeLine; decide, fun p2 n2 => ⟨p2, _, rfl, .inr (SqT.of upd_same), rfl, rfl, _, rfl, ?_⟩⟩⟩
  have k2 : Kp [] H' (upd H' p2 (.tup [.str "*", .str "/"])) := Kp.new n2
  have hpc2 := hpc.kp k2 (by simp) (by simp) (by simp)
  have hrc2 := hrc.kp k2
  have hc2 := k2.ins hc (by simp)
  have kk2 := kk.trans k2.of
  generalize upd H' p2 (.tup [.str "*", .str "/"]) = H2 at k2 hpc2 hrc2 hc2 kk2 ⊢
  rw [en]
  cases tl' with
  | nil =>
    refine iF (fol1 hfol) ⟨_, rfl, ?_⟩
    have e1 : prec = pre ++ (us0 ++ flatT tl) := by
      have z := hws.symm.trans hwc
      simp only [flatT, List.nil_append] at z
      rw [← List.append_assoc us0, ← List.append_assoc] at z
      exact (List.append_cancel_right z).symm
    have e2 : ac = a + (us0 ++ flatT tl).length := by rw [← hac, e1, List.length_append, hpre]
    have e3 : foldT t0 tl = tc := hfold
    rw [e2] at hpc2
    rw [e3] at q
    exact q H2 r' kc kk2 hpc2 hkc hrc2
  | cons e tl' =>
    obtain ⟨he, hDe⟩ := htl' e List.mem_cons_self
    have hs1 := foldT_sz tl' (.bin e.1 tc e.2.2)
    have hs2 : (foldT t0 tl).sz = (foldT (.bin e.1 tc e.2.2) tl').sz := by rw [hfold]; rfl
    simp only [Tr.sz] at hs1
    refine iT (Op.of1 he) ⟨fun σ' H'' => ∃ m', m' < (e :: tl').length ∧ ∃ (r : Addr) (tc : Tr) (tl' : List (Op × List Str × Tr)) (ac kc : Nat) (prec : List Str), m' = tl'.length ∧ σ' = [some (.ref p), some (.int a), some (.ref r)] ∧ Kp [p, nl] H H'' ∧ PsAt C p wl nl H'' ws ac d (pl + tc.sz) kc ∧ k ≤ kc ∧ SitAt H'' r tc ∧ ws = prec ++ (flatT tl' ++ rest) ∧ prec.length = ac ∧ foldT t0 tl = foldT tc tl' ∧ ∀ e ∈ tl', e.1.lv = 1 ∧ Der 2 dd e.2.1 e.2.2, fun _ _ q => q, ?_⟩
    refine ⟨_, rfl, p, dxc, _, rfl, hc2, rfl, _, rfl, _, rfl, _, rfl, p, dxc, _, rfl, hc2, rfl, fun q' nq => ?_⟩
    have k3 : Kp [] H2 (upd H2 q' (.met g p)) := Kp.new nq
    have hw3 : ws = prec ++ (e.1.s :: (e.2.1 ++ (flatT tl' ++ rest))) := by rw [hwc]; simp [flatT]
    refine ⟨p, wl, nl, r', q', a, ws, ac, d, _, kc, e.1, e.2.1, flatT tl' ++ rest, prec, dd, tc, e.2.2, rfl, hpc2.kp k3 (by simp) (by simp) (by simp), upd_same, hrc2.kp k3, hDe, hdm, hd, hw3, hac, by omega, fol_tail (Nat.le_refl _) (fun e' m => (htl' e' (List.mem_cons_of_mem _ m)).1) hfol, fun H4 r4 k4 kk4 hp4 hk4 hr4 => ?_⟩
    refine ⟨tl'.length, by simp, r4, .bin e.1 tc e.2.2, tl', ac + 1 + e.2.1.length, k4, prec ++ (e.1.s :: e.2.1), rfl, rfl, (kk2.trans k3.of).trans kk4, ?_, by omega, hr4, by rw [hw3]; simp, by rw [List.length_append, hac]; simp only [List.length_cons]; omega, hfold, fun e' m => htl' e' (List.mem_cons_of_mem _ m)⟩
    simp only [Tr.sz, ← Nat.add_assoc]
    exact hp4
theorem ok_P_any_sum (n dm : Nat) (hn : 4 ≤ n) (F : L2.Fun K "any_sum" "RowParser.any_sum" s_P_any_sum f fd) (D : PC K C) (b_any_term : BMeth K C "any_term" g) (c_any_term : ClM prg w K mg base n C "any_term" (spLv C 1 dm) []) (c_deed : ClM prg w K mg base n C "deed" (spDeed C g 1 dm) []) (c_word : ClM prg w K mg base 1 C "word" (spWd C) [])
    (c_takes : ClM prg w K mg base 2 C "takes" (spTakes C) []) (c_sited : ClM prg w K mg base 2 C "sited" (spSited C) []) : FnOk prg w K mg base CX0 (n + 1) f fd ["self"] (spLv C 0 dm) := by
  have S := fs_P_any_sum
  refine F.ok S (fun vs H Q E h => by obtain ⟨p, _, _, _, _, _, _, _, _, _, _, _, _, rfl, _⟩ := h; rfl) fun cdv A outer s H vs Q E hr hsp => ?_
  obtain ⟨p, wl, nl, ws, a, d, pl, k, us, rest, pre, dd, t, rfl, hp, hD, hdm, hd, hws, hpre, hpl, hfol, q⟩ := hsp
  refine ⟨_, (pss_cons (ps_set (i := 1) S.nd rfl (Or.inl rfl) (pe_fld (pv 0) rfl))
    (pss_cons (ps_set (i := 2) S.nd rfl (Or.inl rfl) (pe_clm c_takes D.cl hr (by omega) (pv 0) (pa_cons pe_str pa_nil)))
    (pss_cons (ps_set (i := 3) S.nd rfl (Or.inl rfl) (pe_clm0 c_any_term D.cl hr (Nat.le_refl _) (pv 0)))
    (pss_cons (ps_if (PW.pt (pw_and (pt_cmpR op_notN (pv 3) pe_non (nomark _)) (pw_and1 (pt_val (pv 2))))) (pss_one (ps_set (i := 3) S.nd rfl (Or.inl rfl) (pe_clm c_sited D.cl hr (by omega) (pv 0) (pa_cons (pe_tup (pa_cons pe_str (pa_cons (pe_ix ix_tup (pv 3) pe_int (fun _ _ => rfl)) pa_nil))) (pa_cons (pv 1) (pa_cons (pe_lst (pa_cons (pv 3) pa_nil)) pa_nil)))))) pss_nil)
    (pss_cons (ps_while PassesOwn.never (PW.pt (pw_and (pt_cmpR op_notN (pv 3) pe_non (nomark _)) (pw_and1 (pt_cmpR op_in_seq (pe_clm0 c_word D.cl hr (by omega) (pv 0)) (pe_tup (pa_cons pe_str (pa_cons pe_str pa_nil))) rfl)))) (pss_one (ps_set (i := 3) S.nd rfl (Or.inl rfl) (pe_clm c_deed D.cl hr (Nat.le_refl _) (pv 0) (pa_cons (pv 3) (pa_cons (pv 1) (pa_cons (pe_bndM D.cl b_any_term (pv 0)) pa_nil)))))))
    (pss_one (ps_ret (pv 3)))))))), ?_⟩
  obtain ⟨dx, h1⟩ := hp.atp
  obtain ⟨neg, us0, t0, tl, hD0, hus, rfl, htl⟩ := hD.chain0
  obtain ⟨x0, r0, hx0, hx0n⟩ := hD0.first (by decide)
  have hs0 := foldT_sz tl (if neg then .minus t0 else t0)
  generalize ht1 : (if neg = true then Tr.minus t0 else t0) = t1 at hs0 hpl q ⊢
  have ht1s : t1.sz = t0.sz + (if neg then 1 else 0) := by
    rw [← ht1]
    cases neg <;> rfl
  refine ⟨_, rfl, p, C, dx, _, .int a, rfl, h1, D.cl, D.n_at, rfl, ?_⟩
  -- the loop
  have loop : ∀ (b : Bool) (H' : Hp) (r : Addr) (k1 a1 : Nat) (prec : List Str), Kp [p, nl] H H' → PsAt C p wl nl H' ws a1 d (pl + t1.sz) k1 → k ≤ k1 → SitAt H' r t1 → ws = prec ++ (flatT tl ++ rest) → prec.length = a1 →
      tSeq (tWhile (tAnd (tTest (tOp (fun x y H Q => y = .non ∧ Q (.bl (!decide (x = .non))) H) (tVar 3) (tC .non))) (tTest (tOp (rIn K false) (tMeth C "word" (spWd C) [] E0 (tVar 0) tNil) (tTup (tCons (tC (.str "+")) (tCons (tC (.str "-")) tNil)))))) (tAsg (tMeth C "deed" (spDeed C g 1 dm) [] E0 (tVar 0) (tCons (tVar 3) (tCons (tVar 1) (tCons (tBndM C "any_term" g (tVar 0)) tNil)))) (gName 3))) (tRet (tVar 3)) { nx := fun _ H' => Q .non H', rt := Q } [some (.ref p), some (.int a), some (.bl b), some (.ref r)] H' := by
    intro b H1 r k1 a1 prec1 kk1 hp1 hk1 hr1 hw1 ha1
    refine ⟨fun m σ H' => ∃ (r : Addr) (tc : Tr) (tl' : List (Op × List Str × Tr)) (ac kc : Nat) (prec : List Str), m = tl'.length ∧ σ = [some (.ref p), some (.int a), some (.bl b), some (.ref r)] ∧ Kp [p, nl] H H' ∧ PsAt C p wl nl H' ws ac d (pl + tc.sz) kc ∧ k ≤ kc ∧ SitAt H' r tc ∧ ws = prec ++ (flatT tl' ++ rest) ∧ prec.length = ac ∧ foldT t1 tl = foldT tc tl' ∧ ∀ e ∈ tl', e.1.lv = 0 ∧ Der 1 dd e.2.1 e.2.2,
      ⟨_, r, t1, tl, a1, k1, prec1, rfl, rfl, kk1, hp1, hk1, hr1, hw1, ha1, rfl, htl⟩, fun m σ H' h => ?_⟩
    obtain ⟨r', tc, tl', ac, kc, prec, rfl, rfl, kk, hpc, hkc, hrc, hwc, hac, hfold, htl'⟩ := h
    obtain ⟨dxc, hc⟩ := hpc.atp
    have en : nxt ws ac = nxt (flatT tl' ++ rest) 0 := by rw [hwc, nxt_app prec _ hac]
    refine ⟨_, rfl, rfl, _, rfl, iT (by rfl) ⟨_, rfl, p, dxc, _, rfl, hc, rfl, p, wl, nl, ws, ac, d, _, kc, rfl, hpc, by show 2 ≤ sizeLine; decide, fun p2 n2 => ⟨p2, _, rfl, .inr (SqT.of upd_same), rfl, rfl, _, rfl, ?_⟩⟩⟩
    have k2 : Kp [] H' (upd H' p2 (.tup [.str "+", .str "-"])) := Kp.new n2
    have hpc2 := hpc.kp k2 (by simp) (by simp) (by simp)
    have hrc2 := hrc.kp k2
    have hc2 := k2.ins hc (by simp)
    have kk2 := kk.trans k2.of
    generalize upd H' p2 (.tup [.str "+", .str "-"]) = H2 at k2 hpc2 hrc2 hc2 kk2 ⊢
    rw [en]
    cases tl' with
    | nil =>
      refine iF (fol0 hfol) ⟨_, rfl, ?_⟩
      have e1 : prec = pre ++ us := by
        have z := hws.symm.trans hwc
        simp only [flatT, List.nil_append] at z
        rw [← List.append_assoc] at z
        exact (List.append_cancel_right z).symm
      have e2 : ac = a + us.length := by rw [← hac, e1, List.length_append, hpre]
      have e3 : foldT t1 tl = tc := hfold
      rw [e2] at hpc2
      rw [e3] at q
      exact q H2 r' kc kk2 hpc2 hkc hrc2
    | cons e tl' =>
      obtain ⟨he, hDe⟩ := htl' e List.mem_cons_self
      have hs1 := foldT_sz tl' (.bin e.1 tc e.2.2)
      have hs2 : (foldT t1 tl).sz = (foldT (.bin e.1 tc e.2.2) tl').sz := by rw [hfold]; rfl
      simp only [Tr.sz] at hs1
      refine iT (Op.of0 he) ⟨fun σ' H'' => ∃ m', m' < (e :: tl').length ∧ ∃ (r : Addr) (tc : Tr) (tl' : List (Op × List Str × Tr)) (ac kc : Nat) (prec : List Str), m' = tl'.length ∧ σ' = [some (.ref p), some (.int a), some (.bl b), some (.ref r)] ∧ Kp [p, nl] H H'' ∧ PsAt C p wl nl H'' ws ac d (pl + tc.sz) kc ∧ k ≤ kc ∧ SitAt H'' r tc ∧ ws = prec ++ (flatT tl' ++ rest) ∧ prec.length = ac ∧ foldT t1 tl = foldT tc tl' ∧ ∀ e ∈ tl', e.1.lv = 0 ∧ Der 1 dd e.2.1 e.2.2, fun _ _ q => q, ?_⟩
      refine ⟨_, rfl, p, dxc, _, rfl, hc2, rfl, _, rfl, _, rfl, _, rfl, p, dxc, _, rfl, hc2, rfl, fun q' nq => ?_⟩
      have k3 : Kp [] H2 (upd H2 q' (.met g p)) := Kp.new nq
      have hw3 : ws = prec ++ (e.1.s :: (e.2.1 ++ (flatT tl' ++ rest))) := by rw [hwc]; simp [flatT]
      refine ⟨p, wl, nl, r', q', a, ws, ac, d, _, kc, e.1, e.2.1, flatT tl' ++ rest, prec, dd, tc, e.2.2, rfl, hpc2.kp k3 (by simp) (by simp) (by simp), upd_same, hrc2.kp k3, hDe, hdm, hd, hw3, hac, by omega, fol_tail (by decide) (fun e' m => (htl' e' (List.mem_cons_of_mem _ m)).1) hfol, fun H4 r4 k4 kk4 hp4 hk4 hr4 => ?_⟩
      refine ⟨tl'.length, by simp, r4, .bin e.1 tc e.2.2, tl', ac + 1 + e.2.1.length, k4, prec ++ (e.1.s :: e.2.1), rfl, rfl, (kk2.trans k3.of).trans kk4, ?_, by omega, hr4, by rw [hw3]; simp, by rw [List.length_append, hac]; simp only [List.length_cons]; omega, hfold, fun e' m => htl' e' (List.mem_cons_of_mem _ m)⟩
      simp only [Tr.sz, ← Nat.add_assoc]
      exact hp4
  -- the first sign
  refine ⟨_, rfl, p, dx, _, rfl, h1, rfl, p, wl, nl, ws, a, d, pl, k, "-", rfl, hp, fun hne => ?_, fun heq H1 kk1 hp1 => ?_⟩
  · cases neg with
    | true =>
      exfalso
      apply hne
      rw [hws, nxt_app pre _ hpre, hus]
      rfl
    | false =>
      have et : t0 = t1 := ht1
      subst et
      have eu : us = us0 ++ flatT tl := hus
      rw [eu, List.append_assoc] at hws
      refine ⟨_, rfl, p, dx, _, rfl, h1, rfl, p, wl, nl, ws, a, d, pl, k, us0, flatT tl ++ rest, pre, dd, t0, rfl, hp, hD0, hdm, hd, hws, hpre, by omega, fol_tail (by decide) (fun e m => (htl e m).1) hfol, fun H2 r k2 kk2 hp2 hk2 hr2 => ?_⟩
      refine ⟨_, rfl, rfl, _, rfl, iT (by rfl) ⟨_, rfl, false, rfl, iteF ?_⟩⟩
      exact loop false H2 r k2 _ (pre ++ us0) kk2 hp2 hk2 hr2 (by rw [hws, List.append_assoc]) (by rw [List.length_append, hpre])
  · cases neg with
    | false =>
      exfalso
      rw [hws, nxt_app pre _ hpre, hus, hx0] at heq
      exact hx0n heq
    | true =>
      have et : Tr.minus t0 = t1 := ht1
      have eu : us = ("-" : Str) :: (us0 ++ flatT tl) := hus
      have hw' : ws = (pre ++ [("-" : Str)]) ++ (us0 ++ (flatT tl ++ rest)) := by rw [hws, eu]; simp
      obtain ⟨dx1, g1⟩ := hp1.atp
      simp only [if_true] at ht1s
      refine ⟨_, rfl, p, dx1, _, rfl, g1, rfl, p, wl, nl, ws, a + 1, d, pl, k, us0, flatT tl ++ rest, pre ++ [("-" : Str)], dd, t0, rfl, hp1, hD0, hdm, hd, hw', by rw [List.length_append, hpre]; rfl, by omega, fol_tail (by decide) (fun e m => (htl e m).1) hfol, fun H2 r k2 kk2 hp2 hk2 hr2 => ?_⟩
      obtain ⟨dx2, g2⟩ := hp2.atp
      obtain ⟨v2, b2, e2, tp2, hr2', hv2⟩ := id hr2
      refine ⟨_, rfl, rfl, _, rfl, iT (by rfl) ⟨_, rfl, true, rfl, iteT ?_⟩⟩
      refine ⟨_, rfl, p, dx2, _, rfl, g2, rfl, _, rfl, r, _, 0, v2, rfl, rfl, SqT.of hr2', rfl, by show 2 ≤ sizeLine; decide, fun x nx => ⟨_, rfl, _, rfl, by show 1 ≤ sizeLine; decide, fun l' nl' => ?_⟩⟩
      have k4 : Kp [] H2 (upd (upd H2 x (.tup [.str "minus", v2])) l' (.lst [.ref r])) := (Kp.new nx).trans (Kp.new nl')
      have hp4 := hp2.kp k4 (by simp) (by simp) (by simp)
      have hx4 : (upd (upd H2 x (.tup [.str "minus", v2])) l' (.lst [.ref r])) x = some (.tup [.str "minus", v2]) := by
        rw [upd_ne (ne_of_none (show (upd H2 x (.tup [.str "minus", v2])) x = some _ from upd_same) nl')]
        exact upd_same
      have lp : l' ≠ p := fun e => by
        have z : (upd H2 x (.tup [.str "minus", v2])) p = some _ := (Kp.new (D := []) nx).ins g2 (by simp)
        rw [← e, nl'] at z
        cases z
      refine ⟨p, wl, nl, l', ws, _, d, _, k2, .ref x, .int a, _, rfl, hp4, upd_same, lp, by omega, fun H5 r5 tp5 kk5 hp5 hr5 => ?_⟩
      refine loop true H5 r5 k2 _ ((pre ++ [("-" : Str)]) ++ us0) ((((kk1.mono (by simp)).trans kk2).trans k4.of).trans (kk5.mono (by simp))) ?_ hk2 ?_ (by rw [hw']; simp) (by rw [List.length_append, List.length_append, hpre]; first | done | rfl)
      · rw [ht1s, ← Nat.add_assoc]
        exact hp5
      · rw [← et]
        exact ⟨_, _, _, _, hr5, x, v2, rfl, kk5.tup hx4, (hv2.kp k4).kp kk5⟩
end
end K2
set_option maxHeartbeats 4000000
/-! P12: brackets, calls, atoms read. -/
namespace K2
open PySem PySem.Spec L2 DL
open PySem.W (Frag keepIn findIn typeIn subIn kitOne kitAny excIn)
open PyProof.Rows hiding St wpAt wpAt_bind wpAt_stack wpAt_mono
inductive SitsAt (H : Hp) : List Addr → List Tr → Prop
  | nil : SitsAt H [] []
  | cons {r : Addr} {t : Tr} {rs : List Addr} {ts : List Tr} : SitAt H r t → SitsAt H rs ts → SitsAt H (r :: rs) (t :: ts)
theorem SitsAt.kp {H H' : Hp} {D : List Addr} (k : Kp D H H') : ∀ {rs : List Addr} {ts : List Tr}, SitsAt H rs ts → SitsAt H' rs ts
  | _, _, .nil => .nil
  | _, _, .cons a r => .cons (a.kp k) (r.kp k)
theorem SitsAt.snoc {H : Hp} {r : Addr} {t : Tr} (h : SitAt H r t) : ∀ {rs : List Addr} {ts : List Tr}, SitsAt H rs ts → SitsAt H (rs ++ [r]) (ts ++ [t])
  | _, _, .nil => .cons h .nil
  | _, _, .cons a r => .cons a (r.snoc h)
theorem SitsAt.length {H : Hp} : ∀ {rs : List Addr} {ts : List Tr}, SitsAt H rs ts → rs.length = ts.length
  | _, _, .nil => rfl
  | _, _, .cons _ r => congrArg (· + 1) r.length
theorem SitsAt.trees {H : Hp} : ∀ {rs : List Addr} {ts : List Tr}, SitsAt H rs ts → ∃ us : List V, TrsAt H us ts ∧ us.length = rs.length ∧ ∀ (i : Nat) r, rs[i]? = some r → ∃ u b e tp, us[i]? = some u ∧ H r = some (.tup [u, b, e, tp])
  | _, _, .nil => ⟨[], .nil, rfl, fun i r h => by simp at h⟩
  | _, _, .cons ⟨u, b, e, tp, h1, h2⟩ r => by
    obtain ⟨us, a, l, g⟩ := r.trees
    refine ⟨u :: us, .cons h2 a, congrArg (· + 1) l, fun i q h => ?_⟩
    cases i with
    | zero =>
      cases h
      exact ⟨u, b, e, tp, rfl, h1⟩
    | succ i => exact g i q h
def flatM : List (List Str × Tr) → List Str
  | [] => []
  | e :: r => ("," : Str) :: (e.1 ++ flatM r)
theorem Kp.none_of {D : List Addr} {H H2 : Hp} {l : Addr} (k : Kp D H H2) (n : H2 l = none) (h : ∀ b ∈ D, H2 b ≠ none) : H l = none := by
  cases e : H l with
  | none => rfl
  | some o =>
    by_cases m : l ∈ D
    · exact absurd n (h l m)
    · have z := k.chg e m
      rw [n] at z
      cases z
theorem atI_last {α : Type} (xs : List α) (x : α) : atI (xs ++ [x]) (-1) = some x := by
  unfold atI ixN
  rw [if_neg (by decide), if_pos (by rw [List.length_append]; simp; omega)]
  show (xs ++ [x])[_]? = some x
  rw [show ((-1 : Int) + ((xs ++ [x]).length : Nat)).toNat = xs.length by rw [List.length_append]; simp; omega]
  simp
theorem fol_cm : Fol 0 "," := by unfold Fol; decide +kernel
theorem fol_cl : Fol 0 ")" := by unfold Fol; decide +kernel
theorem fol_m (more : List (List Str × Tr)) (rest : List Str) : Fol 0 (nxt (flatM more ++ (")" : Str) :: rest) 0) := by
  cases more with
  | nil => exact fol_cl
  | cons e r => exact fol_cm
def spBrk (C : Addr) : Nat → Sp
  | 0 => spNo
  | dm + 1 => fun vs H Q _ => ∃ (p wl nl : Addr) (ws : List Str) (a d pl k : Nat) (b : Bool) (us : List Str) (t : Tr) (more : List (List Str × Tr)) (rest pre : List Str) (dd : Nat), vs = [.ref p, .bl b] ∧ PsAt C p wl nl H ws a d pl k ∧ Der 0 dd us t ∧ (∀ e ∈ more, Der 0 dd e.1 e.2) ∧ (b = false → more = []) ∧ more.length ≤ 1 ∧ dd ≤ dm ∧ d + dd + 1 ≤ 12 ∧
    ws = pre ++ (("(" : Str) :: (us ++ (flatM more ++ (")" : Str) :: rest))) ∧ pre.length = a ∧ pl + sumSz (t :: more.map (·.2)) ≤ 40 ∧
    ∀ H' l rs k', Kp [p, nl] H H' → PsAt C p wl nl H' ws (a + 2 + us.length + (flatM more).length) d (pl + sumSz (t :: more.map (·.2))) k' → k ≤ k' → H' l = some (.lst (rs.map V.ref)) → l ≠ p → l ≠ nl → l ≠ wl → SitsAt H' rs (t :: more.map (·.2)) → Q (.ref l) H'
def mkCall (f : Str) (t : Tr) : List (List Str × Tr) → Tr
  | [] => .call1 f t
  | e :: _ => .call2 f t e.2
def spCalled (C : Addr) : Nat → Sp
  | 0 => spNo
  | dm + 1 => fun vs H Q _ => ∃ (p wl nl : Addr) (ws : List Str) (a d pl k : Nat) (f : Str) (bg : Int) (us : List Str) (t : Tr) (more : List (List Str × Tr)) (rest pre : List Str) (dd : Nat), vs = [.ref p, .str f, .int bg] ∧ PsAt C p wl nl H ws a d pl (k + 1) ∧ nmOk f = true ∧ Der 0 dd us t ∧ (∀ e ∈ more, Der 0 dd e.1 e.2) ∧ more.length ≤ 1 ∧ dd ≤ dm ∧ d + dd + 1 ≤ 12 ∧
    ws = pre ++ (("(" : Str) :: (us ++ (flatM more ++ (")" : Str) :: rest))) ∧ pre.length = a ∧ pl + sumSz (t :: more.map (·.2)) + 1 ≤ 40 ∧
    ∀ H' r k', Kp [p, nl] H H' → PsAt C p wl nl H' ws (a + 2 + us.length + (flatM more).length) d (pl + sumSz (t :: more.map (·.2)) + 1) k' → k + 1 ≤ k' → SitAt H' r (mkCall f t more) → Q (.ref r) H'
section
variable {w : World} {K : Frag} {mg : Str → Option Value} {base : Heap} {f : Addr} {fd : FuncData} {dD dG dS C g : Addr}
theorem ok_P_bracketed (n dm : Nat) (hn : 4 ≤ n) (F : L2.Fun K "bracketed" "RowParser.bracketed" s_P_bracketed f fd) (Z : Cns K w mg dD dG dS) (D : PC K C) (c_any_sum : ClM prg w K mg base n C "any_sum" (spLv C 0 dm) []) (c_takes : ClM prg w K mg base 2 C "takes" (spTakes C) []) : FnOk prg w K mg base CX0 (n + 1) f fd ["self", "may_be_more"] (spBrk C (dm + 1)) := by
  have S := fs_P_bracketed
  refine F.ok S (fun vs H Q E h => by obtain ⟨p, _, _, _, _, _, _, _, _, _, _, _, _, _, _, rfl, _⟩ := h; rfl) fun cdv A outer s H vs Q E hr hsp => ?_
  obtain ⟨p, wl, nl, ws, a, d, pl, k, b, us, t, more, rest, pre, dd, rfl, hp, hD, hDm, hb, hm1, hdm, hd, hws, hpre, hpl, q⟩ := hsp
  refine ⟨_, (pss_cons (ps_if (PW.pt (pw_or (pt_cmpR op_eq (pe_fld (pv 0) rfl) (pe_gI rfl Z.c_MOST_DEEP) (nomark _)) (pw_or1 (pt_not (pt_val (pe_clm c_takes D.cl hr (by omega) (pv 0) (pa_cons pe_str pa_nil))))))) (pss_one (ps_ret pe_non)) pss_nil)
    (pss_cons (ps_fld (pv 0) (pe_op op_add (pe_fld (pv 0) rfl) pe_int) rfl)
    (pss_cons (ps_set (i := 2) S.nd rfl (Or.inl rfl) (pe_lst (pa_cons (pe_clm0 c_any_sum D.cl hr (Nat.le_refl _) (pv 0)) pa_nil)))
    (pss_cons (ps_while PassesOwn.never (PW.pt (pw_and (pt_val (pv 1)) (pw_and (pt_cmpR op_notN (pe_ix ix_list (pv 2) (pe_un un_neg pe_int) (fun _ _ => rfl)) pe_non (nomark _)) (pw_and1 (pt_val (pe_clm c_takes D.cl hr (by omega) (pv 0) (pa_cons pe_str pa_nil))))))) (pss_one (ps_expr (pe_bm PySem.F.plainAttrs_list PySem.F.slot_list_append PySem.F.type_list_append mt_append (pv 2) (pa_cons (pe_clm0 c_any_sum D.cl hr (Nat.le_refl _) (pv 0)) pa_nil)))))
    (pss_cons (ps_fld (pv 0) (pe_op op_sub (pe_fld (pv 0) rfl) pe_int) rfl)
    (pss_one (ps_ret (pe_ifExp (PW.pt (pw_and (pt_cmpR op_notN (pe_ix ix_list (pv 2) (pe_un un_neg pe_int) (fun _ _ => rfl)) pe_non (nomark _)) (pw_and1 (pt_val (pe_clm c_takes D.cl hr (by omega) (pv 0) (pa_cons pe_str pa_nil)))))) (pv 2) pe_non)))))))), ?_⟩
  have sl : sizeLine = 16777216 := sizeLine_eq
  obtain ⟨dx, h1⟩ := hp.atp
  have en : nxt ws a = "(" := by rw [hws, nxt_app pre _ hpre]; rfl
  refine ⟨_, rfl, p, C, dx, _, .int d, rfl, h1, D.cl, D.n_deep, rfl, rfl, _, rfl, iF (decide_eq_false (fun e => by injection e with e; omega)) ?_⟩
  refine ⟨_, rfl, p, dx, _, rfl, h1, rfl, p, wl, nl, ws, a, d, pl, k, _, rfl, hp, fun e => absurd en e, fun _ H1 kk1 hp1 => ⟨true, rfl, iteF ?_⟩⟩
  obtain ⟨dx1, g1⟩ := hp1.atp
  refine ⟨_, rfl, p, C, dx1, _, .int d, rfl, g1, D.cl, D.n_deep, rfl, _, _, rfl, rfl, _, rfl, p, C, dx1, _, rfl, g1, D.cl, D.n_deep, by show 6 < 1000; decide, ?_⟩
  rw [put_deep1]
  have k2 : Kp [p] H1 (upd H1 p (.ins C dx1 (flds wl nl (a + 1) (d + 1) pl))) := Kp.put g1 rfl (by simp)
  have hp2 := hp1.put (a' := a + 1) (d' := d + 1) (pl' := pl) g1 hp1.le
  have kk2 := kk1.trans k2
  generalize upd H1 p (.ins C dx1 (flds wl nl (a + 1) (d + 1) pl)) = H2 at k2 hp2 kk2 ⊢
  obtain ⟨dx2, g2⟩ := hp2.atp
  have hw2 : ws = (pre ++ [("(" : Str)]) ++ (us ++ (flatM more ++ (")" : Str) :: rest)) := by rw [hws]; simp
  have hz : sumSz (t :: more.map (·.2)) = t.sz + sumSz (more.map (·.2)) := rfl
  refine ⟨_, rfl, p, dx2, _, rfl, g2, rfl, p, wl, nl, ws, a + 1, d + 1, pl, k, us, _, pre ++ [("(" : Str)], dd, t, rfl, hp2, hD, hdm, by omega, hw2, by rw [List.length_append, hpre]; rfl, by omega, fol_m more rest, fun H3 r3 k3 kk3 hp3 hk3 hr3 => ?_⟩
  refine ⟨by show 1 ≤ sizeLine; omega, fun l nll => ?_⟩
  have k03 : Kp [p, nl] H H3 := (kk2.mono (by simp)).trans kk3
  obtain ⟨dx3, ts3, nms3, e31, e32, e33, e34, e35⟩ := hp3.ex
  have lp : l ≠ p := Ne.symm (ne_of_none e31 nll)
  have lw : l ≠ wl := Ne.symm (ne_of_none e32 nll)
  have ln : l ≠ nl := Ne.symm (ne_of_none e34 nll)
  have hl0 : H l = none := k03.none_of nll (fun b m => by
    simp only [List.mem_cons, List.not_mem_nil, or_false] at m
    rcases m with rfl | rfl
    · rw [e31]; simp
    · rw [e34]; simp)
  have k4 : Kp [] H3 (upd H3 l (.lst [.ref r3])) := Kp.new nll
  have hp4 := hp3.kp k4 (by simp) (by simp) (by simp)
  -- the loop
  refine ⟨fun m σ H' => ∃ (rs : List Addr) (r : Addr) (ts : List Tr) (more' : List (List Str × Tr)) (ac kc : Nat) (prec : List Str), m = more'.length ∧ σ = [some (.ref p), some (.bl b), some (.ref l)] ∧ Kp [l, p, nl] H H' ∧ PsAt C p wl nl H' ws ac (d + 1) (pl + sumSz ts) kc ∧ k ≤ kc ∧ H' l = some (.lst ((rs ++ [r]).map V.ref)) ∧ SitsAt H' (rs ++ [r]) ts ∧ ts ++ more'.map (·.2) = t :: more.map (·.2) ∧ (∀ e ∈ more', e ∈ more) ∧ ws = prec ++ (flatM more' ++ (")" : Str) :: rest) ∧ prec.length = ac ∧ rs.length + more'.length ≤ 1,
    ⟨_, [], r3, [t], more, a + 1 + us.length, k3, pre ++ [("(" : Str)] ++ us, rfl, rfl, (k03.trans k4.of).mono (by simp +contextual), hp4, hk3, upd_same, .cons (hr3.kp k4) .nil, rfl, fun e m => m, by rw [hw2]; simp, by rw [List.length_append, List.length_append, hpre]; rfl, by simpa using hm1⟩, fun m σ H' h => ?_⟩
  obtain ⟨rs, r, ts, more', ac, kc, prec, rfl, rfl, kk, hpc, hkc, hlc, hsc, hts, hmm, hwc, hac, hlen⟩ := h
  obtain ⟨dxc, hc⟩ := hpc.atp
  have en2 : nxt ws ac = nxt (flatM more' ++ (")" : Str) :: rest) 0 := by rw [hwc, nxt_app prec _ hac]
  have hsum : sumSz ts + sumSz (more'.map (·.2)) = sumSz (t :: more.map (·.2)) := by rw [← sumSz_append, hts]
  -- behind the loop
  have behind : more' = [] → ∀ σ3, σ3 = ([some (.ref p), some (.bl b), some (.ref l)] : L2.St) → tSeq (sFld K (tVar 0) (tOp (rI0 fun i j => .int (i - j)) (tFld K (tVar 0) "deep") (tC (.int 1))) "deep") (tRet (tIf (tAnd (tTest (tOp (fun x y H Q => y = .non ∧ Q (.bl (!decide (x = .non))) H) (tOp (rIxL K) (tVar 2) (tUn (rU fun i => .int (-i)) (tC (.int 1)))) (tC .non))) (tB (tMeth C "takes" (spTakes C) [] E0 (tVar 0) (tCons (tC (.str ")")) tNil)))) (tVar 2) (tC .non)))
      { nx := fun _ H' => Q .non H', rt := Q } σ3 H' := by
    rintro rfl σ3 rfl
    refine ⟨_, rfl, p, C, dxc, _, .int (d + 1 : Nat), rfl, hc, D.cl, D.n_deep, rfl, _, _, rfl, rfl, _, rfl, p, C, dxc, _, rfl, hc, D.cl, D.n_deep, by show 6 < 1000; decide, ?_⟩
    rw [put_deepm]
    have k5 : Kp [p] H' (upd H' p (.ins C dxc (flds wl nl ac d (pl + sumSz ts)))) := Kp.put hc rfl (by simp)
    have hp5 := hpc.put (a' := ac) (d' := d) (pl' := pl + sumSz ts) hc hpc.le
    have hl5 := k5.lst hlc (by simpa using lp)
    have hs5 := hsc.kp k5
    generalize upd H' p (.ins C dxc (flds wl nl ac d (pl + sumSz ts))) = H5 at k5 hp5 hl5 hs5 ⊢
    obtain ⟨dx5, g5⟩ := hp5.atp
    have hl5' : H5 l = some (.lst (rs.map V.ref ++ [V.ref r])) := by rw [hl5]; simp
    refine ⟨_, rfl, _, rfl, l, _, -1, .ref r, rfl, rfl, SqL.of hl5', atI_last _ _, rfl, _, rfl, iT (by rfl) ?_⟩
    refine ⟨_, rfl, p, dx5, _, rfl, g5, rfl, p, wl, nl, ws, ac, d, _, kc, _, rfl, hp5, fun e => absurd en2 e, fun _ H6 k6 hp6 => ⟨true, rfl, iteT ⟨_, rfl, ?_⟩⟩⟩
    have ets : ts = t :: more.map (·.2) := by simpa using hts
    have eac : ac + 1 = a + 2 + us.length + (flatM more).length := by
      have z := congrArg List.length hwc
      rw [hws] at z
      simp only [List.length_append, List.length_cons, flatM, List.length_nil, hpre, hac] at z
      omega
    have hl6 := k6.lst hl5 (by simpa using lp)
    have k56 : Kp [l, p, nl] H H6 := (kk.trans (k5.mono (by simp))).trans (k6.mono (by simp))
    rw [eac] at hp6
    rw [← ets] at q
    exact q H6 l _ kc (k56.drop hl0) hp6 hkc hl6 lp ln lw (by rw [ets] at hs5; exact (by rw [ets]; exact hs5.kp k6))
  refine ⟨_, rfl, b, rfl, ?_⟩
  cases b with
  | false =>
    have em : more = [] := hb rfl
    have em' : more' = [] := by
      cases more' with
      | nil => rfl
      | cons e r =>
        have := hmm e List.mem_cons_self
        rw [em] at this
        cases this
    exact iteF (iteF (behind em' _ rfl))
  | true =>
    have hlc' : H' l = some (.lst (rs.map V.ref ++ [V.ref r])) := by rw [hlc]; simp
    refine iteT ⟨_, rfl, _, rfl, l, _, -1, .ref r, rfl, rfl, SqL.of hlc', atI_last _ _, rfl, _, rfl, iT (by rfl) ?_⟩
    refine ⟨_, rfl, p, dxc, _, rfl, hc, rfl, p, wl, nl, ws, ac, d + 1, _, kc, _, rfl, hpc, fun hne => ⟨false, rfl, iteF (behind ?_ _ rfl)⟩, fun heq H6 k6 hp6 => ⟨true, rfl, ?_⟩⟩
    · cases more' with
      | nil => rfl
      | cons e r' => exact absurd en2 hne
    · cases more' with
      | nil =>
        rw [en2] at heq
        exact absurd heq (by show ¬ (")" : Str) = ","; decide +kernel)
      | cons e r' =>
        refine iteT ⟨fun σ' H'' => ∃ m', m' < (e :: r').length ∧ ∃ (rs : List Addr) (r : Addr) (ts : List Tr) (more' : List (List Str × Tr)) (ac kc : Nat) (prec : List Str), m' = more'.length ∧ σ' = [some (.ref p), some (.bl true), some (.ref l)] ∧ Kp [l, p, nl] H H'' ∧ PsAt C p wl nl H'' ws ac (d + 1) (pl + sumSz ts) kc ∧ k ≤ kc ∧ H'' l = some (.lst ((rs ++ [r]).map V.ref)) ∧ SitsAt H'' (rs ++ [r]) ts ∧ ts ++ more'.map (·.2) = t :: more.map (·.2) ∧ (∀ e ∈ more', e ∈ more) ∧ ws = prec ++ (flatM more' ++ (")" : Str) :: rest) ∧ prec.length = ac ∧ rs.length + more'.length ≤ 1, fun _ _ q => q, ?_⟩
        obtain ⟨dx6, g6⟩ := hp6.atp
        have hl6 := k6.lst hlc (by simpa using lp)
        have hw6 : ws = (prec ++ [("," : Str)]) ++ (e.1 ++ (flatM r' ++ (")" : Str) :: rest)) := by rw [hwc]; simp [flatM]
        have hse : sumSz ((e :: r').map (·.2)) = e.2.sz + sumSz (r'.map (·.2)) := rfl
        refine ⟨_, rfl, .inl ⟨rfl, _, SqL.of hl6⟩, _, rfl, p, dx6, _, rfl, g6, rfl, p, wl, nl, ws, ac + 1, d + 1, _, kc, e.1, _, prec ++ [("," : Str)], dd, e.2, rfl, hp6, hDm e (hmm e List.mem_cons_self), hdm, by omega, hw6, by rw [List.length_append, hac]; rfl, by omega, fol_m r' rest, fun H7 r7 k7 kk7 hp7 hk7 hr7 => ?_⟩
        have hl7 := kk7.lst hl6 (by simp [lp, ln])
        have hrl : (rs ++ [r]).length ≤ 2 := by rw [List.length_append]; simp only [List.length_cons, List.length_nil] at hlen ⊢; omega
        refine ⟨l, _, _, rfl, rfl, hl7, by rw [List.length_map]; omega, ?_⟩
        have k8 : Kp [l] H7 (upd H7 l (.lst ((rs ++ [r]).map V.ref ++ [.ref r7]))) := Kp.put hl7 rfl (by simp)
        refine ⟨r'.length, by simp, rs ++ [r], r7, ts ++ [e.2], r', ac + 1 + e.1.length, k7, prec ++ [("," : Str)] ++ e.1, rfl, rfl, ?_, ?_, by omega, by rw [upd_same]; simp, ((hsc.kp k6).kp kk7).kp k8 |>.snoc (hr7.kp k8), by rw [← hts]; simp, fun e' m => hmm e' (List.mem_cons_of_mem _ m), by rw [hw6]; simp, by rw [List.length_append, List.length_append, hac]; rfl, by simp only [List.length_append, List.length_cons, List.length_nil] at hlen ⊢; omega⟩
        · exact ((kk.trans (k6.mono (by simp))).trans (kk7.mono (by simp +contextual))).trans (k8.mono (by simp))
        · rw [sumSz_append, show sumSz [e.2] = e.2.sz from rfl, ← Nat.add_assoc]
          exact hp7.kp k8 (by simpa using Ne.symm lp) (by simpa using Ne.symm lw) (by simpa using Ne.symm ln)
theorem ok_P_called (n dm : Nat) (hn : 4 ≤ n) (F : L2.Fun K "called" "RowParser.called" s_P_called f fd) (T : Nms mg) (Z : Cns K w mg dD dG dS) (D : PC K C) (c_bracketed : ClM prg w K mg base n C "bracketed" (spBrk C (dm + 1)) []) (c_bound : ClM prg w K mg base 1 C "bound" (spBound C) []) (c_sited : ClM prg w K mg base 2 C "sited" (spSited C) []) :
    FnOk prg w K mg base CX0 (n + 1) f fd ["self", "name", "begin"] (spCalled C (dm + 1)) := by
  have S := fs_P_called
  refine F.ok S (fun vs H Q E h => by obtain ⟨p, _, _, _, _, _, _, _, _, _, _, _, _, _, _, _, rfl, _⟩ := h; rfl) fun cdv A outer s H vs Q E hr hsp => ?_
  obtain ⟨p, wl, nl, ws, a, d, pl, k, fn, bg, us, t, more, rest, pre, dd, rfl, hp, hfn, hD, hDm, hm1, hdm, hd, hws, hpre, hpl, q⟩ := hsp
  refine ⟨_, (pss_cons (ps_set (i := 3) S.nd rfl (Or.inl rfl) (pe_op op_sub (pe_callB call_len_seq (by rfl) T.n_len (by decide +kernel) (pa_cons (pe_fld (pv 0) rfl) pa_nil)) pe_int))
    (pss_cons (ps_set (i := 4) S.nd rfl (Or.inl rfl) (pe_clm c_bracketed D.cl hr (Nat.le_refl _) (pv 0) (pa_cons pe_bl pa_nil)))
    (pss_cons (ps_if (pt_cmpR op_isN (pv 4) pe_non (nomark _)) (pss_one (ps_ret pe_non)) pss_nil)
    (pss_cons (ps_expr (pe_clm c_bound D.cl hr (by omega) (pv 0) (pa_cons (pe_cmpR op_le (pe_callB call_len_seq (by rfl) T.n_len (by decide +kernel) (pa_cons (pv 4) pa_nil)) (pe_gI rfl Z.c_MOST_OWN) (nomark _)) pa_nil)))
    (pss_cons (ps_asg (pe_tup (pa_cons pe_str (pa_cons (pv 1) (pa_cons (pv 2) (pa_cons (pe_callB call_len_seq (by rfl) T.n_len (by decide +kernel) (pa_cons (pv 4) pa_nil)) pa_nil))))) (pg_sub (pe_fld (pv 0) rfl) (pv 3) set_list))
    (pss_one (ps_ret (pe_clm c_sited D.cl hr (by omega) (pv 0) (pa_cons (pe_tup (pa_cons pe_str (pa_cons (pv 1) (pa_cons (pe_callTy call_tuple_of (by rfl) T.n_tuple (by decide +kernel) (pa_cons (pe_lc (te := tOp (rIxT K) (tVar 5) (tC (.int 0))) (own := [("own", 5)]) (g := gName 5) (tt := tYes) (by rfl) S.nd (pi_list (pv 4)) (blkOk_by (own := [("own", 5)]) (N := n_P_called) (sc := defScope s_P_called) (by decide +kernel)) (fun _ _ _ _ _ => (pg_name (i := 5) S.nd rfl (Or.inl rfl))) (fun _ _ _ _ _ => pts_nil) (fun _ _ _ _ _ => (pe_ix (r := rIxT K) ix_tup (pv 5) pe_int (fun _ _ => rfl)))) pa_nil)) pa_nil)))) (pa_cons (pv 2) (pa_cons (pv 4) pa_nil))))))))))), ?_⟩
  have sl : sizeLine = 16777216 := sizeLine_eq
  obtain ⟨dx, ts, nms, h1, h2, h3, h4, h5⟩ := hp.ex
  refine ⟨_, rfl, p, C, dx, _, .ref nl, rfl, h1, D.cl, D.n_names, rfl, nl, nms, rfl, .inl (SqL.of h4), _, _, rfl, rfl, ?_⟩
  refine ⟨_, rfl, p, dx, _, rfl, h1, rfl, p, wl, nl, ws, a, d, pl, k + 1, true, us, t, more, rest, pre, dd, rfl, hp, hD, hDm, (fun e => by cases e), hm1, hdm, hd, hws, hpre, by omega, fun H1 l rs k1 kk1 hp1 hk1 hl1 lp ln lw hs1 => ?_⟩
  have hrl := hs1.length
  simp only [List.length_cons, List.length_map] at hrl
  refine ⟨_, rfl, rfl, _, rfl, iF (by rfl) ?_⟩
  obtain ⟨dx1, g1⟩ := hp1.atp
  refine ⟨_, rfl, p, dx1, _, rfl, g1, rfl, _, rfl, l, _, rfl, .inl (SqL.of hl1), _, _, rfl, rfl, p, wl, nl, ws, _, d, _, k1, ?_, hp1, fun H2 kk2 hp2 => ?_⟩
  · show [V.ref p, V.bl (decide (((rs.map V.ref).length : Int) ≤ 3))] ++ [] = _
    rw [List.length_map, decide_eq_true (show ((rs.length : Nat) : Int) ≤ 3 by omega)]
    rfl
  have hl2 := kk2.lst hl1 (by simpa using lp)
  obtain ⟨dx2, ts2, nms2, e1, e2, e3, e4, e5⟩ := hp2.ex
  refine ⟨_, rfl, _, rfl, _, rfl, l, _, rfl, .inl (SqL.of hl2), by show 4 ≤ sizeLine; omega, fun t2 nt2 => ?_⟩
  have k3 : Kp [] H2 (upd H2 t2 (.tup [.str "call", .str fn, .int bg, .int ((rs.map V.ref).length : Nat)])) := Kp.new nt2
  have g3 := k3.ins e1 (by simp)
  have n3 := k3.lst e4 (by simp)
  have hp3 := hp2.kp k3 (by simp) (by simp) (by simp)
  have hl3 := k3.lst hl2 (by simp)
  have hs3 := (hs1.kp kk2).kp k3
  generalize upd H2 t2 (.tup [.str "call", .str fn, .int bg, .int ((rs.map V.ref).length : Nat)]) = H3 at k3 g3 n3 hp3 hl3 hs3 ⊢
  have hix : ixN nms2.length ((nms.length : Int) - 1) = some k := by
    unfold ixN
    rw [if_pos (by omega), if_pos (by omega), h5]
    congr 1
    omega
  refine ⟨_, rfl, p, C, dx2, _, .ref nl, rfl, g3, D.cl, D.n_names, rfl, _, rfl, nl, nms2, _, k, rfl, rfl, n3, hix, ?_⟩
  have k4 : Kp [nl] H3 (upd H3 nl (.lst (nms2.set k (.ref t2)))) := Kp.put n3 rfl (by simp)
  have pn : p ≠ nl := ne_of g3 n3 (by intro z; cases z)
  have hp4 : PsAt C p wl nl (upd H3 nl (.lst (nms2.set k (.ref t2)))) ws (a + 2 + us.length + (flatM more).length) d (pl + sumSz (t :: more.map (·.2))) k1 := by
    obtain ⟨dx', ts', nms', f1, f2, f3, f4, f5⟩ := hp3.ex
    refine ⟨⟨dx', ts', nms2.set k (.ref t2), k4.ins f1 (by simpa using pn), k4.lst f2 (by simpa using hp3.ne), f3.kp k4, upd_same, ?_⟩, hp3.le, hp3.sz, hp3.ne⟩
    rw [List.length_set]
    exact e5
  have hl4 := k4.lst hl3 (by simpa using ln)
  have hs4 := hs3.kp k4
  generalize upd H3 nl (.lst (nms2.set k (.ref t2))) = H4 at k4 hp4 hl4 hs4 ⊢
  obtain ⟨dx4, g4⟩ := hp4.atp
  obtain ⟨us4, hu4, hul, hget⟩ := hs4.trees
  refine ⟨_, rfl, p, dx4, _, rfl, g4, rfl, _, rfl, _, rfl, l, rfl, ⟨_, SqL.of hl4⟩, fun Dl nD => ?_⟩
  have lD : l ≠ Dl := ne_of_none hl4 nD
  refine lc_list (xs := rs.map V.ref) (fun i Hb => Kp [Dl] H4 Hb ∧ Hb Dl = some (.lst (us4.take i))) ⟨Kp.new nD, by rw [upd_same]; rfl⟩ (fun i Hb _ h => SqL.of (h.1.lst hl4 (by simpa using lD))) (fun i x Hb hx h => ?_) fun Hb h => ?_
  · rw [List.getElem?_map] at hx
    obtain ⟨r, hr', rfl⟩ := Option.map_eq_some_iff.mp hx
    obtain ⟨u, b, e, tp, hu, htup⟩ := hget i r hr'
    refine ⟨rfl, _, rfl, r, _, 0, u, rfl, rfl, SqT.of (h.1.tup htup), rfl, _, h.2, ?_, h.1.trans (Kp.put h.2 rfl (by simp)), ?_⟩
    · rw [List.length_take]
      omega
    · rw [upd_same, List.take_add_one, hu]
      rfl
  have hD5 : Hb Dl = some (.lst us4) := by
    rw [h.2, List.length_map, ← hul, List.take_length]
  have k5 : Kp [] H4 Hb := h.1.drop nD
  refine ⟨Dl, us4, rfl, .inl ⟨SqL.of hD5, fun tq ntq => ⟨by show 3 ≤ sizeLine; omega, fun tr ntr => ⟨_, rfl, _, rfl, ?_⟩⟩⟩⟩
  have k6 : Kp [] Hb (upd (upd Hb tq (.tup us4)) tr (.tup [.str "call", .str fn, .ref tq])) := (Kp.new ntq).trans (Kp.new ntr)
  have htq : (upd (upd Hb tq (.tup us4)) tr (.tup [.str "call", .str fn, .ref tq])) tq = some (.tup us4) := by
    rw [upd_ne (ne_of_none (show (upd Hb tq (.tup us4)) tq = some _ from upd_same) ntr)]
    exact upd_same
  have htr : (upd (upd Hb tq (.tup us4)) tr (.tup [.str "call", .str fn, .ref tq])) tr = some (.tup [.str "call", .str fn, .ref tq]) := upd_same
  have k46 := k5.trans k6
  generalize upd (upd Hb tq (.tup us4)) tr (.tup [.str "call", .str fn, .ref tq]) = H6 at k6 htq htr k46 ⊢
  refine ⟨p, wl, nl, l, ws, _, d, _, k1, .ref tr, .int bg, _, rfl, hp4.kp k46 (by simp) (by simp) (by simp), k46.lst hl4 (by simp), lp, by omega, fun H7 r7 tp7 kk7 hp7 hr7 => ?_⟩
  have kfin : Kp [p, nl] H H7 := ((((kk1.trans (kk2.mono (by simp))).trans k3.of).trans (k4.mono (by simp))).trans k46.of).trans (kk7.mono (by simp))
  refine q H7 r7 k1 kfin hp7 hk1 ⟨_, _, _, _, hr7, ?_⟩
  have hu7 := (hu4.kp k46).kp kk7
  cases more with
  | nil =>
    cases hu7 with
    | cons c1 c2 =>
      cases c2
      exact ⟨tr, tq, _, rfl, kk7.tup htr, kk7.tup htq, c1⟩
  | cons e r' =>
    cases r' with
    | nil =>
      cases hu7 with
      | cons c1 c2 =>
        cases c2 with
        | cons c3 c4 =>
          cases c4
          exact ⟨tr, tq, _, _, rfl, kk7.tup htr, kk7.tup htq, c1, c3⟩
    | cons e2 r2 =>
      simp only [List.length_cons] at hm1
      omega
end
end K2
set_option maxHeartbeats 4000000
/-! P13: atoms read; a sum up to the end. -/
namespace K2
open PySem PySem.Spec L2 DL
open PySem.W (Frag keepIn findIn typeIn subIn kitOne kitAny excIn)
open PyProof.Rows hiding St wpAt wpAt_bind wpAt_stack wpAt_mono
theorem letters_figures : ∀ c ∈ letters.cps.toList, c ∉ figures.cps.toList := by decide +kernel
theorem nm_not_nu {x : Str} (h : nmOk x = true) : isNu x = false := by
  have h1 := nm_nm h
  unfold isNm runB at h1
  obtain ⟨h2, h3⟩ := Bool.and_eq_true_iff.mp h1
  have hne : x ≠ Str.empty := by simpa using h2
  unfold isNu runB
  rw [decide_eq_false hne]
  obtain ⟨⟨cs⟩⟩ := x
  cases cs with
  | nil => exact absurd rfl hne
  | cons c cs =>
    have hc : c ∈ letters.cps.toList := of_decide_eq_true (List.all_eq_true.mp h3 c List.mem_cons_self)
    show (!false && List.all (c :: cs) _) = false
    rw [List.all_cons, decide_eq_false (letters_figures c hc)]
    rfl
def spWhole (C : Addr) (dm : Nat) : Sp := fun vs H Q _ => ∃ (p wl nl : Addr) (us : List Str) (k dd : Nat) (t : Tr), vs = [.ref p] ∧ PsAt C p wl nl H us 0 0 0 k ∧ Der 0 dd us t ∧ dd ≤ dm ∧ dd ≤ 12 ∧ t.sz ≤ 40 ∧
  ∀ H' r k', Kp [p, nl] H H' → PsAt C p wl nl H' us us.length 0 t.sz k' → SitAt H' r t → Q (.ref r) H'
section
variable {w : World} {K : Frag} {mg : Str → Option Value} {base : Heap} {f : Addr} {fd : FuncData} {dD dG dS C g : Addr}
theorem ok_P_any_atom (n dm : Nat) (hn : 5 ≤ n) (F : L2.Fun K "any_atom" "RowParser.any_atom" s_P_any_atom f fd) (D : PC K C) (c_bracketed : ClM prg w K mg base n C "bracketed" (spBrk C dm) []) (c_called : ClM prg w K mg base n C "called" (spCalled C dm) []) (c_word : ClM prg w K mg base 1 C "word" (spWd C) [])
    (c_any_name : ClM prg w K mg base 4 C "any_name" (spAnyName C) []) (c_any_number : ClM prg w K mg base 4 C "any_number" (spAnyNum C) [.non]) (c_sited : ClM prg w K mg base 2 C "sited" (spSited C) []) (c_is_any_number : ClO prg w K mg base CX0 2 "is_any_number" (spWord isNu) []) : FnOk prg w K mg base CX0 (n + 1) f fd ["self"] (spLv C 3 dm) := by
  have S := fs_P_any_atom
  refine F.ok S (fun vs H Q E h => by obtain ⟨p, _, _, _, _, _, _, _, _, _, _, _, _, rfl, _⟩ := h; rfl) fun cdv A outer s H vs Q E hr hsp => ?_
  obtain ⟨p, wl, nl, ws, a, d, pl, k, us, rest, pre, dd, t, rfl, hp, hD, hdm, hd, hws, hpre, hpl, hfol, q⟩ := hsp
  refine ⟨_, (pss_cons (ps_set (i := 1) S.nd rfl (Or.inl rfl) (pe_fld (pv 0) rfl))
    (pss_cons (ps_if (pt_cmpR op_eq (pe_clm0 c_word D.cl hr (by omega) (pv 0)) pe_str (nomark _)) (pss_cons (ps_set (i := 2) S.nd rfl (Or.inl rfl) (pe_clm c_bracketed D.cl hr (Nat.le_refl _) (pv 0) (pa_cons pe_bl pa_nil)))
    (pss_one (ps_ret (pe_ifExp (pt_cmpR op_notN (pv 2) pe_non (nomark _)) (pe_ix ix_list (pv 2) pe_int (fun _ _ => rfl)) pe_non)))) pss_nil)
    (pss_cons (ps_if (pt_val (pe_clo c_is_any_number hr (by omega) rfl (pa_cons (pe_clm0 c_word D.cl hr (by omega) (pv 0)) pa_nil))) (pss_one (ps_ret (pe_clm c_sited D.cl hr (by omega) (pv 0) (pa_cons (pe_tup (pa_cons pe_str (pa_cons (pe_clm0 c_any_number D.cl hr (by omega) (pv 0)) pa_nil))) (pa_cons (pv 1) (pa_cons (pe_lst pa_nil) pa_nil)))))) pss_nil)
    (pss_cons (ps_set (i := 3) S.nd rfl (Or.inl rfl) (pe_clm c_any_name D.cl hr (by omega) (pv 0) (pa_cons pe_str pa_nil)))
    (pss_cons (ps_if (pt_cmpR op_isN (pv 3) pe_non (nomark _)) (pss_one (ps_ret pe_non)) pss_nil)
    (pss_cons (ps_if (pt_cmpR op_ne (pe_clm0 c_word D.cl hr (by omega) (pv 0)) pe_str (nomark _)) (pss_one (ps_ret (pe_clm c_sited D.cl hr (by omega) (pv 0) (pa_cons (pe_tup (pa_cons pe_str (pa_cons (pv 3) pa_nil))) (pa_cons (pv 1) (pa_cons (pe_lst pa_nil) pa_nil)))))) pss_nil)
    (pss_one (ps_ret (pe_clm c_called D.cl hr (Nat.le_refl _) (pv 0) (pa_cons (pv 3) (pa_cons (pv 1) pa_nil))))))))))), ?_⟩
  obtain ⟨dx, h1⟩ := hp.atp
  have en : nxt ws a = nxt (us ++ rest) 0 := by rw [hws, nxt_app pre _ hpre]
  refine ⟨_, rfl, p, C, dx, _, .int a, rfl, h1, D.cl, D.n_at, rfl, ?_⟩
  refine ⟨_, rfl, p, dx, _, rfl, h1, rfl, p, wl, nl, ws, a, d, pl, k, rfl, hp, rfl, _, rfl, ?_⟩
  rw [en]
  -- a name and what stands behind it
  have named : ∀ (x : Str) (us' : List Str), us = x :: us' → nmOk x = true → (∀ H1 k1, Kp [p, nl] H H1 → PsAt C p wl nl H1 ws (a + 1) d pl (k1 + 1) → k ≤ k1 → ∀ dx1, H1 p = some (.ins C dx1 (flds wl nl (a + 1) d pl)) →
      if (!decide (V.str (nxt (us' ++ rest) 0) = V.str "(")) = true then tMeth C "sited" (spSited C) [] E0 (tVar 0) (tCons (tTup (tCons (tC (.str "name")) (tCons (tVar 3) tNil))) (tCons (tVar 1) (tCons (tLst tNil) tNil))) [some (.ref p), some (.int a), none, some (.str x)] H1 Q
      else tMeth C "called" (spCalled C dm) [] E0 (tVar 0) (tCons (tVar 3) (tCons (tVar 1) tNil)) [some (.ref p), some (.int a), none, some (.str x)] H1 Q) →
      ∀ Pd : Bool → Prop, (Pd false → True) → decide (V.str (nxt (us ++ rest) 0) = V.str "(") = false ∧ isNu (nxt (us ++ rest) 0) = false := by
    intro x us' e ok _ _ _
    subst e
    refine ⟨decide_eq_false fun e => ?_, nm_not_nu ok⟩
    injection e with e
    exact not_nm ok (by decide +kernel) e
  have stepN : ∀ (x : Str) (us' : List Str), us = x :: us' → nmOk x = true → (∀ H1 k1, Kp [p, nl] H H1 → PsAt C p wl nl H1 ws (a + 1) d pl (k1 + 1) → k ≤ k1 →
      tSeq (tIfS (tTest (tOp rNe (tMeth C "word" (spWd C) [] E0 (tVar 0) tNil) (tC (.str "(")))) (tRet (tMeth C "sited" (spSited C) [] E0 (tVar 0) (tCons (tTup (tCons (tC (.str "name")) (tCons (tVar 3) tNil))) (tCons (tVar 1) (tCons (tLst tNil) tNil))))) tNext)
        (tRet (tMeth C "called" (spCalled C dm) [] E0 (tVar 0) (tCons (tVar 3) (tCons (tVar 1) tNil)))) { nx := fun _ H' => Q .non H', rt := Q } [some (.ref p), some (.int a), none, some (.str x)] H1) →
      tSeq (tIfS (tB (tCall (spWord isNu) [] E0 (tCons (tMeth C "word" (spWd C) [] E0 (tVar 0) tNil) tNil))) (tRet (tMeth C "sited" (spSited C) [] E0 (tVar 0) (tCons (tTup (tCons (tC (.str "value")) (tCons (tMeth C "any_number" (spAnyNum C) [.non] E0 (tVar 0) tNil) tNil))) (tCons (tVar 1) (tCons (tLst tNil) tNil))))) tNext)
        (tSeq (tAsg (tMeth C "any_name" (spAnyName C) [] E0 (tVar 0) (tCons (tC (.str "name")) tNil)) (gName 3))
        (tSeq (tIfS (tTest (tOp (fun x y H Q => y = .non ∧ Q (.bl (decide (x = .non))) H) (tVar 3) (tC .non))) (tRet (tC .non)) tNext)
        (tSeq (tIfS (tTest (tOp rNe (tMeth C "word" (spWd C) [] E0 (tVar 0) tNil) (tC (.str "(")))) (tRet (tMeth C "sited" (spSited C) [] E0 (tVar 0) (tCons (tTup (tCons (tC (.str "name")) (tCons (tVar 3) tNil))) (tCons (tVar 1) (tCons (tLst tNil) tNil))))) tNext)
        (tRet (tMeth C "called" (spCalled C dm) [] E0 (tVar 0) (tCons (tVar 3) (tCons (tVar 1) tNil))))))) { nx := fun _ H' => Q .non H', rt := Q } [some (.ref p), some (.int a), none, none] H := by
    intro x us' e ok hk
    subst e
    have hx : ws[a]? = some x := by
      rw [hws, List.getElem?_append_right (by omega), hpre, Nat.sub_self]
      rfl
    have hxl := nm_len ok
    refine ⟨_, rfl, p, dx, _, rfl, h1, rfl, p, wl, nl, ws, a, d, pl, k, rfl, hp, _, rfl, ?_, fun H1 kk1 => ?_⟩
    · rw [nxt_of hx]; omega
    rw [nxt_of hx, nm_not_nu ok]
    refine ⟨false, rfl, iteF ?_⟩
    have g1 := kk1.ins h1 (by simp)
    refine ⟨_, rfl, p, dx, _, rfl, g1, rfl, p, wl, nl, ws, a, d, pl, k, x, _, rfl, hp.kp kk1 (by simp) (by simp) (by simp), hx, ok, fun H2 kk2 hp2 => ?_⟩
    exact ⟨_, rfl, rfl, _, rfl, iF (by rfl) (hk H2 k ((Kp.of kk1).trans kk2) hp2 (Nat.le_refl _))⟩
  -- behind a name: a call
  have stepC : ∀ (x : Str) (us1 : List Str) (t1 : Tr) (more : List (List Str × Tr)) (dd' : Nat), us = x :: (("(" : Str) :: (us1 ++ (flatM more ++ [(")" : Str)]))) → nmOk x = true → dd = dd' + 1 → Der 0 dd' us1 t1 → (∀ e ∈ more, Der 0 dd' e.1 e.2) → more.length ≤ 1 → t = mkCall x t1 more → t.sz = sumSz (t1 :: more.map (·.2)) + 1 →
      tSeq (tIfS (tB (tCall (spWord isNu) [] E0 (tCons (tMeth C "word" (spWd C) [] E0 (tVar 0) tNil) tNil))) (tRet (tMeth C "sited" (spSited C) [] E0 (tVar 0) (tCons (tTup (tCons (tC (.str "value")) (tCons (tMeth C "any_number" (spAnyNum C) [.non] E0 (tVar 0) tNil) tNil))) (tCons (tVar 1) (tCons (tLst tNil) tNil))))) tNext)
        (tSeq (tAsg (tMeth C "any_name" (spAnyName C) [] E0 (tVar 0) (tCons (tC (.str "name")) tNil)) (gName 3))
        (tSeq (tIfS (tTest (tOp (fun x y H Q => y = .non ∧ Q (.bl (decide (x = .non))) H) (tVar 3) (tC .non))) (tRet (tC .non)) tNext)
        (tSeq (tIfS (tTest (tOp rNe (tMeth C "word" (spWd C) [] E0 (tVar 0) tNil) (tC (.str "(")))) (tRet (tMeth C "sited" (spSited C) [] E0 (tVar 0) (tCons (tTup (tCons (tC (.str "name")) (tCons (tVar 3) tNil))) (tCons (tVar 1) (tCons (tLst tNil) tNil))))) tNext)
        (tRet (tMeth C "called" (spCalled C dm) [] E0 (tVar 0) (tCons (tVar 3) (tCons (tVar 1) tNil))))))) { nx := fun _ H' => Q .non H', rt := Q } [some (.ref p), some (.int a), none, none] H := by
    intro x us1 t1 more dd' e ok edd hD1 hDm hm1 et ez
    refine stepN x _ e ok fun H1 k1 kk1 hp1 hk1 => ?_
    obtain ⟨dx1, g1⟩ := hp1.atp
    have en1 : nxt ws (a + 1) = "(" := by
      rw [hws, e, show pre ++ (x :: (("(" : Str) :: (us1 ++ (flatM more ++ [(")" : Str)]))) ++ rest) = (pre ++ [x]) ++ (("(" : Str) :: (us1 ++ (flatM more ++ [(")" : Str)]) ++ rest)) by simp, nxt_app (pre ++ [x]) _ (by rw [List.length_append, hpre]; rfl)]
      rfl
    refine ⟨_, rfl, p, dx1, _, rfl, g1, rfl, p, wl, nl, ws, a + 1, d, pl, k1 + 1, rfl, hp1, rfl, _, rfl, iF (by rw [en1]; decide +kernel) ?_⟩
    cases dm with
    | zero => omega
    | succ dm =>
      refine ⟨_, rfl, p, dx1, _, rfl, g1, rfl, _, rfl, _, rfl, p, wl, nl, ws, a + 1, d, pl, k1, x, a, us1, t1, more, rest, pre ++ [x], dd', rfl, hp1, ok, hD1, hDm, hm1, by omega, by omega, by rw [hws, e]; simp, by rw [List.length_append, hpre]; rfl, by omega, fun H2 r k2 kk2 hp2 hk2 hr2 => ?_⟩
      refine q H2 r k2 (kk1.trans kk2) ?_ (by omega) (by rw [et]; exact hr2)
      have el : a + us.length = a + 1 + 2 + us1.length + (flatM more).length := by
        rw [e]
        simp only [List.length_cons, List.length_append, List.length_nil]
        omega
      rw [el, ez, ← Nat.add_assoc]
      exact hp2
  cases hD with
  | val hok =>
    rename_i m
    have hx : ws[a]? = some (numT m) := by
      rw [hws, List.getElem?_append_right (by omega), hpre, Nat.sub_self]
      rfl
    have hxl := nu_len hok.1
    refine iF (decide_eq_false fun e => not_nu hok.1 (y := "(") (by decide +kernel) (by injection e)) ?_
    refine ⟨_, rfl, p, dx, _, rfl, h1, rfl, p, wl, nl, ws, a, d, pl, k, rfl, hp, _, rfl, by rw [nxt_of hx]; omega, fun H1 kk1 => ?_⟩
    rw [nxt_of hx, nu_nu hok.1]
    refine ⟨true, rfl, iteT ?_⟩
    have g1 := kk1.ins h1 (by simp)
    refine ⟨_, rfl, p, dx, _, rfl, g1, rfl, _, rfl, p, dx, _, rfl, g1, rfl, p, wl, nl, ws, a, d, pl, k, m, .non, rfl, hp.kp kk1 (by simp) (by simp) (by simp), hx, hok, .inl rfl, fun H2 kk2 hp2 => ?_⟩
    obtain ⟨dx2, g2⟩ := hp2.atp
    refine ⟨by show 2 ≤ sizeLine; decide, fun x nx => ⟨_, rfl, by show 0 ≤ sizeLine; exact Nat.zero_le _, fun l nl' => ?_⟩⟩
    have k4 : Kp [] H2 (upd (upd H2 x (.tup [.str "value", .int (m : Nat)])) l (.lst [])) := (Kp.new nx).trans (Kp.new nl')
    have hx4 : (upd (upd H2 x (.tup [.str "value", .int (m : Nat)])) l (.lst [])) x = some (.tup [.str "value", .int (m : Nat)]) := by
      rw [upd_ne (ne_of_none (show (upd H2 x (.tup [.str "value", .int (m : Nat)])) x = some _ from upd_same) nl')]
      exact upd_same
    have lp : l ≠ p := fun e => by
      have z : (upd H2 x (.tup [.str "value", .int (m : Nat)])) p = some _ := (Kp.new (D := []) nx).ins g2 (by simp)
      rw [← e, nl'] at z
      cases z
    refine ⟨p, wl, nl, l, ws, _, d, _, k, .ref x, .int a, _, rfl, hp2.kp k4 (by simp) (by simp) (by simp), upd_same, lp, hpl, fun H5 r5 tp5 kk5 hp5 hr5 => ?_⟩
    exact q H5 r5 k (((Kp.of kk1).trans (kk2.mono (by simp))).trans (k4.of.trans (kk5.mono (by simp)))) hp5 (Nat.le_refl _) ⟨_, _, _, _, hr5, x, rfl, kk5.tup hx4⟩
  | nam hok =>
    rename_i x
    refine iF (decide_eq_false fun e => not_nm hok (y := "(") (by decide +kernel) (by injection e)) ?_
    refine stepN x [] rfl hok fun H1 k1 kk1 hp1 hk1 => ?_
    obtain ⟨dx1, g1⟩ := hp1.atp
    have en1 : nxt ws (a + 1) = nxt rest 0 := by
      rw [hws, show pre ++ ([x] ++ rest) = (pre ++ [x]) ++ rest by simp, nxt_app (pre ++ [x]) _ (by rw [List.length_append, hpre]; rfl)]
    refine ⟨_, rfl, p, dx1, _, rfl, g1, rfl, p, wl, nl, ws, a + 1, d, pl, k1 + 1, rfl, hp1, rfl, _, rfl, iT ?_ ?_⟩
    · rw [en1, decide_eq_false]
      · rfl
      · intro e
        injection e with e
        exact hfol (by rw [e]; decide +kernel)
    refine ⟨_, rfl, p, dx1, _, rfl, g1, rfl, _, rfl, by show 2 ≤ sizeLine; decide, fun x' nx => ⟨_, rfl, by show 0 ≤ sizeLine; exact Nat.zero_le _, fun l nl' => ?_⟩⟩
    have k4 : Kp [] H1 (upd (upd H1 x' (.tup [.str "name", .str x])) l (.lst [])) := (Kp.new nx).trans (Kp.new nl')
    have hx4 : (upd (upd H1 x' (.tup [.str "name", .str x])) l (.lst [])) x' = some (.tup [.str "name", .str x]) := by
      rw [upd_ne (ne_of_none (show (upd H1 x' (.tup [.str "name", .str x])) x' = some _ from upd_same) nl')]
      exact upd_same
    have lp : l ≠ p := fun e => by
      have z : (upd H1 x' (.tup [.str "name", .str x])) p = some _ := (Kp.new (D := []) nx).ins g1 (by simp)
      rw [← e, nl'] at z
      cases z
    refine ⟨p, wl, nl, l, ws, _, d, _, k1 + 1, .ref x', .int a, _, rfl, hp1.kp k4 (by simp) (by simp) (by simp), upd_same, lp, hpl, fun H5 r5 tp5 kk5 hp5 hr5 => ?_⟩
    exact q H5 r5 (k1 + 1) (kk1.trans (k4.of.trans (kk5.mono (by simp)))) hp5 (by omega) ⟨_, _, _, _, hr5, x', rfl, kk5.tup hx4⟩
  | par h =>
    rename_i dd' us1
    refine iT (decide_eq_true rfl) ?_
    cases dm with
    | zero => omega
    | succ dm =>
      have hw : ws = pre ++ (("(" : Str) :: (us1 ++ (flatM [] ++ (")" : Str) :: rest))) := by rw [hws]; simp [flatM]
      refine ⟨_, rfl, p, dx, _, rfl, h1, rfl, p, wl, nl, ws, a, d, pl, k, false, us1, t, [], rest, pre, dd', rfl, hp, h, fun e m => (by cases m), fun _ => rfl, by simp, by omega, by omega, hw, hpre, by simpa [sumSz] using hpl, fun H1 l rs k1 kk1 hp1 hk1 hl1 lp ln lw hs1 => ?_⟩
      refine ⟨_, rfl, rfl, _, rfl, iT (by rfl) ?_⟩
      cases hs1 with
      | cons c1 c2 =>
        rename_i r rs
        cases c2
        refine ⟨_, rfl, l, _, 0, .ref r, rfl, rfl, SqL.of hl1, rfl, q H1 r k1 kk1 ?_ hk1 c1⟩
        have el : a + ([("(" : Str)] ++ us1 ++ [(")" : Str)]).length = a + 2 + us1.length + (flatM []).length := by
          simp only [List.length_append, List.length_cons, List.length_nil, flatM]
          omega
        rw [el]
        exact hp1
  | call1 hf h =>
    rename_i dd' fn us1 t1
    refine iF (decide_eq_false fun e => not_nm hf (y := "(") (by decide +kernel) (by injection e)) ?_
    exact stepC fn us1 t1 [] dd' (by simp [flatM]) hf rfl h (fun e m => (by cases m)) (by simp) rfl (by simp [Tr.sz, sumSz])
  | call2 hf h h' =>
    rename_i dd' fn us1 vs1 t1 u1
    refine iF (decide_eq_false fun e => not_nm hf (y := "(") (by decide +kernel) (by injection e)) ?_
    exact stepC fn us1 t1 [(vs1, u1)] dd' (by simp [flatM]) hf rfl h (fun e m => by simp only [List.mem_singleton] at m; rw [m]; exact h') (by simp) rfl (by simp [Tr.sz, sumSz])
theorem ok_P_whole_sum (n dm : Nat) (hn : 4 ≤ n) (F : L2.Fun K "whole_sum" "RowParser.whole_sum" s_P_whole_sum f fd) (D : PC K C) (c_any_sum : ClM prg w K mg base n C "any_sum" (spLv C 0 dm) []) (c_word : ClM prg w K mg base 1 C "word" (spWd C) []) : FnOk prg w K mg base CX0 (n + 1) f fd ["self"] (spWhole C dm) := by
  have S := fs_P_whole_sum
  refine F.ok S (fun vs H Q E h => by obtain ⟨p, _, _, _, _, _, _, rfl, _⟩ := h; rfl) fun cdv A outer s H vs Q E hr hsp => ?_
  obtain ⟨p, wl, nl, us, k, dd, t, rfl, hp, hD, hdm, h12, hz, q⟩ := hsp
  refine ⟨_, (pss_cons (ps_set (i := 1) S.nd rfl (Or.inl rfl) (pe_clm0 c_any_sum D.cl hr (Nat.le_refl _) (pv 0)))
    (pss_one (ps_ret (pe_ifExp (PW.pt (pw_and (pt_cmpR op_notN (pv 1) pe_non (nomark _)) (pw_and1 (pt_cmpR op_eq (pe_clm0 c_word D.cl hr (by omega) (pv 0)) pe_str (nomark _))))) (pv 1) pe_non)))), ?_⟩
  obtain ⟨dx, h1⟩ := hp.atp
  refine ⟨_, rfl, p, dx, _, rfl, h1, rfl, p, wl, nl, us, 0, 0, 0, k, us, [], [], dd, t, rfl, hp, hD, hdm, by omega, by simp, rfl, by omega, by unfold Fol; decide +kernel, fun H1 r k1 kk1 hp1 hk1 hr1 => ?_⟩
  rw [Nat.zero_add, Nat.zero_add] at hp1
  obtain ⟨dx1, g1⟩ := hp1.atp
  refine ⟨_, rfl, rfl, _, rfl, iT (by rfl) ⟨_, rfl, p, dx1, _, rfl, g1, rfl, p, wl, nl, us, _, 0, _, k1, rfl, hp1, rfl, _, rfl, iT ?_ ⟨_, rfl, q H1 r k1 kk1 hp1 hr1⟩⟩⟩
  refine decide_eq_true ?_
  show V.str (nxt us us.length) = V.str ""
  unfold nxt
  rw [List.getElem?_eq_none (Nat.le_refl _)]
  rfl
end
end K2
set_option maxHeartbeats 4000000
/-! P14: rows read. -/
namespace K2
open PySem PySem.Spec L2 DL
open PySem.W (Frag keepIn findIn typeIn subIn kitOne kitAny excIn)
open PyProof.Rows hiding St wpAt wpAt_bind wpAt_stack wpAt_mono
inductive Rw where
  | given (h x : Str) | tell (t : Tr) | letr (x : Str) (t : Tr) | rule (x a b : Str) (t : Tr)
def RwAt (H : Hp) : Rw → V → Prop
  | .given h x, v => ∃ p, v = .ref p ∧ H p = some (.tup [.str h, .str x])
  | .tell t, v => ∃ p u, v = .ref p ∧ H p = some (.tup [.str "tell", u]) ∧ TrAt H t u
  | .letr x t, v => ∃ p u, v = .ref p ∧ H p = some (.tup [.str "let", .str x, u]) ∧ TrAt H t u
  | .rule x a b t, v => ∃ p q u, v = .ref p ∧ H p = some (.tup [.str "rule", .str x, .ref q, u]) ∧ H q = some (.tup [.str a, .str b]) ∧ TrAt H t u
theorem RwAt.kp {H H' : Hp} {D : List Addr} (k : Kp D H H') : ∀ {r : Rw} {v : V}, RwAt H r v → RwAt H' r v
  | .given _ _, _, ⟨p, e, h⟩ => ⟨p, e, k.tup h⟩
  | .tell _, _, ⟨p, u, e, h, a⟩ => ⟨p, u, e, k.tup h, a.kp k⟩
  | .letr _ _, _, ⟨p, u, e, h, a⟩ => ⟨p, u, e, k.tup h, a.kp k⟩
  | .rule _ _ _ _, _, ⟨p, q, u, e, h, h2, a⟩ => ⟨p, q, u, e, k.tup h, k.tup h2, a.kp k⟩
inductive RowW (dd : Nat) : List Str → Rw → Prop
  | given {h x : Str} : h = "point" ∨ h = "arrow" ∨ h = "number" → nmOk x = true → RowW dd [h, x] (.given h x)
  | tell {us : List Str} {t : Tr} : Der 0 dd us t → t.sz ≤ 40 → RowW dd (("tell" : Str) :: us) (.tell t)
  | letr {x : Str} {us : List Str} {t : Tr} : nmOk x = true → Der 0 dd us t → t.sz ≤ 40 → RowW dd (("let" : Str) :: x :: ("=" : Str) :: us) (.letr x t)
  | rule {x a b : Str} {us : List Str} {t : Tr} : nmOk x = true → nmOk a = true → nmOk b = true → Der 0 dd us t → t.sz ≤ 40 → RowW dd (("rule" : Str) :: x :: ("(" : Str) :: a :: ("," : Str) :: b :: (")" : Str) :: ("=" : Str) :: us) (.rule x a b t)
/-- what is no None -/
def NI (H : Hp) (v : V) : Prop := (∃ x, v = .str x) ∨ ∃ a xs, v = .ref a ∧ H a = some (.tup xs)
theorem NI.item {K : Frag} {H : Hp} {v : V} (h : NI H v) : NItem K H v false := by
  rcases h with ⟨x, rfl⟩ | ⟨a, xs, rfl, e⟩
  · exact .str x
  · exact .tup (SqT.of e)
theorem NI.kp {H H' : Hp} {D : List Addr} {v : V} (h : NI H v) (k : Kp D H H') : NI H' v := by
  rcases h with ⟨x, rfl⟩ | ⟨a, xs, rfl, e⟩
  · exact .inl ⟨x, rfl⟩
  · exact .inr ⟨a, xs, rfl, k.tup e⟩
theorem TrAt.ni {H : Hp} {t : Tr} {v : V} (h : TrAt H t v) : NI H v := by
  obtain ⟨p, xs, e, hp, _⟩ := h.shape
  exact .inr ⟨p, xs, e, hp⟩
def spEnded (C : Addr) : Sp := fun vs H Q _ => ∃ (p wl nl : Addr) (ws : List Str) (a d pl k : Nat) (tr : Addr) (x1 x2 sv : V) (xs : List V), vs = [.ref p, .ref tr, sv] ∧ PsAt C p wl nl H ws a d pl k ∧ H tr = some (.tup (x1 :: x2 :: xs)) ∧ NI H x1 ∧ NI H x2 ∧ nxt ws a = Str.empty ∧
  ∀ H' r, Kp [] H H' → H' r = some (.tup [.ref tr, sv]) → Q (.ref r) H'
def spEqual (C : Addr) (dm : Nat) : Sp := fun vs H Q _ => ∃ (p wl nl bg : Addr) (ws : List Str) (a pl k : Nat) (h : Str) (b1 : Str) (bs : List V) (us pre : List Str) (dd : Nat) (t : Tr), vs = [.ref p, .str h, .ref bg] ∧ PsAt C p wl nl H ws a 0 pl k ∧ H bg = some (.tup (.str b1 :: bs)) ∧ bs.length ≤ 2 ∧ Der 0 dd us t ∧ dd ≤ dm ∧ dd ≤ 12 ∧ ws = pre ++ (("=" : Str) :: us) ∧ pre.length = a ∧ pl + t.sz ≤ 40 ∧
  ∀ H' r x s u a' pl' k', Kp [p, nl] H H' → PsAt C p wl nl H' ws a' 0 pl' k' → H' r = some (.tup [.ref x, s]) → H' x = some (.tup (.str h :: .str b1 :: bs ++ [u])) → TrAt H' t u → Q (.ref r) H'
def spRule (C : Addr) (dm : Nat) : Sp := fun vs H Q _ => ∃ (p wl nl : Addr) (ws : List Str) (a pl k : Nat) (x y z : Str) (us pre : List Str) (dd : Nat) (t : Tr), vs = [.ref p, .str x] ∧ PsAt C p wl nl H ws a 0 pl k ∧ nmOk y = true ∧ nmOk z = true ∧ Der 0 dd us t ∧ dd ≤ dm ∧ dd ≤ 12 ∧ ws = pre ++ (("(" : Str) :: y :: ("," : Str) :: z :: (")" : Str) :: ("=" : Str) :: us) ∧ pre.length = a ∧ pl + t.sz ≤ 40 ∧
  ∀ H' r x' s u q' a' pl' k', Kp [p, nl] H H' → PsAt C p wl nl H' ws a' 0 pl' k' → H' r = some (.tup [.ref x', s]) → H' x' = some (.tup [.str "rule", .str x, .ref q', u]) → H' q' = some (.tup [.str y, .str z]) → TrAt H' t u → Q (.ref r) H'
def spAnyRow (C : Addr) (dm : Nat) : Sp := fun vs H Q _ => ∃ (p wl nl : Addr) (ws : List Str) (k dd : Nat) (rw' : Rw), vs = [.ref p] ∧ PsAt C p wl nl H ws 0 0 0 k ∧ RowW dd ws rw' ∧ dd ≤ dm ∧ dd ≤ 12 ∧
  ∀ H' r x s a' pl' k', Kp [p, nl] H H' → PsAt C p wl nl H' ws a' 0 pl' k' → H' r = some (.tup [x, s]) → RwAt H' rw' x → Q (.ref r) H'
theorem nxt_at (pre l : List Str) (x : Str) {a : Nat} (h : pre.length = a) : nxt (pre ++ x :: l) a = x := by rw [nxt_app pre _ h]; rfl
theorem get_at (pre l : List Str) (x : Str) {a : Nat} (h : pre.length = a) : (pre ++ x :: l)[a]? = some x := by
  rw [List.getElem?_append_right (by omega), h, Nat.sub_self]
  rfl
section
variable {w : World} {K : Frag} {mg : Str → Option Value} {base : Heap} {f : Addr} {fd : FuncData} {dD dG dS C g : Addr}
theorem ok_P_ended (F : L2.Fun K "ended" "RowParser.ended" s_P_ended f fd) (D : PC K C) (c_word : ClM prg w K mg base 1 C "word" (spWd C) []) : FnOk prg w K mg base CX0 2 f fd ["self", "tree", "sited"] (spEnded C) := by
  have S := fs_P_ended
  refine F.ok S (fun vs H Q E h => by obtain ⟨p, _, _, _, _, _, _, _, _, _, _, _, _, rfl, _⟩ := h; rfl) fun cdv A outer s H vs Q E hr hsp => ?_
  obtain ⟨p, wl, nl, ws, a, d, pl, k, tr, x1, x2, sv, xs, rfl, hp, htr, n1, n2, en, q⟩ := hsp
  have hu := hu_of hr
  refine ⟨_, (pss_one (ps_ret (pe_ifExp (PW.pt (pw_and (pt_cmpR (op_noneNotIn hu) pe_non (pe_slice sl_tupA (pv 1) po_none (po_some pe_int)) rfl) (pw_and1 (pt_cmpR op_eq (pe_clm0 c_word D.cl hr (by decide) (pv 0)) pe_str (nomark _))))) (pe_tup (pa_cons (pv 1) (pa_cons (pv 2) pa_nil))) pe_non))), ?_⟩
  have fin : ∀ (H1 : Hp) (P : Bool → Hp → Prop), Kp [] H H1 → P true H1 → (tTest (tOp rEq (tMeth C "word" (spWd C) [] E0 (tVar 0) tNil) (tC (.str "")))) (L2.start n_P_ended [.ref p, .ref tr, sv]) H1 P := fun H1 P k1 hP => by
    obtain ⟨dx1, g1⟩ := (hp.kp k1 (by simp) (by simp) (by simp)).atp
    refine ⟨_, rfl, p, dx1, _, rfl, g1, rfl, p, wl, nl, ws, a, d, pl, k, rfl, hp.kp k1 (by simp) (by simp) (by simp), rfl, _, rfl, ?_⟩
    rw [en]
    rw [show decide (V.str Str.empty = V.str "") = true by decide +kernel]
    exact hP
  have out : ∀ H1, Kp [] H H1 → tTup (tCons (tVar 1) (tCons (tVar 2) tNil)) (L2.start n_P_ended [.ref p, .ref tr, sv]) H1 Q := fun H1 k1 =>
    ⟨_, rfl, _, rfl, by show 2 ≤ sizeLine; decide, fun r nr => q _ r (k1.trans (Kp.new nr)) upd_same⟩
  have sIx2 : HT.sIx (x1 :: x2 :: xs).length (x1 :: x2 :: xs).length (some 2) = 2 := by
    show HT.sIx (x1 :: x2 :: xs).length (x1 :: x2 :: xs).length (some ((2 : Nat) : Int)) = 2
    rw [HT.sIx_nat]
    simp only [List.length_cons]
    omega
  have ecut : cutV (x1 :: x2 :: xs) none (some 2) = [x1, x2] := by
    unfold cutV
    rw [sIx2]
    rfl
  refine ⟨_, rfl, _, rfl, tr, _, rfl, SqT.of htr, fun hh => ?_, fun hh q2 nq => ?_⟩
  · have e0 : xs = [] := by
      have := hh.2
      rw [sIx2] at this
      simp only [List.length_cons] at this
      exact List.eq_nil_of_length_eq_zero (by omega)
    subst e0
    exact ⟨tr, _, _, rfl, rfl, SqT.of htr, .cons n1.item (.cons n2.item .nil), _, rfl, iT (by rfl) (fin H _ Kp.refl (iteT (out H Kp.refl)))⟩
  · have k1 : Kp [] H (upd H q2 (.tup (cutV (x1 :: x2 :: xs) none (some 2)))) := Kp.new nq
    have e2 : (upd H q2 (.tup (cutV (x1 :: x2 :: xs) none (some 2)))) q2 = some (.tup [x1, x2]) := by rw [upd_same, ecut]
    exact ⟨q2, _, _, rfl, rfl, SqT.of e2, .cons (n1.kp k1).item (.cons (n2.kp k1).item .nil), _, rfl, iT (by rfl) (fin _ _ k1 (iteT (out _ k1)))⟩
theorem ok_P_equal (n dm : Nat) (hn : 4 ≤ n) (F : L2.Fun K "equal" "RowParser.equal" s_P_equal f fd) (D : PC K C) (c_any_sum : ClM prg w K mg base n C "any_sum" (spLv C 0 dm) []) (c_takes : ClM prg w K mg base 2 C "takes" (spTakes C) []) (c_ended : ClM prg w K mg base 2 C "ended" (spEnded C) []) : FnOk prg w K mg base CX0 (n + 1) f fd ["self", "head", "begun"] (spEqual C dm) := by
  have S := fs_P_equal
  refine F.ok S (fun vs H Q E h => by obtain ⟨p, _, _, _, _, _, _, _, _, _, _, _, _, _, _, rfl, _⟩ := h; rfl) fun cdv A outer s H vs Q E hr hsp => ?_
  obtain ⟨p, wl, nl, bg, ws, a, pl, k, h, b1, bs, us, pre, dd, t, rfl, hp, hbg, hbl, hD, hdm, h12, hws, hpre, hpl, q⟩ := hsp
  refine ⟨_, (pss_cons (ps_set (i := 3) S.nd rfl (Or.inl rfl) (pe_ifExp (pt_val (pe_clm c_takes D.cl hr (by omega) (pv 0) (pa_cons pe_str pa_nil))) (pe_clm0 c_any_sum D.cl hr (Nat.le_refl _) (pv 0)) pe_non))
    (pss_one (ps_ret (pe_ifExp (pt_cmpR op_notN (pv 3) pe_non (nomark _)) (pe_clm c_ended D.cl hr (by omega) (pv 0) (pa_cons (pe_tup (pa_cons (pv 1) (StX.pa_star (pv 2) (pa_cons (pe_ix ix_tup (pv 3) pe_int (fun _ _ => rfl)) pa_nil)))) (pa_cons (pv 3) pa_nil))) pe_non)))), ?_⟩
  obtain ⟨dx, h1⟩ := hp.atp
  have en : nxt ws a = "=" := by rw [hws]; exact nxt_at _ _ _ hpre
  refine ⟨_, rfl, p, dx, _, rfl, h1, rfl, p, wl, nl, ws, a, 0, pl, k, _, rfl, hp, fun e => absurd en e, fun _ H1 kk1 hp1 => ⟨true, rfl, iteT ?_⟩⟩
  obtain ⟨dx1, g1⟩ := hp1.atp
  refine ⟨_, rfl, p, dx1, _, rfl, g1, rfl, p, wl, nl, ws, a + 1, 0, pl, k, us, [], pre ++ [("=" : Str)], dd, t, rfl, hp1, hD, hdm, by omega, by rw [hws]; simp, by rw [List.length_append, hpre]; rfl, hpl, by unfold Fol; decide +kernel, fun H2 r2 k2 kk2 hp2 hk2 hr2 => ?_⟩
  obtain ⟨dx2, g2⟩ := hp2.atp
  have kk02 : Kp [p, nl] H H2 := (kk1.mono (by simp)).trans kk2
  obtain ⟨u, b, e, tp, hr2', hu⟩ := hr2
  have hbg2 := kk02.tup hbg
  refine ⟨_, rfl, rfl, _, rfl, iT (by rfl) ⟨_, rfl, p, dx2, _, rfl, g2, rfl, _, rfl, _, rfl, bg, _, rfl, .inl (SqT.of hbg2), _, rfl, r2, _, 0, u, rfl, rfl, SqT.of hr2', rfl, ?_, fun x nx => ⟨_, rfl, ?_⟩⟩⟩
  · show (.str h :: ((.str b1 :: bs) ++ [u])).length ≤ sizeLine
    rw [sizeLine_eq]
    simp only [List.length_cons, List.length_append, List.length_nil]
    omega
  have k3 : Kp [] H2 (upd H2 x (.tup (.str h :: ((.str b1 :: bs) ++ [u])))) := Kp.new nx
  have hx3 : (upd H2 x (.tup (.str h :: ((.str b1 :: bs) ++ [u])))) x = some (.tup (.str h :: .str b1 :: (bs ++ [u]))) := upd_same
  refine ⟨p, wl, nl, ws, _, 0, _, k2, x, .str h, .str b1, .ref r2, bs ++ [u], rfl, hp2.kp k3 (by simp) (by simp) (by simp), hx3, .inl ⟨_, rfl⟩, .inl ⟨_, rfl⟩, ?_, fun H4 r4 k4 hr4 => ?_⟩
  · have el : a + 1 + us.length = ws.length := by rw [hws]; simp only [List.length_append, List.length_cons, hpre]; omega
    unfold nxt
    rw [el, List.getElem?_eq_none (Nat.le_refl _)]
    rfl
  exact q H4 r4 x _ u _ _ k2 ((kk02.trans k3.of).trans k4.of) ((hp2.kp k3 (by simp) (by simp) (by simp)).kp k4 (by simp) (by simp) (by simp)) hr4 (k4.tup hx3) ((hu.kp k3).kp k4)
theorem ok_P_rule_row (n dm : Nat) (hn : 4 ≤ n) (F : L2.Fun K "rule_row" "RowParser.rule_row" s_P_rule_row f fd) (T : Nms mg) (Z : Cns K w mg dD dG dS) (D : PC K C) (c_takes : ClM prg w K mg base 2 C "takes" (spTakes C) []) (c_any_name : ClM prg w K mg base 4 C "any_name" (spAnyName C) []) (c_bound : ClM prg w K mg base 1 C "bound" (spBound C) [])
    (c_equal : ClM prg w K mg base n C "equal" (spEqual C dm) []) : FnOk prg w K mg base CX0 (n + 1) f fd ["self", "name"] (spRule C dm) := by
  have S := fs_P_rule_row
  refine F.ok S (fun vs H Q E h => by obtain ⟨p, _, _, _, _, _, _, _, _, _, _, _, _, _, rfl, _⟩ := h; rfl) fun cdv A outer s H vs Q E hr hsp => ?_
  obtain ⟨p, wl, nl, ws, a, pl, k, x, y, z, us, pre, dd, t, rfl, hp, hy, hz, hD, hdm, h12, hws, hpre, hpl, q⟩ := hsp
  refine ⟨_, (pss_cons (ps_if (pt_not (pt_val (pe_clm c_takes D.cl hr (by omega) (pv 0) (pa_cons pe_str pa_nil)))) (pss_one (ps_ret pe_non)) pss_nil)
    (pss_cons (ps_set (i := 2) S.nd rfl (Or.inl rfl) (pe_lst (pa_cons (pe_clm c_any_name D.cl hr (by omega) (pv 0) (pa_cons pe_str pa_nil)) pa_nil)))
    (pss_cons (ps_while PassesOwn.never (PW.pt (pw_and (pt_cmpR op_notN (pe_ix ix_list (pv 2) (pe_un un_neg pe_int) (fun _ _ => rfl)) pe_non (nomark _)) (pw_and1 (pt_val (pe_clm c_takes D.cl hr (by omega) (pv 0) (pa_cons pe_str pa_nil)))))) (pss_one (ps_expr (pe_bm PySem.F.plainAttrs_list PySem.F.slot_list_append PySem.F.type_list_append mt_append (pv 2) (pa_cons (pe_clm c_any_name D.cl hr (by omega) (pv 0) (pa_cons pe_str pa_nil)) pa_nil)))))
    (pss_cons (ps_if (PW.pt (pw_or (pt_cmpR op_isN (pe_ix ix_list (pv 2) (pe_un un_neg pe_int) (fun _ _ => rfl)) pe_non (nomark _)) (pw_or1 (pt_not (pt_val (pe_clm c_takes D.cl hr (by omega) (pv 0) (pa_cons pe_str pa_nil))))))) (pss_one (ps_ret pe_non)) pss_nil)
    (pss_cons (ps_expr (pe_clm c_bound D.cl hr (by omega) (pv 0) (pa_cons (pe_cmpR op_le (pe_callB call_len_seq (by rfl) T.n_len (by decide +kernel) (pa_cons (pv 2) pa_nil)) (pe_gI rfl Z.c_MOST_OWN) (nomark _)) pa_nil)))
    (pss_one (ps_ret (pe_clm c_equal D.cl hr (Nat.le_refl _) (pv 0) (pa_cons pe_str (pa_cons (pe_tup (pa_cons (pv 1) (pa_cons (pe_callTy call_tuple_of (by rfl) T.n_tuple (by decide +kernel) (pa_cons (pv 2) pa_nil)) pa_nil))) pa_nil)))))))))), ?_⟩
  obtain ⟨dx, h1⟩ := hp.atp
  have en : nxt ws a = "(" := by rw [hws]; exact nxt_at _ _ _ hpre
  refine ⟨_, rfl, p, dx, _, rfl, h1, rfl, p, wl, nl, ws, a, 0, pl, k, _, rfl, hp, fun e => absurd en e, fun _ H1 kk1 hp1 => ⟨true, rfl, iteF ?_⟩⟩
  obtain ⟨dx1, g1⟩ := hp1.atp
  have hy1 : ws[a + 1]? = some y := by
    rw [hws, show pre ++ (("(" : Str) :: y :: ("," : Str) :: z :: (")" : Str) :: ("=" : Str) :: us) = (pre ++ [("(" : Str)]) ++ y :: (("," : Str) :: z :: (")" : Str) :: ("=" : Str) :: us) by simp]
    exact get_at _ _ _ (by rw [List.length_append, hpre]; rfl)
  refine ⟨_, rfl, p, dx1, _, rfl, g1, rfl, p, wl, nl, ws, a + 1, 0, pl, k, y, _, rfl, hp1, hy1, hy, fun H2 kk2 hp2 => ?_⟩
  refine ⟨by show 1 ≤ sizeLine; decide, fun l nll => ?_⟩
  obtain ⟨dx2, ts2, nms2, e21, e22, e23, e24, e25⟩ := hp2.ex
  have lp : l ≠ p := Ne.symm (ne_of_none e21 nll)
  have lw : l ≠ wl := Ne.symm (ne_of_none e22 nll)
  have ln : l ≠ nl := Ne.symm (ne_of_none e24 nll)
  have k02 : Kp [p, nl] H H2 := (kk1.mono (by simp)).trans kk2
  have hl0 : H l = none := k02.none_of nll (fun b m => by
    simp only [List.mem_cons, List.not_mem_nil, or_false] at m
    rcases m with rfl | rfl
    · rw [e21]; simp
    · rw [e24]; simp)
  have k3 : Kp [] H2 (upd H2 l (.lst [.str y])) := Kp.new nll
  have hp3 := hp2.kp k3 (by simp) (by simp) (by simp)
  have hl3 : (upd H2 l (.lst [.str y])) l = some (.lst ([] ++ [.str y])) := upd_same
  have k03 := k02.trans k3.of
  generalize upd H2 l (.lst [.str y]) = H3 at k3 hp3 hl3 k03 ⊢
  -- two turns of the loop
  refine ⟨fun m σ H' => σ = [some (.ref p), some (.str x), some (.ref l)] ∧ ((m = 1 ∧ H' = H3) ∨ (m = 0 ∧ Kp [l, p, nl] H H' ∧ PsAt C p wl nl H' ws (a + 1 + 1 + 1 + 1) 0 pl (k + 1 + 1) ∧ H' l = some (.lst ([.str y] ++ [.str z])))), ⟨1, rfl, .inl ⟨rfl, rfl⟩⟩, fun m σ H' h => ?_⟩
  obtain ⟨rfl, h⟩ := h
  rcases h with ⟨rfl, hH⟩ | ⟨rfl, kk4, hp4, hl4⟩
  · have hH' := hH.symm
    subst hH'
    obtain ⟨dx3, g3⟩ := hp3.atp
    refine ⟨_, rfl, _, rfl, l, _, -1, .str y, rfl, rfl, SqL.of hl3, atI_last _ _, rfl, _, rfl, iT (by rfl) ?_⟩
    have en3 : nxt ws (a + 1 + 1) = "," := by
      rw [hws, show pre ++ (("(" : Str) :: y :: ("," : Str) :: z :: (")" : Str) :: ("=" : Str) :: us) = (pre ++ [("(" : Str), y]) ++ ("," : Str) :: (z :: (")" : Str) :: ("=" : Str) :: us) by simp]
      exact nxt_at _ _ _ (by rw [List.length_append, hpre]; rfl)
    refine ⟨_, rfl, p, dx3, _, rfl, g3, rfl, p, wl, nl, ws, a + 1 + 1, 0, pl, k + 1, _, rfl, hp3, fun e => absurd en3 e, fun _ H4 kk4 hp4 => ⟨true, rfl, iteT ?_⟩⟩
    refine ⟨fun σ' H' => ∃ m', m' < 1 ∧ σ' = [some (.ref p), some (.str x), some (.ref l)] ∧ ((m' = 1 ∧ H' = H3) ∨ (m' = 0 ∧ Kp [l, p, nl] H H' ∧ PsAt C p wl nl H' ws (a + 1 + 1 + 1 + 1) 0 pl (k + 1 + 1) ∧ H' l = some (.lst ([.str y] ++ [.str z])))), fun _ _ q => q, ?_⟩
    obtain ⟨dx4, g4⟩ := hp4.atp
    have hl4 := kk4.lst hl3 (by simpa using lp)
    have hz4 : ws[a + 1 + 1 + 1]? = some z := by
      rw [hws, show pre ++ (("(" : Str) :: y :: ("," : Str) :: z :: (")" : Str) :: ("=" : Str) :: us) = (pre ++ [("(" : Str), y, ("," : Str)]) ++ z :: ((")" : Str) :: ("=" : Str) :: us) by simp]
      exact get_at _ _ _ (by rw [List.length_append, hpre]; rfl)
    refine ⟨_, rfl, .inl ⟨rfl, _, SqL.of hl4⟩, _, rfl, p, dx4, _, rfl, g4, rfl, p, wl, nl, ws, _, 0, pl, k + 1, z, _, rfl, hp4, hz4, hz, fun H5 kk5 hp5 => ?_⟩
    have hl5 := kk5.lst hl4 (by simp [lp, ln])
    refine ⟨l, _, _, rfl, rfl, hl5, by show 1 < sizeLine; decide, 0, by decide, rfl, .inr ⟨rfl, ?_, ?_, ?_⟩⟩
    · exact ((k03.mono (by simp +contextual)).trans (kk4.mono (by simp))).trans ((kk5.mono (by simp +contextual)).trans (Kp.put hl5 rfl (by simp)))
    · exact hp5.kp (Kp.put (D := [l]) hl5 rfl (by simp)) (by simpa using Ne.symm lp) (by simpa using Ne.symm lw) (by simpa using Ne.symm ln)
    · rw [upd_same]
      rfl
  · obtain ⟨dx4, g4⟩ := hp4.atp
    refine ⟨_, rfl, _, rfl, l, _, -1, .str z, rfl, rfl, SqL.of hl4, atI_last _ _, rfl, _, rfl, iT (by rfl) ?_⟩
    have en4 : nxt ws (a + 1 + 1 + 1 + 1) = ")" := by
      rw [hws, show pre ++ (("(" : Str) :: y :: ("," : Str) :: z :: (")" : Str) :: ("=" : Str) :: us) = (pre ++ [("(" : Str), y, ("," : Str), z]) ++ (")" : Str) :: (("=" : Str) :: us) by simp]
      exact nxt_at _ _ _ (by rw [List.length_append, hpre]; rfl)
    refine ⟨_, rfl, p, dx4, _, rfl, g4, rfl, p, wl, nl, ws, _, 0, pl, _, _, rfl, hp4, fun e => ⟨false, rfl, iteF ?_⟩, fun e => absurd (en4.symm.trans e) (by decide +kernel)⟩
    -- behind the loop
    refine ⟨_, rfl, _, rfl, l, _, -1, .str z, rfl, rfl, SqL.of hl4, atI_last _ _, rfl, _, rfl, iF (by rfl) ?_⟩
    refine ⟨_, rfl, p, dx4, _, rfl, g4, rfl, p, wl, nl, ws, _, 0, pl, _, _, rfl, hp4, fun e => absurd en4 e, fun _ H5 kk5 hp5 => ⟨true, rfl, iteF ?_⟩⟩
    obtain ⟨dx5, g5⟩ := hp5.atp
    have hl5 := kk5.lst hl4 (by simpa using lp)
    refine ⟨_, rfl, p, dx5, _, rfl, g5, rfl, _, rfl, l, _, rfl, .inl (SqL.of hl5), _, _, rfl, rfl, p, wl, nl, ws, _, 0, pl, _, ?_, hp5, fun H6 kk6 hp6 => ?_⟩
    · rfl
    have hl6 := kk6.lst hl5 (by simpa using lp)
    obtain ⟨dx6, g6⟩ := hp6.atp
    refine ⟨_, rfl, p, dx6, _, rfl, g6, rfl, _, rfl, _, rfl, l, _, rfl, .inl ⟨SqL.of hl6, fun tq ntq => ⟨by show 2 ≤ sizeLine; decide, fun tb ntb => ?_⟩⟩⟩
    have k7 : Kp [] H6 (upd (upd H6 tq (.tup ([.str y] ++ [.str z]))) tb (.tup [.str x, .ref tq])) := (Kp.new ntq).trans (Kp.new ntb)
    have htq : (upd (upd H6 tq (.tup ([.str y] ++ [.str z]))) tb (.tup [.str x, .ref tq])) tq = some (.tup [.str y, .str z]) := by
      rw [upd_ne (ne_of_none (show (upd H6 tq (.tup ([.str y] ++ [.str z]))) tq = some _ from upd_same) ntb)]
      exact upd_same
    refine ⟨p, wl, nl, tb, ws, a + 1 + 1 + 1 + 1 + 1, pl, k + 1 + 1, _, x, [.ref tq], us, pre ++ [("(" : Str), y, ("," : Str), z, (")" : Str)], dd, t, rfl, hp6.kp k7 (by simp) (by simp) (by simp), upd_same, by simp, hD, hdm, h12, by rw [hws]; simp, by rw [List.length_append, hpre]; rfl, hpl, fun H8 r x' s' u a' pl' k' kk8 hp8 hr8 hx8 hu8 => ?_⟩
    have kfin : Kp [l, p, nl] H H8 := ((kk4.trans (kk5.mono (by simp))).trans ((kk6.mono (by simp)).trans k7.of)).trans (kk8.mono (by simp +contextual))
    exact q H8 r x' s' u tq a' pl' k' (kfin.drop hl0) hp8 hr8 hx8 (kk8.tup htq) hu8
theorem ok_P_any_row (n dm : Nat) (hn : 4 ≤ n) (F : L2.Fun K "any_row" "RowParser.any_row" s_P_any_row f fd) (Z : Cns K w mg dD dG dS) (D : PC K C) (c_word : ClM prg w K mg base 1 C "word" (spWd C) []) (c_any_sum : ClM prg w K mg base n C "any_sum" (spLv C 0 dm) []) (c_ended : ClM prg w K mg base 2 C "ended" (spEnded C) []) (c_any_name : ClM prg w K mg base 4 C "any_name" (spAnyName C) [])
    (c_equal : ClM prg w K mg base n C "equal" (spEqual C dm) []) (c_rule_row : ClM prg w K mg base n C "rule_row" (spRule C dm) []) : FnOk prg w K mg base CX0 (n + 1) f fd ["self"] (spAnyRow C dm) := by
  have S := fs_P_any_row
  refine F.ok S (fun vs H Q E h => by obtain ⟨p, _, _, _, _, _, _, rfl, _⟩ := h; rfl) fun cdv A outer s H vs Q E hr hsp => ?_
  obtain ⟨p, wl, nl, ws, k, dd, rw', rfl, hp, hR, hdm, h12, q⟩ := hsp
  refine ⟨_, (pss_cons (ps_set (i := 1) S.nd rfl (Or.inl rfl) (pe_clm0 c_word D.cl hr (by omega) (pv 0)))
    (pss_cons (ps_if (pt_cmpR op_notIn_seq (pv 1) (pe_tup (StX.pa_star (pe_gR rfl Z.c_GIVEN_HEADS) (pa_cons pe_str (pa_cons pe_str (pa_cons pe_str pa_nil))))) rfl) (pss_one (ps_ret pe_non)) pss_nil)
    (pss_cons (ps_fld (pv 0) (pe_op op_add (pe_fld (pv 0) rfl) pe_int) rfl)
    (pss_cons (ps_if (pt_cmpR op_eq (pv 1) pe_str (nomark _)) (pss_cons (ps_set (i := 2) S.nd rfl (Or.inl rfl) (pe_clm0 c_any_sum D.cl hr (Nat.le_refl _) (pv 0)))
    (pss_one (ps_ret (pe_ifExp (pt_cmpR op_notN (pv 2) pe_non (nomark _)) (pe_clm c_ended D.cl hr (by omega) (pv 0) (pa_cons (pe_tup (pa_cons pe_str (pa_cons (pe_ix ix_tup (pv 2) pe_int (fun _ _ => rfl)) pa_nil))) (pa_cons (pv 2) pa_nil))) pe_non)))) pss_nil)
    (pss_cons (ps_set (i := 3) S.nd rfl (Or.inl rfl) (pe_clm c_any_name D.cl hr (by omega) (pv 0) (pa_cons pe_str pa_nil)))
    (pss_cons (ps_if (pt_cmpR op_in_seq (pv 1) (pe_gR rfl Z.c_GIVEN_HEADS) rfl) (pss_one (ps_ret (pe_clm c_ended D.cl hr (by omega) (pv 0) (pa_cons (pe_tup (pa_cons (pv 1) (pa_cons (pv 3) pa_nil))) (pa_cons pe_non pa_nil))))) pss_nil)
    (pss_cons (ps_if (pt_cmpR op_isN (pv 3) pe_non (nomark _)) (pss_one (ps_ret pe_non)) pss_nil)
    (pss_one (ps_ret (pe_ifExp (pt_cmpR op_eq (pv 1) pe_str (nomark _)) (pe_clm c_equal D.cl hr (Nat.le_refl _) (pv 0) (pa_cons pe_str (pa_cons (pe_tup (pa_cons (pv 3) pa_nil)) pa_nil))) (pe_clm c_rule_row D.cl hr (Nat.le_refl _) (pv 0) (pa_cons (pv 3) pa_nil)))))))))))), ?_⟩
  obtain ⟨dx, h1⟩ := hp.atp
  refine ⟨_, rfl, p, dx, _, rfl, h1, rfl, p, wl, nl, ws, 0, 0, 0, k, rfl, hp, ?_⟩
  refine ⟨_, rfl, dG, headsV, rfl, .inl (Z.k_GIVEN_HEADS H), by show 6 ≤ sizeLine; decide, fun p2 n2 => ⟨p2, _, rfl, .inr (SqT.of upd_same), rfl, rfl, _, rfl, iF ?_ ?_⟩⟩
  · cases hR with
    | given hh _ =>
      rcases hh with rfl | rfl | rfl
      · show (!inV (.str "point") (headsV ++ [.str "rule", .str "let", .str "tell"])) = false; decide +kernel
      · show (!inV (.str "arrow") (headsV ++ [.str "rule", .str "let", .str "tell"])) = false; decide +kernel
      · show (!inV (.str "number") (headsV ++ [.str "rule", .str "let", .str "tell"])) = false; decide +kernel
    | tell _ _ => show (!inV (.str "tell") (headsV ++ [.str "rule", .str "let", .str "tell"])) = false; decide +kernel
    | letr _ _ _ => show (!inV (.str "let") (headsV ++ [.str "rule", .str "let", .str "tell"])) = false; decide +kernel
    | rule _ _ _ _ _ => show (!inV (.str "rule") (headsV ++ [.str "rule", .str "let", .str "tell"])) = false; decide +kernel
  have k1 : Kp [] H (upd H p2 (.tup (headsV ++ [.str "rule", .str "let", .str "tell"]))) := Kp.new n2
  have hp1 := hp.kp k1 (by simp) (by simp) (by simp)
  have g1 := k1.ins h1 (by simp)
  generalize upd H p2 (.tup (headsV ++ [.str "rule", .str "let", .str "tell"])) = H1 at k1 hp1 g1 ⊢
  refine ⟨_, rfl, p, C, dx, _, .int (0 : Nat), rfl, g1, D.cl, D.n_at, rfl, _, _, rfl, rfl, _, rfl, p, C, dx, _, rfl, g1, D.cl, D.n_at, by show 6 < 1000; decide, ?_⟩
  rw [put_at1]
  have k2 : Kp [p] H1 (upd H1 p (.ins C dx (flds wl nl (0 + 1) 0 0))) := Kp.put g1 rfl (by simp)
  have hp2 := hp1.put (a' := 0 + 1) (d' := 0) (pl' := 0) g1 (Nat.le_succ_of_le hp1.le)
  have k02 : Kp [p, nl] H (upd H1 p (.ins C dx (flds wl nl (0 + 1) 0 0))) := (Kp.of k1).trans (k2.mono (by simp))
  generalize upd H1 p (.ins C dx (flds wl nl (0 + 1) 0 0)) = H2 at k2 hp2 k02 ⊢
  obtain ⟨dx2, g2⟩ := hp2.atp
  have isT : ∀ (h : Str) (us : List Str), ws = h :: us → nxt ws 0 = h := fun h us e => by rw [e]; rfl
  have endW : ∀ a, a = ws.length → nxt ws a = Str.empty := fun a e => by
    unfold nxt
    rw [e, List.getElem?_eq_none (Nat.le_refl _)]
    rfl
  -- a name behind the head
  have named : ∀ (x : Str) (b : V), ws[1]? = some x → nmOk x = true → b = .str (nxt ws 0) → (∀ H3, Kp [p, nl] H H3 → PsAt C p wl nl H3 ws (0 + 1 + 1) 0 0 (k + 1) →
      tSeq (tIfS (tTest (tOp (rIn K false) (tVar 1) (tC (.ref dG)))) (tRet (tMeth C "ended" (spEnded C) [] E0 (tVar 0) (tCons (tTup (tCons (tVar 1) (tCons (tVar 3) tNil))) (tCons (tC .non) tNil)))) tNext)
        (tSeq (tIfS (tTest (tOp (fun x y H Q => y = .non ∧ Q (.bl (decide (x = .non))) H) (tVar 3) (tC .non))) (tRet (tC .non)) tNext)
        (tRet (tIf (tTest (tOp rEq (tVar 1) (tC (.str "let")))) (tMeth C "equal" (spEqual C dm) [] E0 (tVar 0) (tCons (tC (.str "let")) (tCons (tTup (tCons (tVar 3) tNil)) tNil))) (tMeth C "rule_row" (spRule C dm) [] E0 (tVar 0) (tCons (tVar 3) tNil)))))
        { nx := fun _ H' => Q .non H', rt := Q } [some (.ref p), some b, none, some (.str x)] H3) →
      tSeq (tAsg (tMeth C "any_name" (spAnyName C) [] E0 (tVar 0) (tCons (tC (.str "declares")) tNil)) (gName 3))
        (tSeq (tIfS (tTest (tOp (rIn K false) (tVar 1) (tC (.ref dG)))) (tRet (tMeth C "ended" (spEnded C) [] E0 (tVar 0) (tCons (tTup (tCons (tVar 1) (tCons (tVar 3) tNil))) (tCons (tC .non) tNil)))) tNext)
        (tSeq (tIfS (tTest (tOp (fun x y H Q => y = .non ∧ Q (.bl (decide (x = .non))) H) (tVar 3) (tC .non))) (tRet (tC .non)) tNext)
        (tRet (tIf (tTest (tOp rEq (tVar 1) (tC (.str "let")))) (tMeth C "equal" (spEqual C dm) [] E0 (tVar 0) (tCons (tC (.str "let")) (tCons (tTup (tCons (tVar 3) tNil)) tNil))) (tMeth C "rule_row" (spRule C dm) [] E0 (tVar 0) (tCons (tVar 3) tNil))))))
        { nx := fun _ H' => Q .non H', rt := Q } [some (.ref p), some b, none, none] H2 := by
    intro x b hx ok hb hk
    exact ⟨_, rfl, p, dx2, _, rfl, g2, rfl, p, wl, nl, ws, _, 0, 0, k, x, _, rfl, hp2, hx, ok, fun H3 kk3 hp3 => hk H3 (k02.trans kk3) hp3⟩
  cases hR with
  | tell hD hsz =>
    rename_i us t
    refine ⟨_, rfl, rfl, _, rfl, iT (by show decide (V.str "tell" = V.str "tell") = true; decide +kernel) ?_⟩
    refine ⟨_, rfl, p, dx2, _, rfl, g2, rfl, p, wl, nl, _, 0 + 1, 0, 0, k, us, [], [("tell" : Str)], dd, t, rfl, hp2, hD, hdm, by omega, by simp, rfl, by omega, by unfold Fol; decide +kernel, fun H3 r3 k3 kk3 hp3 hk3 hr3 => ?_⟩
    obtain ⟨dx3, g3⟩ := hp3.atp
    obtain ⟨u, b, e, tp, hr3', hu⟩ := hr3
    refine ⟨_, rfl, rfl, _, rfl, iT (by rfl) ⟨_, rfl, p, dx3, _, rfl, g3, rfl, _, rfl, r3, _, 0, u, rfl, rfl, SqT.of hr3', rfl, by show 2 ≤ sizeLine; decide, fun x nx => ⟨_, rfl, ?_⟩⟩⟩
    have k4 : Kp [] H3 (upd H3 x (.tup [.str "tell", u])) := Kp.new nx
    have hx4 : (upd H3 x (.tup [.str "tell", u])) x = some (.tup [.str "tell", u]) := upd_same
    have hp4 := hp3.kp k4 (by simp) (by simp) (by simp)
    refine ⟨p, wl, nl, _, _, 0, _, k3, x, .str "tell", u, .ref r3, [], rfl, hp4, hx4, .inl ⟨_, rfl⟩, (hu.kp k4).ni, endW _ (by simp; omega), fun H5 r5 k5 hr5 => ?_⟩
    exact q H5 r5 (.ref x) _ _ _ k3 (((k02.trans kk3).trans k4.of).trans k5.of) (hp4.kp k5 (by simp) (by simp) (by simp)) hr5 ⟨x, u, rfl, k5.tup hx4, (hu.kp k4).kp k5⟩
  | given hh hx =>
    rename_i h x
    have nt : decide (V.str (nxt [h, x] 0) = V.str "tell") = false := by
      rcases hh with rfl | rfl | rfl
      · show decide (V.str "point" = V.str "tell") = false; decide +kernel
      · show decide (V.str "arrow" = V.str "tell") = false; decide +kernel
      · show decide (V.str "number" = V.str "tell") = false; decide +kernel
    refine ⟨_, rfl, rfl, _, rfl, iF nt ?_⟩
    refine named x _ rfl hx rfl fun H3 kk3 hp3 => ?_
    have ing : inV (.str (nxt [h, x] 0)) headsV = true := by
      rcases hh with rfl | rfl | rfl
      · show inV (.str "point") headsV = true; decide +kernel
      · show inV (.str "arrow") headsV = true; decide +kernel
      · show inV (.str "number") headsV = true; decide +kernel
    obtain ⟨dx3, g3⟩ := hp3.atp
    refine ⟨_, rfl, dG, headsV, rfl, .inr (Z.k_GIVEN_HEADS H3), rfl, rfl, _, rfl, iT ing ⟨_, rfl, p, dx3, _, rfl, g3, rfl, _, rfl, _, rfl, by show 2 ≤ sizeLine; decide, fun y ny => ?_⟩⟩
    have k4 : Kp [] H3 (upd H3 y (.tup [.str (nxt [h, x] 0), .str x])) := Kp.new ny
    have hy4 : (upd H3 y (.tup [.str (nxt [h, x] 0), .str x])) y = some (.tup [.str h, .str x]) := upd_same
    have hp4 := hp3.kp k4 (by simp) (by simp) (by simp)
    refine ⟨p, wl, nl, _, _, 0, 0, _, y, .str h, .str x, .non, [], rfl, hp4, hy4, .inl ⟨_, rfl⟩, .inl ⟨_, rfl⟩, endW _ rfl, fun H5 r5 k5 hr5 => ?_⟩
    exact q H5 r5 (.ref y) _ _ _ _ ((kk3.trans k4.of).trans k5.of) (hp4.kp k5 (by simp) (by simp) (by simp)) hr5 ⟨y, rfl, k5.tup hy4⟩
  | letr hx hD hsz =>
    rename_i x us t
    refine ⟨_, rfl, rfl, _, rfl, iF (by show decide (V.str "let" = V.str "tell") = false; decide +kernel) ?_⟩
    refine named x _ rfl hx rfl fun H3 kk3 hp3 => ?_
    obtain ⟨dx3, g3⟩ := hp3.atp
    refine ⟨_, rfl, dG, headsV, rfl, .inr (Z.k_GIVEN_HEADS H3), rfl, rfl, _, rfl, iF (by show inV (.str "let") headsV = false; decide +kernel) ?_⟩
    refine ⟨_, rfl, rfl, _, rfl, iF (by rfl) ⟨_, rfl, rfl, _, rfl, iT (by show decide (V.str "let" = V.str "let") = true; decide +kernel) ?_⟩⟩
    refine ⟨_, rfl, p, dx3, _, rfl, g3, rfl, _, rfl, by show 1 ≤ sizeLine; decide, fun y ny => ?_⟩
    have k4 : Kp [] H3 (upd H3 y (.tup [.str x])) := Kp.new ny
    refine ⟨p, wl, nl, y, _, 0 + 1 + 1, 0, k + 1, _, x, [], us, [("let" : Str), x], dd, t, rfl, hp3.kp k4 (by simp) (by simp) (by simp), upd_same, by simp, hD, hdm, h12, rfl, rfl, by omega, fun H5 r5 x5 s5 u5 a5 pl5 k5 kk5 hp5 hr5 hx5 hu5 => ?_⟩
    exact q H5 r5 (.ref x5) s5 a5 pl5 k5 ((kk3.trans k4.of).trans kk5) hp5 hr5 ⟨x5, u5, rfl, hx5, hu5⟩
  | rule hx hy hz hD hsz =>
    rename_i x y z us t
    refine ⟨_, rfl, rfl, _, rfl, iF (by show decide (V.str "rule" = V.str "tell") = false; decide +kernel) ?_⟩
    refine named x _ rfl hx rfl fun H3 kk3 hp3 => ?_
    obtain ⟨dx3, g3⟩ := hp3.atp
    refine ⟨_, rfl, dG, headsV, rfl, .inr (Z.k_GIVEN_HEADS H3), rfl, rfl, _, rfl, iF (by show inV (.str "rule") headsV = false; decide +kernel) ?_⟩
    refine ⟨_, rfl, rfl, _, rfl, iF (by rfl) ⟨_, rfl, rfl, _, rfl, iF (by show decide (V.str "rule" = V.str "let") = false; decide +kernel) ?_⟩⟩
    refine ⟨_, rfl, p, dx3, _, rfl, g3, rfl, _, rfl, ?_⟩
    refine ⟨p, wl, nl, _, 0 + 1 + 1, 0, k + 1, x, y, z, us, [("rule" : Str), x], dd, t, rfl, hp3, hy, hz, hD, hdm, h12, rfl, rfl, by omega, fun H5 r5 x5 s5 u5 q5 a5 pl5 k5 kk5 hp5 hr5 hx5 hq5 hu5 => ?_⟩
    exact q H5 r5 (.ref x5) s5 a5 pl5 k5 (kk3.trans kk5) hp5 hr5 ⟨x5, q5, u5, rfl, hx5, hq5, hu5⟩
end
end K2
set_option maxHeartbeats 4000000
/-! P15: texts read; trees printed. -/
namespace K2
open PySem PySem.Spec L2 DL
open PySem.W (Frag keepIn findIn typeIn subIn kitOne kitAny excIn)
open PyProof.Rows hiding St wpAt wpAt_bind wpAt_stack wpAt_mono
/-- what may be read: a sum, a row -/
inductive Wh where
  | sum (t : Tr) | row (r : Rw)
def Wh.isS : Wh → Bool
  | .sum _ => true
  | .row _ => false
def WhAt (H : Hp) : Wh → V → Prop
  | .sum t, v => TrAt H t v
  | .row r, v => RwAt H r v
theorem WhAt.kp {H H' : Hp} {D : List Addr} (k : Kp D H H') : ∀ {w : Wh} {v : V}, WhAt H w v → WhAt H' w v
  | .sum _, _, h => TrAt.kp k h
  | .row _, _, h => RwAt.kp k h
def WhW (dd : Nat) (ws : List Str) : Wh → Prop
  | .sum t => Der 0 dd ws t ∧ t.sz ≤ 40
  | .row r => RowW dd ws r
/-- a text that is read -/
structure Txts (x : Str) (w : Wh) : Prop where
  len : x.length ≤ 50000
  chr : ∀ c ∈ x.cps.toList, okC c = true
  ex : ∃ ws dd, Spd x.cps.toList ws ∧ WhW dd ws w ∧ dd ≤ 12
structure RC (K : Frag) (C : Addr) : Prop where
  cl : L2.Cls K C
  n_word : NoAttr K C "word"
  n_column : NoAttr K C "column"
  n_tree : NoAttr K C "tree"
  n_sited : NoAttr K C "sited"
  n_words : NoAttr K C "words"
  n_names : NoAttr K C "names"
def rfs (a b c d e f : V) : List (Str × V) := putF "names" f (putF "words" e (putF "sited" d (putF "tree" c (putF "column" b (putF "word" a [])))))
theorem rfs_eq (a b c d e f : V) : rfs a b c d e f = [(("word" : Str), a), (("column" : Str), b), (("tree" : Str), c), (("sited" : Str), d), (("words" : Str), e), (("names" : Str), f)] := by
  unfold rfs
  have n1 : ¬ ("word" : Str) = "column" := by decide +kernel
  have n2 : ¬ ("word" : Str) = "tree" := by decide +kernel
  have n3 : ¬ ("column" : Str) = "tree" := by decide +kernel
  have n4 : ¬ ("word" : Str) = "sited" := by decide +kernel
  have n5 : ¬ ("column" : Str) = "sited" := by decide +kernel
  have n6 : ¬ ("tree" : Str) = "sited" := by decide +kernel
  have n7 : ¬ ("word" : Str) = "words" := by decide +kernel
  have n8 : ¬ ("column" : Str) = "words" := by decide +kernel
  have n9 : ¬ ("tree" : Str) = "words" := by decide +kernel
  have n10 : ¬ ("sited" : Str) = "words" := by decide +kernel
  have n11 : ¬ ("word" : Str) = "names" := by decide +kernel
  have n12 : ¬ ("column" : Str) = "names" := by decide +kernel
  have n13 : ¬ ("tree" : Str) = "names" := by decide +kernel
  have n14 : ¬ ("sited" : Str) = "names" := by decide +kernel
  have n15 : ¬ ("words" : Str) = "names" := by decide +kernel
  simp only [putF, n1, n2, n3, n4, n5, n6, n7, n8, n9, n10, n11, n12, n13, n14, n15, if_false]
def spRInit (C : Addr) : Sp := fun vs H Q _ => ∃ (y dy tl : Addr) (a b c d e f : V), vs = [.ref y, a, b, .ref tl, e, f] ∧ H y = some (.ins C dy []) ∧ H tl = some (.tup [c, d]) ∧ ∀ H', Kp [y] H H' → H' y = some (.ins C dy (rfs a b c d e f)) → Q .non H'
def spReadBy (C : Addr) : Sp := fun vs H Q _ => ∃ (x : Str) (b : Bool) (w : Wh), vs = [.str x, .bl b] ∧ b = w.isS ∧ Txts x w ∧ ∀ H' y dy v s e f, Kp [] H H' → H' y = some (.ins C dy (rfs .non .non v s e f)) → WhAt H' w v → Q (.ref y) H'
def spBy (C : Addr) (b : Bool) : Sp := fun vs H Q _ => ∃ (x : Str) (w : Wh), vs = [.str x] ∧ b = w.isS ∧ Txts x w ∧ ∀ H' y dy v s e f, Kp [] H H' → H' y = some (.ins C dy (rfs .non .non v s e f)) → WhAt H' w v → Q (.ref y) H'
def spOwn (C : Addr) : Sp := fun vs H Q _ => ∃ (y dy : Addr) (v s e f : V), vs = [.ref y] ∧ H y = some (.ins C dy (rfs .non .non v s e f)) ∧ Q v H
def spRead (b : Bool) : Sp := fun vs H Q _ => ∃ (x : Str) (w : Wh), vs = [.str x] ∧ b = w.isS ∧ Txts x w ∧ ∀ H' v, Kp [] H H' → WhAt H' w v → Q v H'
/-- a tree that can be printed and read -/
structure Good (t : Tr) : Prop where
  ok : t.ok
  ht : t.ht ≤ 11
  sz : t.sz ≤ 40
  tx : Txts (cat t.pr) (.sum t)
def spIsTree : Sp := fun vs H Q _ => ∃ v t, vs = [v] ∧ TrAt H t v ∧ Good t ∧ ∀ H', Kp [] H H' → Q (.bl true) H'
def spTreeT : Sp := fun vs H Q _ => ∃ v t, vs = [v] ∧ TrAt H t v ∧ Good t ∧ ∀ H', Kp [] H H' → Q (.str (cat t.pr)) H'
/-- two of the same tree are alike -/
theorem sm_flat {H : Hp} {n : Nat} {v : V} (h : flat v) : SmA H n v v := by
  cases n with
  | zero => exact ⟨rfl, h⟩
  | succ n => exact .inl ⟨rfl, h⟩
theorem sm1 {H : Hp} {n : Nat} {p p' : Addr} {a a' : V} (h : H p = some (.tup [a])) (h' : H p' = some (.tup [a'])) (s1 : SmA H n a a') : SmA H (n + 1) (.ref p) (.ref p') :=
  .inr ⟨p, p', _, _, rfl, rfl, h, h', rfl, by simp, fun i x y hx hy => by
    cases i with
    | zero => cases hx; cases hy; exact s1
    | succ i => simp at hx⟩
theorem sm2 {H : Hp} {n : Nat} {p p' : Addr} {a a' b b' : V} (h : H p = some (.tup [a, b])) (h' : H p' = some (.tup [a', b'])) (s1 : SmA H n a a') (s2 : SmA H n b b') : SmA H (n + 1) (.ref p) (.ref p') :=
  .inr ⟨p, p', _, _, rfl, rfl, h, h', rfl, by simp, fun i x y hx hy => by
    cases i with
    | zero => cases hx; cases hy; exact s1
    | succ i =>
      cases i with
      | zero => cases hx; cases hy; exact s2
      | succ i => simp at hx⟩
theorem sm3 {H : Hp} {n : Nat} {p p' : Addr} {a a' b b' c c' : V} (h : H p = some (.tup [a, b, c])) (h' : H p' = some (.tup [a', b', c'])) (s1 : SmA H n a a') (s2 : SmA H n b b') (s3 : SmA H n c c') : SmA H (n + 1) (.ref p) (.ref p') :=
  .inr ⟨p, p', _, _, rfl, rfl, h, h', rfl, by simp, fun i x y hx hy => by
    cases i with
    | zero => cases hx; cases hy; exact s1
    | succ i =>
      cases i with
      | zero => cases hx; cases hy; exact s2
      | succ i =>
        cases i with
        | zero => cases hx; cases hy; exact s3
        | succ i => simp at hx⟩
theorem fS (x : Str) : flat (.str x) := .inr ⟨x, rfl⟩
theorem fI (i : Int) : flat (.int i) := .inl ⟨i, rfl⟩
theorem TrAt.same {H : Hp} {t : Tr} : ∀ {v u : V} {n : Nat}, TrAt H t v → TrAt H t u → 2 * t.ht + 1 ≤ n → SmA H n v u := by
  induction t with
  | val m =>
    rintro v u n ⟨p, rfl, h⟩ ⟨p', rfl, h'⟩ hn
    obtain ⟨n, rfl⟩ : ∃ k, n = k + 1 := ⟨n - 1, by omega⟩
    exact sm2 h h' (sm_flat (fS _)) (sm_flat (fI _))
  | nam m =>
    rintro v u n ⟨p, rfl, h⟩ ⟨p', rfl, h'⟩ hn
    obtain ⟨n, rfl⟩ : ∃ k, n = k + 1 := ⟨n - 1, by omega⟩
    exact sm2 h h' (sm_flat (fS _)) (sm_flat (fS _))
  | call1 f a ih =>
    rintro v u n ⟨p, q, w, rfl, h, hq, ha⟩ ⟨p', q', w', rfl, h', hq', ha'⟩ hn
    simp only [Tr.ht] at hn
    obtain ⟨n, rfl⟩ : ∃ k, n = k + 1 + 1 := ⟨n - 2, by omega⟩
    exact sm3 h h' (sm_flat (fS _)) (sm_flat (fS _)) (sm1 hq hq' (ih ha ha' (by omega)))
  | call2 f a b ih ih2 =>
    rintro v u n ⟨p, q, w, z, rfl, h, hq, ha, hb⟩ ⟨p', q', w', z', rfl, h', hq', ha', hb'⟩ hn
    simp only [Tr.ht] at hn
    obtain ⟨n, rfl⟩ : ∃ k, n = k + 1 + 1 := ⟨n - 2, by omega⟩
    exact sm3 h h' (sm_flat (fS _)) (sm_flat (fS _)) (sm2 hq hq' (ih ha ha' (by omega)) (ih2 hb hb' (by omega)))
  | minus a ih =>
    rintro v u n ⟨p, w, rfl, h, ha⟩ ⟨p', w', rfl, h', ha'⟩ hn
    simp only [Tr.ht] at hn
    obtain ⟨n, rfl⟩ : ∃ k, n = k + 1 := ⟨n - 1, by omega⟩
    exact sm2 h h' (sm_flat (fS _)) (ih ha ha' (by omega))
  | pow a k ih =>
    rintro v u n ⟨p, w, rfl, h, ha⟩ ⟨p', w', rfl, h', ha'⟩ hn
    simp only [Tr.ht] at hn
    obtain ⟨n, rfl⟩ : ∃ k, n = k + 1 := ⟨n - 1, by omega⟩
    exact sm3 h h' (sm_flat (fS _)) (ih ha ha' (by omega)) (sm_flat (fI _))
  | bin o a b ih ih2 =>
    rintro v u n ⟨p, w, z, rfl, h, ha, hb⟩ ⟨p', w', z', rfl, h', ha', hb'⟩ hn
    simp only [Tr.ht] at hn
    obtain ⟨n, rfl⟩ : ∃ k, n = k + 1 := ⟨n - 1, by omega⟩
    exact sm3 h h' (sm_flat (fS _)) (ih ha ha' (by omega)) (ih2 hb hb' (by omega))
theorem spd_len {cs : List Nat} {ws : List Str} (h : Spd cs ws) : ws.length ≤ cs.length := by
  induction h with
  | nil => exact Nat.le_refl _
  | blank h ih => exact Nat.le_succ_of_le ih
  | sign _ _ h ih => exact Nat.succ_le_succ ih
  | word _ _ _ h ih => simp only [List.length_cons, List.length_append]; omega
section
variable {w : World} {K : Frag} {mg : Str → Option Value} {base : Heap} {f : Addr} {fd : FuncData} {dD dG dS C CR : Addr}
theorem ok_R_init (F : L2.Fun K "__init__" "ReadRow.__init__" s_R_init f fd) (D : RC K CR) : FnOk prg w K mg base CX0 1 f fd ["self", "word", "column", "told", "words", "names"] (spRInit CR) := by
  have S := fs_R_init
  refine F.ok S (fun vs H Q E h => by obtain ⟨y, _, _, _, _, _, _, _, _, rfl, _⟩ := h; rfl) fun cdv A outer s H vs Q E hr hsp => ?_
  obtain ⟨y, dy, tl, a, b, c, d, e, g, rfl, hy, htl, q⟩ := hsp
  refine ⟨_, (pss_cons (ps_fld (pv 0) (pv 1) rfl)
    (pss_cons (ps_fld (pv 0) (pv 2) rfl)
    (pss_cons (ps_asg (pv 3) (pg_tup rfl (pgs_cons (pg_fld (pv 0)) (pgs_cons (pg_fld (pv 0)) pgs_nil))))
    (pss_cons (ps_fld (pv 0) (pv 4) rfl)
    (pss_one (ps_fld (pv 0) (pv 5) rfl)))))), ?_⟩
  have ty : tl ≠ y := ne_of htl hy (by intro z; cases z)
  refine ⟨_, rfl, _, rfl, y, CR, dy, _, rfl, hy, D.cl, D.n_word, by show 0 < 1000; decide, ?_⟩
  refine ⟨_, rfl, _, rfl, y, CR, dy, _, rfl, upd_same, D.cl, D.n_column, Nat.lt_of_le_of_lt (put_le (Nat.le_refl 0)) (by decide), ?_⟩
  rw [upd_upd]
  refine ⟨_, rfl, tl, _, rfl, SqT.of (by rw [upd_ne ty]; exact htl), rfl, _, _, rfl, _, rfl, y, CR, dy, _, rfl, upd_same, D.cl, D.n_tree, Nat.lt_of_le_of_lt (put_le (put_le (Nat.le_refl 0))) (by decide), ?_⟩
  rw [upd_upd]
  refine ⟨_, _, rfl, _, rfl, y, CR, dy, _, rfl, upd_same, D.cl, D.n_sited, Nat.lt_of_le_of_lt (put_le (put_le (put_le (Nat.le_refl 0)))) (by decide), ?_⟩
  rw [upd_upd]
  refine ⟨rfl, _, rfl, _, rfl, y, CR, dy, _, rfl, upd_same, D.cl, D.n_words, Nat.lt_of_le_of_lt (put_le (put_le (put_le (put_le (Nat.le_refl 0))))) (by decide), ?_⟩
  rw [upd_upd]
  refine ⟨_, rfl, _, rfl, y, CR, dy, _, rfl, upd_same, D.cl, D.n_names, Nat.lt_of_le_of_lt (put_le (put_le (put_le (put_le (put_le (Nat.le_refl 0)))))) (by decide), ?_⟩
  rw [upd_upd]
  exact q _ (Kp.put hy rfl (by simp)) upd_same
theorem ok_read_by (n : Nat) (hn : 2 ≤ n) (F : L2.Fun K "read_by" "read_by" s_read_by f fd) (T : Nms mg) (Z : Cns K w mg dD dG dS) (D : PC K C) (c_wrong_sign : ClO prg w K mg base CX0 1 "wrong_sign" spWrong []) (c_row_words : ClO prg w K mg base CX0 2 "row_words" spWords []) (c_RowParser : ClI prg w K mg base 1 "RowParser" C (spInit C)) (c_ReadRow : ClI prg w K mg base 1 "ReadRow" CR (spRInit CR))
    (c_whole_sum : ClM prg w K mg base n C "whole_sum" (spWhole C 12) []) (c_any_row : ClM prg w K mg base n C "any_row" (spAnyRow C 12) []) (c_column_behind : ClO prg w K mg base CX0 1 "column_behind" spNo []) : FnOk prg w K mg base CX0 (n + 1) f fd ["row", "is_sum"] (spReadBy CR) := by
  have S := fs_read_by
  refine F.ok S (fun vs H Q E h => by obtain ⟨x, _, _, rfl, _⟩ := h; rfl) fun cdv A outer s H vs Q E hr hsp => ?_
  obtain ⟨x, b, wh, rfl, hb, hx, q⟩ := hsp
  refine ⟨_, (pss_cons (ps_set (i := 2) S.nd rfl (Or.inl rfl) (pe_clo c_wrong_sign hr (by omega) rfl (pa_cons (pv 0) pa_nil)))
    (pss_cons (ps_if (pt_cmpR op_notN (pv 2) pe_non (nomark _)) (pss_one (ps_ret (pe_mk c_ReadRow hr (by omega) rfl (pa_cons (pe_gS rfl Z.c_SIGN) (pa_cons (pv 2) (pa_cons (pe_tup (pa_cons pe_non (pa_cons pe_non pa_nil))) (pa_cons (pe_lst pa_nil) (pa_cons (pe_lst pa_nil) pa_nil)))))))) pss_nil)
    (pss_cons (ps_set (i := 3) S.nd rfl (Or.inl rfl) (pe_clo c_row_words hr (by omega) rfl (pa_cons (pv 0) pa_nil)))
    (pss_cons (ps_set (i := 4) S.nd rfl (Or.inl rfl) (pe_mk c_RowParser hr (by omega) rfl (pa_cons (pv 3) pa_nil)))
    (pss_cons (ps_if (pt_val (pv 1)) (pss_cons (ps_set (i := 5) S.nd rfl (Or.inl rfl) (pe_clm0 c_whole_sum D.cl hr (Nat.le_refl _) (pv 4)))
    (pss_one (ps_set (i := 6) S.nd rfl (Or.inl rfl) (pe_ifExp (pt_cmpR op_isN (pv 5) pe_non (nomark _)) pe_non (pe_tup (pa_cons (pe_ix ix_tup (pv 5) pe_int (fun _ _ => rfl)) (pa_cons (pv 5) pa_nil))))))) (pss_one (ps_set (i := 6) S.nd rfl (Or.inl rfl) (pe_clm0 c_any_row D.cl hr (Nat.le_refl _) (pv 4)))))
    (pss_cons (ps_if (pt_cmpR op_isN (pv 6) pe_non (nomark _)) (pss_one (ps_ret (pe_mk c_ReadRow hr (by omega) rfl (pa_cons (pe_gS rfl Z.c_FORM) (pa_cons (pe_clo c_column_behind hr (by omega) rfl (pa_cons (pv 3) (pa_cons (pe_fld (pv 4) rfl) (pa_cons (pe_callB call_len_str (by rfl) T.n_len (by decide +kernel) (pa_cons (pv 0) pa_nil)) pa_nil)))) (pa_cons (pe_tup (pa_cons pe_non (pa_cons pe_non pa_nil))) (pa_cons (pv 3) (pa_cons (pe_lst pa_nil) pa_nil)))))))) pss_nil)
    (pss_cons (ps_if (pt_not (pt_val (pe_fld (pv 4) rfl))) (pss_one (ps_ret (pe_mk c_ReadRow hr (by omega) rfl (pa_cons (pe_gS rfl Z.c_FORM) (pa_cons pe_non (pa_cons (pe_tup (pa_cons pe_non (pa_cons pe_non pa_nil))) (pa_cons (pv 3) (pa_cons (pe_lst pa_nil) pa_nil)))))))) pss_nil)
    (pss_one (ps_ret (pe_mk c_ReadRow hr (by omega) rfl (pa_cons pe_non (pa_cons pe_non (pa_cons (pv 6) (pa_cons (pv 3) (pa_cons (pe_fld (pv 4) rfl) pa_nil))))))))))))))), ?_⟩
  obtain ⟨ws, dd, hsp, hW, hdd⟩ := hx.ex
  have hlen := hx.len
  refine ⟨_, rfl, x, rfl, by omega, hx.chr, fun H1 k1 => ?_⟩
  refine ⟨_, rfl, rfl, _, rfl, iF (by rfl) ?_⟩
  refine ⟨_, rfl, x, ws, rfl, by omega, hsp, fun H2 wl ts k2 n2 hwl hws => ?_⟩
  have hxl : x.cps.toList.length = x.length := by show _ = x.cps.size; simp
  have hwl0 : ws.length ≤ 100000 := Nat.le_trans (spd_len hsp) (by omega)
  refine ⟨_, rfl, fun y dy ny ndy dyn => ?_⟩
  have k3 : Kp [] H2 (upd (upd H2 dy (.own y)) y (.ins C dy [])) := (Kp.new ndy).trans (Kp.new (by rw [upd_ne (Ne.symm dyn)]; exact ny))
  refine ⟨y, dy, wl, ts, ws, rfl, upd_same, k3.lst hwl (by simp), hws.kp k3, hwl0, fun H4 nl k4 nnl hp4 => ⟨rfl, ?_⟩⟩
  have k24 : Kp [] H2 H4 := ((Kp.of k3).trans k4).drop ny
  have k04 : Kp [] H H4 := (k1.trans k2).trans k24
  have hwl4 := k24.lst hwl (by simp)
  have hnl0 : H nl = none := by
    cases e : H nl with
    | none => rfl
    | some o =>
      have z := ((k1.trans k2).trans k3).chg e (by simp)
      rw [nnl] at z
      cases z
  have hy0 : H y = none := by
    cases e : H y with
    | none => rfl
    | some o =>
      have z := (k1.trans k2).chg e (by simp)
      rw [ny] at z
      cases z
  -- behind the reading
  have fin : ∀ (H5 : Hp) (o5 : Option V) (r : Addr) (v sv : V) (a' pl' k' : Nat), Kp [y, nl] H4 H5 → PsAt C y wl nl H5 ws a' 0 pl' k' → H5 r = some (.tup [v, sv]) → WhAt H5 wh v →
      tSeq (tIfS (tTest (tOp (fun x y H Q => y = .non ∧ Q (.bl (decide (x = .non))) H) (tVar 6) (tC .non))) (tRet (tMake CR (spRInit CR) [] E0 (tCons (tC (.str "form")) (tCons (tCall spNo [] E0 (tCons (tVar 3) (tCons (tFld K (tVar 4) "at") (tCons (tCB (fun xs H Q => ∃ z, xs = [.str z] ∧ z.length ≤ sizeLine ∧ Q (.int z.length) H) (tCons (tVar 0) tNil)) tNil)))) (tCons (tTup (tCons (tC .non) (tCons (tC .non) tNil))) (tCons (tVar 3) (tCons (tLst tNil) tNil))))))) tNext)
        (tSeq (tIfS (tNot (tB (tFld K (tVar 4) "is_bound"))) (tRet (tMake CR (spRInit CR) [] E0 (tCons (tC (.str "form")) (tCons (tC .non) (tCons (tTup (tCons (tC .non) (tCons (tC .non) tNil))) (tCons (tVar 3) (tCons (tLst tNil) tNil))))))) tNext)
        (tRet (tMake CR (spRInit CR) [] E0 (tCons (tC .non) (tCons (tC .non) (tCons (tVar 6) (tCons (tVar 3) (tCons (tFld K (tVar 4) "names") tNil))))))))
        { nx := fun _ H' => Q .non H', rt := Q } [some (.str x), some (.bl b), some .non, some (.ref wl), some (.ref y), o5, some (.ref r)] H5 := by
    intro H5 o5 r v sv a' pl' k' k5 hp5 hr5 hv5
    obtain ⟨dx5, g5⟩ := hp5.atp
    refine ⟨_, rfl, rfl, _, rfl, iF (by rfl) ⟨_, rfl, y, C, dx5, _, .bl true, rfl, g5, D.cl, D.n_is_bound, rfl, true, rfl, iteF ?_⟩⟩
    refine ⟨_, rfl, _, rfl, _, rfl, y, C, dx5, _, .ref nl, rfl, g5, D.cl, D.n_names, rfl, fun y2 dy2 ny2 ndy2 dyn2 => ?_⟩
    have k6 : Kp [] H5 (upd (upd H5 dy2 (.own y2)) y2 (.ins CR dy2 [])) := (Kp.new ndy2).trans (Kp.new (by rw [upd_ne (Ne.symm dyn2)]; exact ny2))
    refine ⟨y2, dy2, r, .non, .non, v, sv, .ref wl, .ref nl, rfl, upd_same, k6.tup hr5, fun H7 k7 hy7 => ⟨rfl, ?_⟩⟩
    have k57 : Kp [] H5 H7 := ((Kp.of k6).trans k7).drop ny2
    have k07 : Kp [y, nl] H H7 := ((Kp.of k04).trans k5).trans (Kp.of k57)
    refine q H7 y2 dy2 v sv _ _ ?_ hy7 (hv5.kp k57)
    exact (k07.drop hy0).drop hnl0
  refine ⟨_, rfl, b, rfl, ?_⟩
  cases wh with
  | sum t =>
    have eb : b = true := hb
    subst eb
    obtain ⟨hD, hsz⟩ := hW
    obtain ⟨dx4, g4⟩ := hp4.atp
    refine iteT ⟨_, rfl, y, dx4, _, rfl, g4, rfl, y, wl, nl, ws, 0, dd, t, rfl, hp4, hD, hdd, hdd, hsz, fun H5 r5 k' k5 hp5 hr5 => ?_⟩
    obtain ⟨u, b5, e5, tp5, hr5', hu5⟩ := hr5
    refine ⟨_, rfl, rfl, _, rfl, iF (by rfl) ⟨_, rfl, r5, _, 0, u, rfl, rfl, SqT.of hr5', rfl, _, rfl, by show 2 ≤ sizeLine; decide, fun r6 nr6 => ?_⟩⟩
    have k6 : Kp [] H5 (upd H5 r6 (.tup [u, .ref r5])) := Kp.new nr6
    exact fin _ _ r6 u (.ref r5) _ _ _ (k5.trans k6.of) (hp5.kp k6 (by simp) (by simp) (by simp)) upd_same (hu5.kp k6)
  | row rw' =>
    have eb : b = false := hb
    subst eb
    obtain ⟨dx4, g4⟩ := hp4.atp
    refine iteF ⟨_, rfl, y, dx4, _, rfl, g4, rfl, y, wl, nl, ws, 0, dd, rw', rfl, hp4, hW, hdd, hdd, fun H5 r5 x5 s5 a5 pl5 k5' k5 hp5 hr5 hx5 => ?_⟩
    exact fin H5 _ r5 x5 s5 _ _ _ k5 hp5 hr5 hx5
theorem ok_row_by (n : Nat) (F : L2.Fun K "row_by" "row_by" s_row_by f fd) (c_read_by : ClO prg w K mg base CX0 n "read_by" (spReadBy CR) []) : FnOk prg w K mg base CX0 (n + 1) f fd ["row"] (spBy CR false) := by
  have S := fs_row_by
  refine F.ok S (fun vs H Q E h => by obtain ⟨x, _, rfl, _⟩ := h; rfl) fun cdv A outer s H vs Q E hr hsp => ?_
  obtain ⟨x, wh, rfl, hb, hx, q⟩ := hsp
  exact ⟨_, (pss_one (ps_ret (pe_clo c_read_by hr (Nat.le_refl _) rfl (pa_cons (pv 0) (pa_cons pe_bl pa_nil))))), _, rfl, x, false, wh, rfl, hb, hx, q⟩
theorem ok_sum_by (n : Nat) (F : L2.Fun K "sum_by" "sum_by" s_sum_by f fd) (c_read_by : ClO prg w K mg base CX0 n "read_by" (spReadBy CR) []) : FnOk prg w K mg base CX0 (n + 1) f fd ["text"] (spBy CR true) := by
  have S := fs_sum_by
  refine F.ok S (fun vs H Q E h => by obtain ⟨x, _, rfl, _⟩ := h; rfl) fun cdv A outer s H vs Q E hr hsp => ?_
  obtain ⟨x, wh, rfl, hb, hx, q⟩ := hsp
  exact ⟨_, (pss_one (ps_ret (pe_clo c_read_by hr (Nat.le_refl _) rfl (pa_cons (pv 0) (pa_cons pe_bl pa_nil))))), _, rfl, x, true, wh, rfl, hb, hx, q⟩
theorem ok_check_text (F : L2.Fun K "check_text" "check_text" s_check_text f fd) (c_is_string : ClO prg w K mg base CX0 1 "is_string" spStrT []) : FnOk prg w K mg base CX0 2 f fd ["value"] (fun vs H Q _ => ∃ x : Str, vs = [.str x] ∧ Q .non H) := by
  have S := fs_check_text
  refine F.ok S (fun vs H Q E h => by obtain ⟨x, rfl, _⟩ := h; rfl) fun cdv A outer s H vs Q E hr hsp => ?_
  obtain ⟨x, rfl, q⟩ := hsp
  exact ⟨_, (pss_one (ps_if (pt_not (pt_val (pe_clo c_is_string hr (by decide) rfl (pa_cons (pv 0) pa_nil)))) (pss_one ps_never) pss_nil)), _, rfl, x, rfl, true, rfl, iteF q⟩
theorem ok_own_tree (F : L2.Fun K "own_tree" "own_tree" s_own_tree f fd) (D : RC K CR) : FnOk prg w K mg base CX0 1 f fd ["read"] (spOwn CR) := by
  have S := fs_own_tree
  refine F.ok S (fun vs H Q E h => by obtain ⟨x, _, _, _, _, _, rfl, _⟩ := h; rfl) fun cdv A outer s H vs Q E hr hsp => ?_
  obtain ⟨y, dy, v, s', e, g, rfl, hy, q⟩ := hsp
  rw [rfs_eq] at hy
  exact ⟨_, (pss_cons (ps_if (pt_cmpR op_notN (pe_fld (pv 0) rfl) pe_non (nomark _)) (pss_one ps_never) pss_nil) (pss_one (ps_ret (pe_fld (pv 0) rfl)))), _, rfl, y, CR, dy, _, .non, rfl, hy, D.cl, D.n_word, rfl, rfl, _, rfl, iF (by rfl) ⟨_, rfl, y, CR, dy, _, v, rfl, hy, D.cl, D.n_tree, rfl, q⟩⟩
theorem ok_read_row (n : Nat) (hn : 2 ≤ n) (F : L2.Fun K "read_row" "read_row" s_read_row f fd) (c_check_text : ClO prg w K mg base CX0 2 "check_text" (fun vs H Q _ => ∃ x : Str, vs = [.str x] ∧ Q .non H) []) (c_own_tree : ClO prg w K mg base CX0 1 "own_tree" (spOwn CR) []) (c_row_by : ClO prg w K mg base CX0 n "row_by" (spBy CR false) []) : FnOk prg w K mg base CX0 (n + 1) f fd ["text"] (spRead false) := by
  have S := fs_read_row
  refine F.ok S (fun vs H Q E h => by obtain ⟨x, _, rfl, _⟩ := h; rfl) fun cdv A outer s H vs Q E hr hsp => ?_
  obtain ⟨x, wh, rfl, hb, hx, q⟩ := hsp
  exact ⟨_, (pss_cons (ps_expr (pe_clo c_check_text hr (by omega) rfl (pa_cons (pv 0) pa_nil))) (pss_one (ps_ret (pe_clo c_own_tree hr (by omega) rfl (pa_cons (pe_clo c_row_by hr (Nat.le_refl _) rfl (pa_cons (pv 0) pa_nil)) pa_nil))))), _, rfl, x, rfl, _, rfl, x, wh, rfl, hb, hx, fun H' y dy v s' e g k hy hv => ⟨y, dy, v, s', e, g, rfl, hy, q H' v k hv⟩⟩
theorem ok_read_tree (n : Nat) (hn : 2 ≤ n) (F : L2.Fun K "read_tree" "read_tree" s_read_tree f fd) (c_check_text : ClO prg w K mg base CX0 2 "check_text" (fun vs H Q _ => ∃ x : Str, vs = [.str x] ∧ Q .non H) []) (c_own_tree : ClO prg w K mg base CX0 1 "own_tree" (spOwn CR) []) (c_sum_by : ClO prg w K mg base CX0 n "sum_by" (spBy CR true) []) : FnOk prg w K mg base CX0 (n + 1) f fd ["text"] (spRead true) := by
  have S := fs_read_tree
  refine F.ok S (fun vs H Q E h => by obtain ⟨x, _, rfl, _⟩ := h; rfl) fun cdv A outer s H vs Q E hr hsp => ?_
  obtain ⟨x, wh, rfl, hb, hx, q⟩ := hsp
  exact ⟨_, (pss_cons (ps_expr (pe_clo c_check_text hr (by omega) rfl (pa_cons (pv 0) pa_nil))) (pss_one (ps_ret (pe_clo c_own_tree hr (by omega) rfl (pa_cons (pe_clo c_sum_by hr (Nat.le_refl _) rfl (pa_cons (pv 0) pa_nil)) pa_nil))))), _, rfl, x, rfl, _, rfl, x, wh, rfl, hb, hx, fun H' y dy v s' e g k hy hv => ⟨y, dy, v, s', e, g, rfl, hy, q H' v k hv⟩⟩
theorem ok_is_tree (n : Nat) (hn : 30 ≤ n) (F : L2.Fun K "is_tree" "is_tree" s_is_tree f fd) (D : RC K CR) (c_has_tree_form : ClO prg w K mg base CX0 6 "has_tree_form" spForm []) (c_are_same : ClO prg w K mg base CX0 25 "are_same" (spSame 24) []) (c_sum_by : ClO prg w K mg base CX0 n "sum_by" (spBy CR true) []) (c_sum_text : ClO prg w K mg base CX0 16 "sum_text" spSumT []) : FnOk prg w K mg base CX0 (n + 1) f fd ["value"] spIsTree := by
  have S := fs_is_tree
  refine F.ok S (fun vs H Q E h => by obtain ⟨x, _, rfl, _⟩ := h; rfl) fun cdv A outer s H vs Q E hr hsp => ?_
  obtain ⟨v, t, rfl, ht, G, q⟩ := hsp
  refine ⟨_, (pss_one (ps_ret (pe_and (pe_clo c_has_tree_form hr (by omega) rfl (pa_cons (pv 0) pa_nil)) (pe_one (pe_clo c_are_same hr (by omega) rfl (pa_cons (pe_fld (pe_clo c_sum_by hr (Nat.le_refl _) rfl (pa_cons (pe_clo c_sum_text hr (by omega) rfl (pa_cons (pv 0) pa_nil)) pa_nil)) rfl) (pa_cons (pv 0) pa_nil))))))), ?_⟩
  refine ⟨_, rfl, v, t, rfl, ht, G.ok, G.sz, fun H1 k1 => ⟨true, rfl, iteT ?_⟩⟩
  refine ⟨_, rfl, v, t, rfl, ht.kp k1, G.ok, G.ht, G.sz, fun H2 k2 => ?_⟩
  refine ⟨_, .sum t, rfl, rfl, G.tx, fun H3 y dy u s' e g k3 hy hu => ?_⟩
  rw [rfs_eq] at hy
  refine ⟨y, CR, dy, _, u, rfl, hy, D.cl, D.n_tree, rfl, _, rfl, u, v, rfl, TrAt.same hu (((ht.kp k1).kp k2).kp k3) (by have := G.ht; show 2 * t.ht + 1 ≤ 23; omega), fun H4 k4 => ?_⟩
  exact q H4 (((k1.trans k2).trans k3).trans k4)
theorem ok_tree_text (n : Nat) (hn : 30 ≤ n) (F : L2.Fun K "tree_text" "tree_text" s_tree_text f fd) (c_is_tree : ClO prg w K mg base CX0 n "is_tree" spIsTree []) (c_sum_text : ClO prg w K mg base CX0 16 "sum_text" spSumT []) : FnOk prg w K mg base CX0 (n + 1) f fd ["tree"] spTreeT := by
  have S := fs_tree_text
  refine F.ok S (fun vs H Q E h => by obtain ⟨x, _, rfl, _⟩ := h; rfl) fun cdv A outer s H vs Q E hr hsp => ?_
  obtain ⟨v, t, rfl, ht, G, q⟩ := hsp
  refine ⟨_, (pss_cons (ps_if (pt_not (pt_val (pe_clo c_is_tree hr (Nat.le_refl _) rfl (pa_cons (pv 0) pa_nil)))) (pss_one ps_never) pss_nil) (pss_one (ps_ret (pe_clo c_sum_text hr (by omega) rfl (pa_cons (pv 0) pa_nil))))), ?_⟩
  exact ⟨_, rfl, v, t, rfl, ht, G, fun H1 k1 => ⟨true, rfl, iteF ⟨_, rfl, v, t, rfl, ht.kp k1, G.ok, G.ht, G.sz, fun H2 k2 => q H2 (k1.trans k2)⟩⟩⟩
end
end K2
set_option maxHeartbeats 4000000
/-! P16: plain laws: words put together, blanks between; what is printed is read. -/
namespace K2
open PySem PySem.Spec L2 DL
open PyProof.Rows hiding St wpAt wpAt_bind wpAt_stack wpAt_mono
def signs : List Str := ["+", "-", "*", "/", "^", "(", ")", ",", "="]
def wds (ps : List Str) : List Str := ps.filter fun p => !decide (p = " ")
/-- pieces of a text: no two names, no two numbers beside one another -/
inductive Alt : List Str → Prop
  | nil : Alt []
  | blank {ps : List Str} : Alt ps → Alt ((" " : Str) :: ps)
  | sign {x : Str} {ps : List Str} : x ∈ signs → Alt ps → Alt (x :: ps)
  | name {x : Str} {ps : List Str} : isNm x = true → (∀ y, ps.head? = some y → isNm y = false) → Alt ps → Alt (x :: ps)
  | num {x : Str} {ps : List Str} : isNu x = true → (∀ y, ps.head? = some y → isNu y = false) → Alt ps → Alt (x :: ps)
theorem run_cons {x z : Str} (h : runB x z = true) : ∃ c w, x.cps.toList = c :: w ∧ ∀ d ∈ c :: w, d ∈ z.cps.toList := by
  unfold runB at h
  obtain ⟨h2, h3⟩ := Bool.and_eq_true_iff.mp h
  have hne : x ≠ Str.empty := by simpa using h2
  obtain ⟨⟨cs⟩⟩ := x
  cases cs with
  | nil => exact absurd rfl hne
  | cons c cs => exact ⟨c, cs, rfl, fun d m => of_decide_eq_true (List.all_eq_true.mp h3 d m)⟩
theorem srt_l {c : Nat} (h : c ∈ letters.cps.toList) : srt c = "name" := by unfold srt; rw [if_pos h]
theorem srt_f {c : Nat} (h : c ∈ figures.cps.toList) : srt c = "number" := by
  unfold srt
  rw [if_neg (fun z => letters_figures c z h), if_pos h]
theorem ok_l : ∀ c ∈ letters.cps.toList, okC c = true := by decide +kernel
theorem ok_f : ∀ c ∈ figures.cps.toList, okC c = true := by decide +kernel
theorem sign_one {x : Str} (h : x ∈ signs) : ∃ c, x = ⟨#[c]⟩ ∧ srt c = "sign" ∧ c ≠ 32 ∧ okC c = true ∧ isNm x = false ∧ isNu x = false ∧ x ≠ " " := by
  simp only [signs, List.mem_cons, List.not_mem_nil, or_false] at h
  rcases h with rfl | rfl | rfl | rfl | rfl | rfl | rfl | rfl | rfl
  · exact ⟨43, by decide +kernel, by decide +kernel, by decide, by decide +kernel, by decide +kernel, by decide +kernel, by decide +kernel⟩
  · exact ⟨45, by decide +kernel, by decide +kernel, by decide, by decide +kernel, by decide +kernel, by decide +kernel, by decide +kernel⟩
  · exact ⟨42, by decide +kernel, by decide +kernel, by decide, by decide +kernel, by decide +kernel, by decide +kernel, by decide +kernel⟩
  · exact ⟨47, by decide +kernel, by decide +kernel, by decide, by decide +kernel, by decide +kernel, by decide +kernel, by decide +kernel⟩
  · exact ⟨94, by decide +kernel, by decide +kernel, by decide, by decide +kernel, by decide +kernel, by decide +kernel, by decide +kernel⟩
  · exact ⟨40, by decide +kernel, by decide +kernel, by decide, by decide +kernel, by decide +kernel, by decide +kernel, by decide +kernel⟩
  · exact ⟨41, by decide +kernel, by decide +kernel, by decide, by decide +kernel, by decide +kernel, by decide +kernel, by decide +kernel⟩
  · exact ⟨44, by decide +kernel, by decide +kernel, by decide, by decide +kernel, by decide +kernel, by decide +kernel, by decide +kernel⟩
  · exact ⟨61, by decide +kernel, by decide +kernel, by decide, by decide +kernel, by decide +kernel, by decide +kernel, by decide +kernel⟩
theorem blank_one : (" " : Str) = ⟨#[32]⟩ := by decide +kernel
theorem run_ne_blank {x z : Str} (h : runB x z = true) (n : runB " " z = false) : x ≠ " " := fun e => by
  rw [e, n] at h
  cases h
theorem nm_blank : runB " " letters = false := by decide +kernel
theorem nu_blank : runB " " figures = false := by decide +kernel
theorem wds_keep {x : Str} {ps : List Str} (h : x ≠ " ") : wds (x :: ps) = x :: wds ps := by
  unfold wds
  rw [List.filter_cons_of_pos (by simp [h])]
theorem wds_blank {ps : List Str} : wds ((" " : Str) :: ps) = wds ps := by
  unfold wds
  rw [List.filter_cons_of_neg (by simp)]
theorem wds_app (a b : List Str) : wds (a ++ b) = wds a ++ wds b := List.filter_append ..
/-- the first sign of pieces -/
theorem Alt.first {ps : List Str} (h : Alt ps) : ∀ d, (cat ps).cps.toList.head? = some d → (∃ y, ps.head? = some y ∧ ((srt d = "name" → isNm y = true) ∧ (srt d = "number" → isNu y = true))) := by
  intro d hd
  have e1 : ¬ ("sign" : Str) = "name" := by decide +kernel
  have e2 : ¬ ("sign" : Str) = "number" := by decide +kernel
  have e3 : ¬ ("name" : Str) = "number" := by decide +kernel
  have e4 : ¬ ("number" : Str) = "name" := by decide +kernel
  cases h with
  | nil => simp [cat] at hd
  | blank h =>
    rw [cat_cons, app_cps, blank_one] at hd
    cases hd
    refine ⟨_, rfl, fun z => ?_, fun z => ?_⟩
    · rw [show srt 32 = "sign" by decide +kernel] at z; exact absurd z e1
    · rw [show srt 32 = "sign" by decide +kernel] at z; exact absurd z e2
  | sign hx h =>
    obtain ⟨c, rfl, hs, _⟩ := sign_one hx
    rw [cat_cons, app_cps] at hd
    cases hd
    refine ⟨_, rfl, fun z => ?_, fun z => ?_⟩
    · rw [hs] at z; exact absurd z e1
    · rw [hs] at z; exact absurd z e2
  | name hx _ h =>
    obtain ⟨c, w, e, hm⟩ := run_cons hx
    rw [cat_cons, app_cps, e] at hd
    cases hd
    refine ⟨_, rfl, fun _ => hx, fun z => ?_⟩
    rw [srt_l (hm _ List.mem_cons_self)] at z
    exact absurd z e3
  | num hx _ h =>
    obtain ⟨c, w, e, hm⟩ := run_cons hx
    rw [cat_cons, app_cps, e] at hd
    cases hd
    refine ⟨_, rfl, fun z => ?_, fun _ => hx⟩
    rw [srt_f (hm _ List.mem_cons_self)] at z
    exact absurd z e4
theorem Alt.spd {ps : List Str} (h : Alt ps) : Spd (cat ps).cps.toList (wds ps) := by
  have e1 : ¬ ("name" : Str) = "sign" := by decide +kernel
  have e2 : ¬ ("number" : Str) = "sign" := by decide +kernel
  induction h with
  | nil => exact .nil
  | blank h ih =>
    rw [cat_cons, app_cps, blank_one, ← blank_one, wds_blank, blank_one]
    exact .blank ih
  | @sign x ps hx h ih =>
    obtain ⟨c, rfl, hs, h32, _, _, _, hb⟩ := sign_one hx
    rw [cat_cons, app_cps, wds_keep hb]
    exact .sign hs h32 ih
  | @name x ps hx hn h ih =>
    obtain ⟨c, w, e, hm⟩ := run_cons hx
    have ex : x = ⟨(c :: w).toArray⟩ := str_ext (by rw [e])
    rw [cat_cons, app_cps, wds_keep (run_ne_blank hx nm_blank), e]
    conv => rhs; rw [ex]
    refine .word (by rw [srt_l (hm c List.mem_cons_self)]; exact e1) (fun d m => by rw [srt_l (hm d (List.mem_cons_of_mem _ m)), srt_l (hm c List.mem_cons_self)]) (fun d hd z => ?_) ih
    obtain ⟨y, hy, h1, _⟩ := h.first d hd
    rw [srt_l (hm c List.mem_cons_self)] at z
    have := hn y hy
    rw [h1 z] at this
    cases this
  | @num x ps hx hn h ih =>
    obtain ⟨c, w, e, hm⟩ := run_cons hx
    have ex : x = ⟨(c :: w).toArray⟩ := str_ext (by rw [e])
    rw [cat_cons, app_cps, wds_keep (run_ne_blank hx nu_blank), e]
    conv => rhs; rw [ex]
    refine .word (by rw [srt_f (hm c List.mem_cons_self)]; exact e2) (fun d m => by rw [srt_f (hm d (List.mem_cons_of_mem _ m)), srt_f (hm c List.mem_cons_self)]) (fun d hd z => ?_) ih
    obtain ⟨y, hy, _, h1⟩ := h.first d hd
    rw [srt_f (hm c List.mem_cons_self)] at z
    have := hn y hy
    rw [h1 z] at this
    cases this
theorem Alt.chr {ps : List Str} (h : Alt ps) : ∀ c ∈ (cat ps).cps.toList, okC c = true := by
  induction h with
  | nil => intro c m; simp [cat] at m
  | blank h ih =>
    intro c m
    rw [cat_cons, app_cps] at m
    rcases List.mem_append.mp m with m | m
    · rw [blank_one] at m
      simp only [List.mem_cons, List.not_mem_nil, or_false] at m
      rw [m]
      decide +kernel
    · exact ih c m
  | sign hx h ih =>
    intro c m
    obtain ⟨d, rfl, _, _, hk, _⟩ := sign_one hx
    rw [cat_cons, app_cps] at m
    rcases List.mem_append.mp m with m | m
    · simp only [List.mem_cons, List.not_mem_nil, or_false] at m
      rw [m]
      exact hk
    · exact ih c m
  | name hx _ h ih =>
    intro c m
    obtain ⟨d, w, e, hm⟩ := run_cons hx
    rw [cat_cons, app_cps, e] at m
    rcases List.mem_append.mp m with m | m
    · exact ok_l c (hm c m)
    · exact ih c m
  | num hx _ h ih =>
    intro c m
    obtain ⟨d, w, e, hm⟩ := run_cons hx
    rw [cat_cons, app_cps, e] at m
    rcases List.mem_append.mp m with m | m
    · exact ok_f c (hm c m)
    · exact ih c m
/-- a sign or a blank -/
def Sep (x : Str) : Prop := x ∈ signs ∨ x = " "
theorem Sep.nm {x : Str} (h : Sep x) : isNm x = false := by
  rcases h with h | rfl
  · obtain ⟨c, _, _, _, _, a, _⟩ := sign_one h; exact a
  · decide +kernel
theorem Sep.nu {x : Str} (h : Sep x) : isNu x = false := by
  rcases h with h | rfl
  · obtain ⟨c, _, _, _, _, _, a, _⟩ := sign_one h; exact a
  · decide +kernel
theorem Sep.cons {x : Str} {ps : List Str} (h : Sep x) (a : Alt ps) : Alt (x :: ps) := by
  rcases h with h | rfl
  · exact .sign h a
  · exact .blank a
theorem Alt.app {a : List Str} (ha : Alt a) {s : Str} {b : List Str} (hs : Sep s) (hb : Alt b) : Alt (a ++ s :: b) := by
  have hd : ∀ (ps : List Str) (y : Str) (P : Str → Bool), P s = false → (∀ y, ps.head? = some y → P y = false) → (ps ++ s :: b).head? = some y → P y = false := fun ps y P h1 h2 h3 => by
    cases ps with
    | nil => cases h3; exact h1
    | cons p ps => cases h3; exact h2 _ rfl
  induction ha with
  | nil => exact hs.cons hb
  | blank h ih => exact .blank ih
  | sign hx h ih => exact .sign hx ih
  | name hx hn h ih => exact .name hx (fun y hy => hd _ y isNm hs.nm hn hy) ih
  | num hx hn h ih => exact .num hx (fun y hy => hd _ y isNu hs.nu hn hy) ih
theorem Alt.snoc {a : List Str} (ha : Alt a) {s : Str} (hs : Sep s) : Alt (a ++ [s]) := ha.app hs .nil
/-- a blank is put in -/
theorem Alt.put : ∀ {a b : List Str}, Alt (a ++ b) → Alt (a ++ (" " : Str) :: b)
  | [], b, h => .blank h
  | x :: a, b, h => by
    have hd : ∀ (y : Str) (P : Str → Bool), P " " = false → (∀ y, (a ++ b).head? = some y → P y = false) → (a ++ (" " : Str) :: b).head? = some y → P y = false := fun y P h1 h2 h3 => by
      cases a with
      | nil => cases h3; exact h1
      | cons p a => exact h2 y (by cases h3; rfl)
    rw [List.cons_append] at h ⊢
    generalize hl : x :: (a ++ b) = l at h
    cases h with
    | nil => cases hl
    | blank h => cases hl; exact .blank (Alt.put h)
    | sign hx h => cases hl; exact .sign hx (Alt.put h)
    | name hx hn h => cases hl; exact .name hx (fun y hy => hd y isNm (by decide +kernel) hn hy) (Alt.put h)
    | num hx hn h => cases hl; exact .num hx (fun y hy => hd y isNu (by decide +kernel) hn hy) (Alt.put h)
theorem op_sign (o : Op) : o.s ∈ signs := by cases o <;> decide +kernel
theorem alt_nm {x : Str} (h : nmOk x = true) : Alt [x] := .name (nm_nm h) (fun y hy => by cases hy) .nil
theorem alt_nu {x : Str} (h : nuOk x = true) : Alt [x] := .num (nu_nu h) (fun y hy => by cases hy) .nil
theorem sg (x : Str) (h : x ∈ signs) : Sep x := .inl h
theorem alt_f {f : Str} {a : List Str} (hf : nmOk f = true) (h : Alt a) : Alt ([f, ("(" : Str)] ++ a ++ [(")" : Str)]) := by
  rw [show [f, ("(" : Str)] ++ a ++ [(")" : Str)] = [f] ++ ("(" : Str) :: (a ++ [(")" : Str)]) by simp]
  exact (alt_nm hf).app (sg _ (by decide +kernel)) (h.snoc (sg _ (by decide +kernel)))
theorem Der.alt {l d : Nat} {us : List Str} {t : Tr} (h : Der l d us t) : Alt us := by
  induction h with
  | val h => exact alt_nu h.1
  | nam h => exact alt_nm h
  | par h ih => exact .sign (by decide +kernel) (ih.snoc (sg _ (by decide +kernel)))
  | call1 hf h ih => exact alt_f hf ih
  | @call2 d f us vs t u hf h h' ih ih' =>
    rw [show [f, ("(" : Str)] ++ us ++ [("," : Str)] ++ vs ++ [(")" : Str)] = [f, ("(" : Str)] ++ (us ++ ("," : Str) :: vs) ++ [(")" : Str)] by simp]
    exact alt_f hf (ih.app (sg _ (by decide +kernel)) ih')
  | pow h h1 h2 ih => exact ih.app (sg _ (by decide +kernel)) (alt_nu h2.1)
  | up2 h ih => exact ih
  | bin1 ho h h' ih ih' => exact ih.app (.inl (op_sign _)) ih'
  | up1 h ih => exact ih
  | minus h ih => exact .sign (by decide +kernel) ih
  | bin0 ho h h' ih ih' => exact ih.app (.inl (op_sign _)) ih'
  | up0 h ih => exact ih
theorem Der.no_blank {l d : Nat} {us : List Str} {t : Tr} (h : Der l d us t) : wds us = us := by
  have sgn : ∀ x : Str, x ∈ signs → x ≠ " " := fun x h => by obtain ⟨c, _, _, _, _, _, _, a⟩ := sign_one h; exact a
  have k : ∀ x ∈ us, x ≠ " " := by
    induction h with
    | val h => intro x m; rw [List.mem_singleton] at m; rw [m]; exact run_ne_blank (nu_nu h.1) nu_blank
    | nam h => intro x m; rw [List.mem_singleton] at m; rw [m]; exact run_ne_blank (nm_nm h) nm_blank
    | par h ih =>
      intro x m
      simp only [List.mem_append, List.mem_singleton] at m
      rcases m with (rfl | m) | rfl
      · exact sgn _ (by decide +kernel)
      · exact ih x m
      · exact sgn _ (by decide +kernel)
    | call1 hf h ih =>
      intro x m
      simp only [List.mem_append, List.mem_cons, List.not_mem_nil, or_false] at m
      rcases m with ((rfl | rfl) | m) | rfl
      · exact run_ne_blank (nm_nm hf) nm_blank
      · exact sgn _ (by decide +kernel)
      · exact ih x m
      · exact sgn _ (by decide +kernel)
    | call2 hf h h' ih ih' =>
      intro x m
      simp only [List.mem_append, List.mem_cons, List.not_mem_nil, or_false] at m
      rcases m with ((((rfl | rfl) | m) | rfl) | m) | rfl
      · exact run_ne_blank (nm_nm hf) nm_blank
      · exact sgn _ (by decide +kernel)
      · exact ih x m
      · exact sgn _ (by decide +kernel)
      · exact ih' x m
      · exact sgn _ (by decide +kernel)
    | pow h h1 h2 ih =>
      intro x m
      simp only [List.mem_append, List.mem_cons, List.not_mem_nil, or_false] at m
      rcases m with m | rfl | rfl
      · exact ih x m
      · exact sgn _ (by decide +kernel)
      · exact run_ne_blank (nu_nu h2.1) nu_blank
    | up2 h ih => exact ih
    | bin1 ho h h' ih ih' =>
      intro x m
      simp only [List.mem_append, List.mem_cons] at m
      rcases m with m | rfl | m
      · exact ih x m
      · exact sgn _ (op_sign _)
      · exact ih' x m
    | up1 h ih => exact ih
    | minus h ih =>
      intro x m
      rcases List.mem_cons.mp m with rfl | m
      · exact sgn _ (by decide +kernel)
      · exact ih x m
    | bin0 ho h h' ih ih' =>
      intro x m
      simp only [List.mem_append, List.mem_cons] at m
      rcases m with m | rfl | m
      · exact ih x m
      · exact sgn _ (op_sign _)
      · exact ih' x m
    | up0 h ih => exact ih
  exact List.filter_eq_self.mpr fun x m => by simp [k x m]
/-! ### what is printed -/
theorem Der.mono {l d : Nat} {us : List Str} {t : Tr} (h : Der l d us t) : ∀ {e : Nat}, d ≤ e → Der l e us t := by
  induction h with
  | val h => exact fun _ => .val h
  | nam h => exact fun _ => .nam h
  | par h ih => intro e he; obtain ⟨e, rfl⟩ : ∃ k, e = k + 1 := ⟨e - 1, by omega⟩; exact .par (ih (by omega))
  | call1 hf h ih => intro e he; obtain ⟨e, rfl⟩ : ∃ k, e = k + 1 := ⟨e - 1, by omega⟩; exact .call1 hf (ih (by omega))
  | call2 hf h h' ih ih' => intro e he; obtain ⟨e, rfl⟩ : ∃ k, e = k + 1 := ⟨e - 1, by omega⟩; exact .call2 hf (ih (by omega)) (ih' (by omega))
  | pow h h1 h2 ih => exact fun he => .pow (ih he) h1 h2
  | up2 h ih => exact fun he => .up2 (ih he)
  | bin1 ho h h' ih ih' => exact fun he => .bin1 ho (ih he) (ih' he)
  | up1 h ih => exact fun he => .up1 (ih he)
  | minus h ih => exact fun he => .minus (ih he)
  | bin0 ho h h' ih ih' => exact fun he => .bin0 ho (ih he) (ih' he)
  | up0 h ih => exact fun he => .up0 (ih he)
/-- as little as may be bound -/
theorem Der.down {l d : Nat} {us : List Str} {t : Tr} (h : Der l d us t) (h3 : l ≤ 3) : ∀ {m : Nat}, m ≤ l → Der m d us t := by
  have a : Der 0 d us t ∧ (1 ≤ l → Der 1 d us t) ∧ (2 ≤ l → Der 2 d us t) ∧ (3 ≤ l → Der 3 d us t) := by
    rcases (show l = 0 ∨ l = 1 ∨ l = 2 ∨ l = 3 by omega) with rfl | rfl | rfl | rfl
    · exact ⟨h, fun z => absurd z (by decide), fun z => absurd z (by decide), fun z => absurd z (by decide)⟩
    · exact ⟨.up0 h, fun _ => h, fun z => absurd z (by decide), fun z => absurd z (by decide)⟩
    · exact ⟨.up0 (.up1 h), fun _ => .up1 h, fun _ => h, fun z => absurd z (by decide)⟩
    · exact ⟨.up0 (.up1 (.up2 h)), fun _ => .up1 (.up2 h), fun _ => .up2 h, fun _ => h⟩
  intro m hm
  rcases (show m = 0 ∨ m = 1 ∨ m = 2 ∨ m = 3 by omega) with rfl | rfl | rfl | rfl
  · exact a.1
  · exact a.2.1 hm
  · exact a.2.2.1 hm
  · exact a.2.2.2 hm
theorem Tr.lv_le (t : Tr) : t.lv ≤ 3 := by cases t <;> simp only [Tr.lv] <;> first | omega | (rename_i o _ _; cases o <;> decide)
theorem Op.lv_le (o : Op) : o.lv ≤ 1 := by cases o <;> decide
/-- within brackets if need be: of words -/
theorem Der.wr {t : Tr} {d l : Nat} {us : List Str} (h : Der t.lv d us t) (hl : l ≤ 3) : Der l (d + 1) (wrp t.lv l us) t := by
  unfold wrp
  split
  · rename_i hle
    exact (h.mono (Nat.le_succ d)).down t.lv_le hle
  · exact (Der.par (h.down t.lv_le (Nat.zero_le _))).down (Nat.le_refl 3) hl
theorem wds_wrp (l l' : Nat) (ps : List Str) : wds (wrp l l' ps) = wrp l l' (wds ps) := by
  unfold wrp
  split
  · rfl
  · rw [wds_app, wds_app]
    rfl
theorem alt_wrp (l l' : Nat) {ps : List Str} (h : Alt ps) : Alt (wrp l l' ps) := by
  unfold wrp
  split
  · exact h
  · exact .sign (by decide +kernel) (h.snoc (sg _ (by decide +kernel)))
theorem Tr.alt {t : Tr} (h : t.ok) : Alt t.pr := by
  induction t with
  | val n => exact alt_nu h.1
  | nam x => exact alt_nm h
  | call1 f a ih => exact alt_f h.1 (ih h.2)
  | call2 f a b ih ih2 =>
    show Alt ([f, ("(" : Str)] ++ a.pr ++ [("," : Str), (" " : Str)] ++ b.pr ++ [(")" : Str)])
    rw [show [f, ("(" : Str)] ++ a.pr ++ [("," : Str), (" " : Str)] ++ b.pr ++ [(")" : Str)] = [f, ("(" : Str)] ++ (a.pr ++ ("," : Str) :: ((" " : Str) :: b.pr)) ++ [(")" : Str)] by simp]
    exact alt_f h.1 ((ih h.2.1).app (sg _ (by decide +kernel)) (.blank (ih2 h.2.2)))
  | minus a ih => exact .sign (by decide +kernel) (alt_wrp _ _ (ih h))
  | pow a k ih => exact (alt_wrp _ _ (ih h.1)).app (sg _ (by decide +kernel)) (alt_nu h.2.2.1)
  | bin o a b ih ih2 =>
    show Alt (wrp a.lv o.lv a.pr ++ [(" " : Str), o.s, (" " : Str)] ++ wrp b.lv (o.lv + 1) b.pr)
    rw [show wrp a.lv o.lv a.pr ++ [(" " : Str), o.s, (" " : Str)] ++ wrp b.lv (o.lv + 1) b.pr = wrp a.lv o.lv a.pr ++ (" " : Str) :: (o.s :: ((" " : Str) :: wrp b.lv (o.lv + 1) b.pr)) by simp]
    exact (alt_wrp _ _ (ih h.1)).app (.inr rfl) (.sign (op_sign o) (.blank (alt_wrp _ _ (ih2 h.2))))
theorem wds_nm {x : Str} (h : nmOk x = true) (ps : List Str) : wds (x :: ps) = x :: wds ps := wds_keep (run_ne_blank (nm_nm h) nm_blank)
theorem wds_nu {x : Str} (h : nuOk x = true) (ps : List Str) : wds (x :: ps) = x :: wds ps := wds_keep (run_ne_blank (nu_nu h) nu_blank)
theorem wds_sg {x : Str} (h : x ∈ signs) (ps : List Str) : wds (x :: ps) = x :: wds ps := wds_keep (by obtain ⟨c, _, _, _, _, _, _, a⟩ := sign_one h; exact a)
theorem wds_nil : wds [] = [] := rfl
theorem Tr.der {t : Tr} (h : t.ok) : Der t.lv t.ht (wds t.pr) t := by
  induction t with
  | val n =>
    show Der 3 0 (wds [numT n]) _
    rw [wds_nu h.1, wds_nil]
    exact .val h
  | nam x =>
    show Der 3 0 (wds [x]) _
    rw [wds_nm h, wds_nil]
    exact .nam h
  | call1 f a ih =>
    show Der 3 (a.ht + 1) (wds ([f, ("(" : Str)] ++ a.pr ++ [(")" : Str)])) _
    rw [wds_app, wds_app, wds_nm h.1, wds_sg (by decide +kernel), wds_nil, wds_sg (by decide +kernel), wds_nil]
    exact .call1 h.1 ((ih h.2).down a.lv_le (Nat.zero_le _))
  | call2 f a b ih ih2 =>
    show Der 3 (max a.ht b.ht + 1) (wds ([f, ("(" : Str)] ++ a.pr ++ [("," : Str), (" " : Str)] ++ b.pr ++ [(")" : Str)])) _
    rw [wds_app, wds_app, wds_app, wds_app, wds_nm h.1, wds_sg (show ("(" : Str) ∈ signs by decide +kernel), wds_nil, wds_sg (show ("," : Str) ∈ signs by decide +kernel), wds_blank, wds_nil, wds_sg (show (")" : Str) ∈ signs by decide +kernel), wds_nil]
    exact .call2 h.1 (((ih h.2.1).down a.lv_le (Nat.zero_le _)).mono (Nat.le_max_left _ _)) (((ih2 h.2.2).down b.lv_le (Nat.zero_le _)).mono (Nat.le_max_right _ _))
  | minus a ih =>
    show Der 0 (a.ht + 1) (wds ([("-" : Str)] ++ wrp a.lv 1 a.pr)) _
    rw [wds_app, wds_sg (by decide +kernel), wds_nil, wds_wrp]
    exact .minus ((ih h).wr (by decide))
  | pow a k ih =>
    show Der 2 (a.ht + 1) (wds (wrp a.lv 3 a.pr ++ [("^" : Str), numT k])) _
    rw [wds_app, wds_sg (by decide +kernel), wds_nu h.2.2.1, wds_nil, wds_wrp]
    exact .pow ((ih h.1).wr (by decide)) h.2.1 h.2.2
  | bin o a b ih ih2 =>
    show Der o.lv (max a.ht b.ht + 1) (wds (wrp a.lv o.lv a.pr ++ [(" " : Str), o.s, (" " : Str)] ++ wrp b.lv (o.lv + 1) b.pr)) _
    rw [wds_app, wds_app, wds_blank, wds_sg (op_sign o), wds_blank, wds_nil, wds_wrp, wds_wrp]
    have ho := o.lv_le
    have ha := ((ih h.1).wr (l := o.lv) (by omega)).mono (show a.ht + 1 ≤ max a.ht b.ht + 1 by omega)
    have hb := ((ih2 h.2).wr (l := o.lv + 1) (by omega)).mono (show b.ht + 1 ≤ max a.ht b.ht + 1 by omega)
    rw [List.append_assoc]
    rcases (show o.lv = 0 ∨ o.lv = 1 by omega) with e | e
    · rw [e] at ha hb ⊢
      exact .bin0 e ha hb
    · rw [e] at ha hb ⊢
      exact .bin1 e ha hb
theorem good_of {t : Tr} (h : t.ok) (hh : t.ht ≤ 11) (hz : t.sz ≤ 40) : Good t :=
  ⟨h, hh, hz, by have := Tr.pr_len h; omega, (Tr.alt h).chr, wds t.pr, t.ht, (Tr.alt h).spd, ⟨(Tr.der h).down t.lv_le (Nat.zero_le _), hz⟩, by omega⟩
end K2
set_option maxHeartbeats 4000000
/-! P17: the law's draws. -/
namespace K2
open PySem PySem.Spec L2 DL
open PySem.W (Frag keepIn findIn typeIn subIn kitOne kitAny excIn)
open PyProof.Rows hiding St wpAt wpAt_bind wpAt_stack wpAt_mono
/-- at a: the draws, n of them taken -/
def Dr (H : Hp) (a : Addr) (n : Nat) : Prop := ∃ f s : Int, H a = some (.lst [.int f, .int s, .int n]) ∧ 0 ≤ s ∧ s < 2147483549
/-- the draws behind, all else is kept -/
theorem Dr.kd {H : Hp} {a : Addr} {n : Nat} (h : Dr H a n) (f s : Int) (m : Nat) : Kp [a] H (upd H a (.lst [.int f, .int s, .int m])) := by
  obtain ⟨f', s', e, _⟩ := h
  exact Kp.put e rfl (by simp)
theorem Dr.new {H : Hp} {a : Addr} {f s : Int} {m : Nat} (h0 : 0 ≤ s) (h1 : s < 2147483549) : Dr (upd H a (.lst [.int f, .int s, .int m])) a m := ⟨f, s, upd_same, h0, h1⟩
theorem Dr.kp {H H' : Hp} {a : Addr} {n : Nat} {D : List Addr} (h : Dr H a n) (k : Kp D H H') (m : a ∉ D) : Dr H' a n := by
  obtain ⟨f, s, e, h0, h1⟩ := h
  exact ⟨f, s, k.lst e m, h0, h1⟩
def spTake : Sp := fun vs H Q _ => ∃ (a : Addr) (m : Int) (n : Nat), vs = [.ref a, .int m] ∧ Dr H a n ∧ n ≤ 100000 ∧ 0 < m ∧ m < 1000000 ∧
  ∀ (r : Nat) (H' : Hp), (r : Int) < m → Kp [a] H H' → Dr H' a (n + 1) → Q (.int (r : Nat)) H'
section
variable {w : World} {K : PySem.W.Frag} {mg : Str → Option Value} {base : Heap} {f : Addr} {fd : FuncData}
theorem ok_take (F : L2.Fun K "_law_take" "_law_take" s_law_take f fd) (T : K2.Nms mg) : FnG prg w K mg base 1 f fd ["draws", "many"] spTake := by
  have S := fs_law_take
  refine fnG_mk F S (fun vs H Q E h => by obtain ⟨a, m, n, rfl, _⟩ := h; rfl) fun cdv A outer s H vs Q E hr gd hsp => ?_
  obtain ⟨a, m, n, rfl, hD, hn, hm0, hm1, hq'⟩ := hsp
  have hq : ∀ r f s : Int, 0 ≤ r → r < m → 0 ≤ s → s < 2147483549 → Q (.int r) (upd H a (.lst [.int f, .int s, .int (n + 1 : Nat)])) := fun r f s r0 r1 s0 s1 => by
    obtain ⟨j, rfl⟩ := Int.eq_ofNat_of_zero_le r0
    exact hq' j _ r1 (hD.kd f s _) (Dr.new s0 s1)
  obtain ⟨fg, sd, hd, hs0, hs1⟩ := hD
  refine ⟨_, (pss_cons (ps_asg (pv 0) (pg_unl rfl (pgs_cons (pg_name (i := 2) S.nd rfl (Or.inl rfl)) (pgs_cons (pg_name (i := 3) S.nd rfl (Or.inl rfl)) (pgs_cons (pg_name (i := 4) S.nd rfl (Or.inl rfl)) pgs_nil)))))
    (pss_cons (ps_asg (pe_op op_modN (pe_callTy call_int1 (by rfl) T.n_int (by decide +kernel) (pa_cons (pe_op op_add (pe_op op_add (pe_op op_mul (pv 3) (pe_op op_add pe_int (pe_op op_mul pe_int (pv 4)))) (pe_op op_mul pe_int (pv 4))) pe_int) pa_nil)) pe_int) (pg_sub (pv 0) pe_int set_list))
    (pss_cons (ps_asg (pe_op op_add (pv 4) pe_int) (pg_sub (pv 0) pe_int set_list))
    (pss_cons (ps_if (pt_cmpR op_gt (pv 2) pe_int (nomark _)) (pss_cons (ps_asg (pe_op op_fdivN (pe_callTy call_int1 (by rfl) T.n_int (by decide +kernel) (pa_cons (pv 2) pa_nil)) (pv 1)) (pg_sub (pv 0) pe_int set_list))
    (pss_one (ps_ret (pe_op op_modN (pe_callTy call_int1 (by rfl) T.n_int (by decide +kernel) (pa_cons (pv 2) pa_nil)) (pv 1))))) pss_nil)
    (pss_one (ps_ret (pe_op op_modN (pe_callTy call_int1 (by rfl) T.n_int (by decide +kernel) (pa_cons (pe_op op_fdivN (pe_ix ix_list (pv 0) pe_int (fun _ _ => rfl)) pe_int) pa_nil)) (pv 1)))))))), ?_⟩
  refine ⟨_, rfl, a, _, rfl, SqL.of hd, rfl, _, _, rfl, _, _, rfl, _, _, rfl, rfl, ?_⟩
  -- draws[1] = ..
  refine ⟨_, rfl, _, rfl, _, _, rfl, rfl, .inl ⟨by decide, by decide⟩, _, _, rfl, rfl, _, _, rfl, rfl, .inl ⟨by omega, by omega⟩, ?_⟩
  refine ⟨_, rfl, _, _, rfl, rfl, .inl ⟨by decide, by decide⟩, _, _, rfl, rfl, _, _, rfl, rfl, .inl ⟨_, rfl, _, _, rfl, rfl, (by show (2147483549 : Int) ≠ 0; decide), ?_⟩⟩
  refine ⟨_, rfl, a, _, _, 1, rfl, rfl, hd, rfl, ?_⟩
  -- draws[2] = turn + 1
  refine ⟨_, rfl, _, _, rfl, rfl, _, rfl, a, _, _, 2, rfl, rfl, upd_same, rfl, ?_⟩
  -- if figures > 0
  refine ⟨_, rfl, _, _, rfl, rfl, _, rfl, ite2 (fun hp => ?_) fun hp => ?_⟩
  · refine ⟨_, rfl, .inl ⟨_, rfl, _, rfl, _, _, rfl, rfl, ⟨by omega, by omega⟩, ?_⟩⟩
    refine ⟨_, rfl, a, _, _, 0, rfl, rfl, upd_same, rfl, ?_⟩
    refine ⟨_, rfl, .inl ⟨_, rfl, _, rfl, _, _, rfl, rfl, by omega, ?_⟩⟩
    show Q (.int _) (upd (upd (upd H a _) a _) a _)
    rw [upd_upd, upd_upd]
    exact hq _ _ _ (Int.fmod_nonneg_of_pos _ hm0) (Int.fmod_lt_of_pos _ hm0) (Int.fmod_nonneg_of_pos _ (by decide)) (Int.fmod_lt_of_pos _ (by decide))
  · refine ⟨_, rfl, a, _, _, _, rfl, rfl, SqL.of upd_same, rfl, _, _, rfl, rfl, ⟨by decide, by decide⟩, .inl ⟨_, rfl, _, rfl, _, _, rfl, rfl, by omega, ?_⟩⟩
    show Q (.int _) (upd (upd H a _) a _)
    rw [upd_upd]
    exact hq _ _ _ (Int.fmod_nonneg_of_pos _ hm0) (Int.fmod_lt_of_pos _ hm0) (Int.fmod_nonneg_of_pos _ (by decide)) (Int.fmod_lt_of_pos _ (by decide))

def spPick : Sp := fun vs H Q _ => ∃ (a p : Addr) (n : Nat) (xs : List V), vs = [.ref a, .ref p] ∧ Dr H a n ∧ n ≤ 100000 ∧ H p = some (.lst xs) ∧ p ≠ a ∧ 0 < xs.length ∧ xs.length < 1000000 ∧
  ∀ (v : V) (H' : Hp), v ∈ xs → Kp [a] H H' → Dr H' a (n + 1) → Q v H'
theorem ok_pick (F : L2.Fun K "_law_pick" "_law_pick" s_law_pick f fd) (T : K2.Nms mg) (c_law_take : Clb prg w K mg base 1 "_law_take" spTake []) : FnG prg w K mg base 2 f fd ["draws", "some"] spPick := by
  have S := fs_law_pick
  refine fnG_mk F S (fun vs H Q E h => by obtain ⟨a, p, n, xs, rfl, _⟩ := h; rfl) fun cdv A outer s H vs Q E hr gd hsp => ?_
  obtain ⟨a, p, n, xs, rfl, hd, hn, hp, hap, hl0, hl1, hq⟩ := hsp
  refine ⟨_, (pss_one (ps_ret (pe_ix ix_list (pv 1) (pe_clb c_law_take hr (by decide) gd rfl (pa_cons (pv 0) (pa_cons (pe_callB call_len_seq (by rfl) T.n_len (by decide +kernel) (pa_cons (pv 1) pa_nil)) pa_nil))) (fun _ _ => rfl)))), ?_⟩
  refine ⟨_, rfl, _, rfl, _, rfl, p, xs, rfl, .inl (SqL.of hp), a, _, n, rfl, hd, hn, by omega, by omega, fun j H' r1 k1 hd1 => ?_⟩
  have hj : j < xs.length := by omega
  refine ⟨p, xs, _, xs[j], rfl, rfl, SqL.of (k1.lst hp (by simpa using hap)), atI_nat (by simp [hj]), ?_⟩
  exact hq _ _ (List.getElem_mem hj) k1 hd1
/-- the seed that the draws begin with -/
def spPurse (K : PySem.W.Frag) : Sp := fun vs H Q _ => ∃ (a : Addr) (ns : List Int) (i : Nat), vs = [.ref a, .int i] ∧ SqL K H a (ns.map V.int) ∧ ns.length ≤ 63 ∧ i ≤ 2 ∧ ∀ H' p, Same H H' → H p = none → Dr H' p 0 → Q (.ref p) H'
theorem ok_purse (F : L2.Fun K "_law_purse" "_law_purse" s_law_purse f fd) (T : K2.Nms mg) : FnG prg w K mg base 1 f fd ["cells", "at"] (spPurse K) := by
  have S := fs_law_purse
  refine fnG_mk F S (fun vs H Q E h => by obtain ⟨a, ns, i, rfl, _⟩ := h; rfl) fun cdv A outer s H vs Q E hr gd hsp => ?_
  obtain ⟨a, ns, i, rfl, hL, hl, hi, hq⟩ := hsp
  refine ⟨_, (pss_cons (ps_set (i := 2) S.nd rfl (Or.inl rfl) (pe_ifExp (pt_cmpR op_lt (pv 1) (pe_callB call_len_seq (by rfl) T.n_len (by decide +kernel) (pa_cons (pv 0) pa_nil)) (nomark _)) (pe_ix ix_list (pv 0) (pv 1) (fun _ _ => rfl)) pe_int))
    (pss_cons (ps_set (i := 3) S.nd rfl (Or.inl rfl) (pe_op op_modN (pe_callTy call_int1 (by rfl) T.n_int (by decide +kernel) (pa_cons (pe_op op_add (pe_op op_add (pe_op op_mul (pv 2) pe_int) (pe_op op_mul (pv 1) pe_int)) pe_int) pa_nil)) pe_int))
    (pss_cons (ps_for PassesOwn.never rfl (pi_list (pe_ifExp (pt_cmpR op_ge (pv 1) (pe_callB call_len_seq (by rfl) T.n_len (by decide +kernel) (pa_cons (pv 0) pa_nil)) (nomark _)) (pe_slice sl_list (pv 0) po_none (po_some pe_int)) (pe_lst pa_nil))) (pg_name (i := 4) S.nd rfl (Or.inl rfl)) (pss_one (ps_set (i := 3) S.nd rfl (Or.inl rfl) (pe_op op_modN (pe_callTy call_int1 (by rfl) T.n_int (by decide +kernel) (pa_cons (pe_op op_add (pe_op op_mul (pv 3) pe_int) (pv 4)) pa_nil)) pe_int))))
    (pss_one (ps_ret (pe_lst (pa_cons (pe_ifExp (pt_cmpR op_ge (pe_callB call_abs (by rfl) T.n_abs (by decide +kernel) (pa_cons (pv 2) pa_nil)) (pe_op op_pow pe_int pe_int) (nomark _)) (pe_op op_modN (pe_callTy call_int1 (by rfl) T.n_int (by decide +kernel) (pa_cons (pe_callB call_abs (by rfl) T.n_abs (by decide +kernel) (pa_cons (pv 2) pa_nil)) pa_nil)) (pe_op op_mulW (pe_op op_mulW (pe_op op_pow pe_int pe_int) (pe_op op_pow pe_int pe_int)) (pe_op op_pow pe_int pe_int))) pe_int) (pa_cons (pv 3) (pa_cons pe_int pa_nil))))))))), ?_⟩
  refine ⟨_, rfl, _, rfl, _, _, rfl, .inl hL, _, _, rfl, rfl, _, rfl, ?_⟩
  refine (show ∀ P : V → Hp → Prop, (∀ c : Int, P (.int c) H) → (if decide ((i : Int) < ((ns.map V.int).length : Int)) = true then tOp (rIxL K) (tVar 0) (tVar 1) (L2.start n_law_purse [V.ref a, V.int i]) H P else tC (.int 0) (L2.start n_law_purse [V.ref a, V.int i]) H P) from fun P hP => ite2 (fun hlt => ?_) fun _ => hP 0) _ fun c => ?_
  · have hlt' : i < ns.length := by simpa using of_decide_eq_true hlt
    refine ⟨_, rfl, _, rfl, a, _, _, V.int ns[i], rfl, rfl, hL, atI_nat (by simp [hlt']), hP _⟩
  -- the seed
  refine ⟨_, rfl, _, _, rfl, rfl, .inr ⟨by decide, by decide⟩, _, rfl, _, _, rfl, rfl, .inr ⟨by decide, by decide⟩, _, _, rfl, rfl, _, _, rfl, rfl, .inl ⟨_, rfl, _, _, rfl, rfl, (by show (2147483549 : Int) ≠ 0; decide), ?_⟩⟩
  have b0 : 0 ≤ Int.fmod (c * 20011 + (i : Int) * 82003 + 1009) 2147483549 := Int.fmod_nonneg_of_pos _ (by decide)
  have b1 : Int.fmod (c * 20011 + (i : Int) * 82003 + 1009) 2147483549 < 2147483549 := Int.fmod_lt_of_pos _ (by decide)
  refine ⟨_, rfl, _, rfl, _, _, rfl, .inl hL, _, _, rfl, rfl, _, rfl, ?_⟩
  refine (show ∀ P : V → Hp → Prop, (∀ p (ms : List Int), H p = none → P (.ref p) (upd H p (.lst (ms.map V.int)))) →
    (if decide ((((ns.map V.int).length : Nat) : Int) ≤ (i : Int)) = true then tSl (rSlL K) (tVar 0) tNoPart (tPart (tC (.int 4))) (((L2.start n_law_purse [V.ref a, V.int i]).set 2 (some (.int c))).set 3 (some (.int (Int.fmod (c * 20011 + (i : Int) * 82003 + 1009) 2147483549)))) H P
      else tLst tNil (((L2.start n_law_purse [V.ref a, V.int i]).set 2 (some (.int c))).set 3 (some (.int (Int.fmod (c * 20011 + (i : Int) * 82003 + 1009) 2147483549)))) H P) from fun P hP => ite2 (fun _ => ?_) fun _ => ?_) _ fun p ms hp => ?_
  · refine ⟨_, rfl, _, rfl, a, _, rfl, hL, fun p hp => ?_⟩
    have e : cutV (ns.map V.int) none (some 4) = ((ns.drop (HT.sIx (ns.map V.int).length 0 none)).take (HT.sIx (ns.map V.int).length (ns.map V.int).length (some 4) - HT.sIx (ns.map V.int).length 0 none)).map V.int := by
      unfold cutV
      rw [List.map_take, List.map_drop]
    rw [e]
    exact hP p _ hp
  · refine ⟨by show 0 ≤ sizeLine; omega, fun p hp => ?_⟩
    exact hP p [] hp
  have sm : Same H (upd H p (.lst (ms.map V.int))) := fun b o e => by
    rw [upd_ne (ne_of_none e hp)]
    exact e
  refine ⟨p, rfl, ⟨_, SqL.of upd_same⟩, for_list (xs := ms.map V.int) (fun _ σ H' => H' = upd H p (.lst (ms.map V.int)) ∧ ∃ (s : Int) (o : Option V), 0 ≤ s ∧ s < 2147483549 ∧ σ = [some (.ref a), some (.int i), some (.int c), some (.int s), o]) ⟨rfl, _, none, b0, b1, rfl⟩ (fun _ _ _ _ h => by rw [h.1]; exact SqL.of upd_same) (fun j x σ H' hx h => ?_) fun σ H' h => ?_⟩
  · obtain ⟨rfl, s, o, s0', s1', rfl⟩ := h
    obtain ⟨y, _, rfl⟩ := List.mem_map.mp (List.mem_of_getElem? hx)
    refine ⟨_, rfl, _, _, rfl, rfl, .inl ⟨by omega, by omega⟩, _, rfl, _, _, rfl, rfl, .inl ⟨_, rfl, _, _, rfl, rfl, (by show (2147483549 : Int) ≠ 0; decide), ?_⟩⟩
    exact ⟨rfl, _, some (.int y), Int.fmod_nonneg_of_pos _ (by decide), Int.fmod_lt_of_pos _ (by decide), rfl⟩
  · obtain ⟨rfl, s, o, s0', s1', rfl⟩ := h
    refine ⟨_, rfl, _, rfl, _, _, rfl, rfl, ⟨by decide, by decide, by decide⟩, _, _, rfl, rfl, _, rfl, ?_⟩
    refine (show ∀ P : V → Hp → Prop, (∀ z : Int, P (.int z) _) → (if _ = true then tOp (rI (fun x j => j ≠ 0) fun i j => V.int (i.fmod j)) _ _ _ _ P else tC (.int 0) _ _ P) from fun P hP => ite2 (fun _ => ?_) fun _ => hP 0) _ fun z => ?_
    · refine ⟨_, rfl, _, rfl, .inl ⟨_, rfl, ?_⟩⟩
      refine ⟨_, _, rfl, rfl, ⟨by decide, by decide, by decide⟩, _, _, rfl, rfl, ⟨by decide, by decide, by decide⟩, _, _, rfl, rfl, (by unfold CMulW; decide +kernel), ?_⟩
      exact ⟨_, _, rfl, rfl, ⟨by decide, by decide, by decide⟩, _, _, rfl, rfl, (by unfold CMulW; decide +kernel), _, _, rfl, rfl, (by show ((10 : Int) ^ Int.toNat 64 * 10 ^ Int.toNat 64 * 10 ^ Int.toNat 64) ≠ 0; decide +kernel), hP _⟩
    · refine ⟨_, rfl, by show 3 ≤ sizeLine; decide, fun q hq' => ?_⟩
      have sm2 : Same (upd H p (.lst (ms.map V.int))) (upd (upd H p (.lst (ms.map V.int))) q (.lst [.int z, .int s, .int 0])) := fun b o e => by
        rw [upd_ne (ne_of_none e hq')]
        exact e
      exact hq _ q (sm.trans sm2) (sm.free hq') ⟨z, s, upd_same, s0', s1'⟩
end
end K2
set_option maxHeartbeats 4000000
/-! P18: rows of signs; the law's tree of such a row. -/
namespace K2
open PySem PySem.Spec L2 DL
open PySem.W (Frag keepIn findIn typeIn subIn kitOne kitAny excIn)
open PyProof.Rows hiding St wpAt wpAt_bind wpAt_stack wpAt_mono
inductive It where
  | g (i : Nat) | n (v : Nat) | minus | pow (k : Nat) | op (o : Op) | c1 (f : Str) | c2 (f : Str)
def gn (i : Nat) : Str := if i = 0 then "a" else if i = 1 then "abcdefgh" else "k"
theorem gn_ok (i : Nat) : nmOk (gn i) = true := by
  unfold gn
  split
  · decide +kernel
  · split <;> decide +kernel
def ItAt (H : Hp) : It → V → Prop
  | .g i, v => ∃ p, v = .ref p ∧ H p = some (.tup [.str "g", .int (i : Nat)])
  | .n m, v => ∃ p, v = .ref p ∧ H p = some (.tup [.str "n", .int (m : Nat)])
  | .minus, v => ∃ p, v = .ref p ∧ H p = some (.tup [.str "minus"])
  | .pow k, v => ∃ p, v = .ref p ∧ H p = some (.tup [.str "^", .int (k : Nat)])
  | .op o, v => ∃ p, v = .ref p ∧ H p = some (.tup [.str o.s])
  | .c1 f, v => ∃ p, v = .ref p ∧ H p = some (.tup [.str "c", .str f, .int 1])
  | .c2 f, v => ∃ p, v = .ref p ∧ H p = some (.tup [.str "c", .str f, .int 2])
theorem ItAt.kp {H H' : Hp} {D : List Addr} (k : Kp D H H') : ∀ {i : It} {v : V}, ItAt H i v → ItAt H' i v
  | .g _, _, ⟨p, e, h⟩ => ⟨p, e, k.tup h⟩
  | .n _, _, ⟨p, e, h⟩ => ⟨p, e, k.tup h⟩
  | .minus, _, ⟨p, e, h⟩ => ⟨p, e, k.tup h⟩
  | .pow _, _, ⟨p, e, h⟩ => ⟨p, e, k.tup h⟩
  | .op _, _, ⟨p, e, h⟩ => ⟨p, e, k.tup h⟩
  | .c1 _, _, ⟨p, e, h⟩ => ⟨p, e, k.tup h⟩
  | .c2 _, _, ⟨p, e, h⟩ => ⟨p, e, k.tup h⟩
inductive ItsAt (H : Hp) : List V → List It → Prop
  | nil : ItsAt H [] []
  | cons {v : V} {i : It} {vs : List V} {is : List It} : ItAt H i v → ItsAt H vs is → ItsAt H (v :: vs) (i :: is)
theorem ItsAt.kp {H H' : Hp} {D : List Addr} (k : Kp D H H') : ∀ {vs : List V} {is : List It}, ItsAt H vs is → ItsAt H' vs is
  | _, _, .nil => .nil
  | _, _, .cons a r => .cons (a.kp k) (r.kp k)
theorem ItsAt.length {H : Hp} : ∀ {vs : List V} {is : List It}, ItsAt H vs is → vs.length = is.length
  | _, _, .nil => rfl
  | _, _, .cons _ r => congrArg (· + 1) r.length
theorem ItsAt.append {H : Hp} {us : List V} {rs : List It} (h : ItsAt H us rs) : ∀ {vs : List V} {is : List It}, ItsAt H vs is → ItsAt H (vs ++ us) (is ++ rs)
  | _, _, .nil => h
  | _, _, .cons a r => .cons a (ItsAt.append h r)
theorem ItsAt.get {H : Hp} : ∀ {vs : List V} {is : List It} (j : Nat) {v : V}, ItsAt H vs is → vs[j]? = some v → ∃ i, is[j]? = some i ∧ ItAt H i v
  | _, _, _, _, .nil, h => by simp at h
  | _, _, 0, v, .cons (i := i) a r, h => ⟨i, rfl, by cases h; exact a⟩
  | _, _, j + 1, v, .cons a r, h => r.get j h
/-- what a row of signs makes -/
inductive Ev : List Tr → List It → Tr → Prop
  | done {t : Tr} : Ev [t] [] t
  | g {ts : List Tr} {i : Nat} {is : List It} {t : Tr} : i < 3 → Ev (ts ++ [.nam (gn i)]) is t → Ev ts (.g i :: is) t
  | n {ts : List Tr} {m : Nat} {is : List It} {t : Tr} : NumOk m → Ev (ts ++ [.val m]) is t → Ev ts (.n m :: is) t
  | minus {ts : List Tr} {a : Tr} {is : List It} {t : Tr} : Ev (ts ++ [.minus a]) is t → Ev (ts ++ [a]) (.minus :: is) t
  | pow {ts : List Tr} {a : Tr} {k : Nat} {is : List It} {t : Tr} : k ≤ 4 → NumOk k → Ev (ts ++ [.pow a k]) is t → Ev (ts ++ [a]) (.pow k :: is) t
  | op {ts : List Tr} {a b : Tr} {o : Op} {is : List It} {t : Tr} : Ev (ts ++ [.bin o a b]) is t → Ev (ts ++ [a, b]) (.op o :: is) t
  | c1 {ts : List Tr} {a : Tr} {f : Str} {is : List It} {t : Tr} : nmOk f = true → Ev (ts ++ [.call1 f a]) is t → Ev (ts ++ [a]) (.c1 f :: is) t
  | c2 {ts : List Tr} {a b : Tr} {f : Str} {is : List It} {t : Tr} : nmOk f = true → Ev (ts ++ [.call2 f a b]) is t → Ev (ts ++ [a, b]) (.c2 f :: is) t
theorem Ev.sz {ts : List Tr} {is : List It} {t : Tr} (h : Ev ts is t) : sumSz ts ≤ t.sz := by
  induction h with
  | done => simp [sumSz]
  | _ => simp only [sumSz_append, sumSz, Tr.sz] at *; omega
theorem Ev.len {ts : List Tr} {is : List It} {t : Tr} (h : Ev ts is t) : sumSz ts + is.length ≤ t.sz := by
  induction h with
  | done => simp [sumSz]
  | _ => simp only [sumSz_append, sumSz, Tr.sz, List.length_cons] at *; omega
/-- a row that stands for a tree -/
inductive Po : List It → Tr → Prop
  | g {i : Nat} : i < 3 → Po [.g i] (.nam (gn i))
  | n {m : Nat} : NumOk m → Po [.n m] (.val m)
  | minus {is : List It} {a : Tr} : Po is a → Po (is ++ [.minus]) (.minus a)
  | pow {is : List It} {a : Tr} {k : Nat} : k ≤ 4 → NumOk k → Po is a → Po (is ++ [.pow k]) (.pow a k)
  | op {is js : List It} {a b : Tr} {o : Op} : Po is a → Po js b → Po (is ++ js ++ [.op o]) (.bin o a b)
  | c1 {is : List It} {a : Tr} {f : Str} : nmOk f = true → Po is a → Po (is ++ [.c1 f]) (.call1 f a)
  | c2 {is js : List It} {a b : Tr} {f : Str} : nmOk f = true → Po is a → Po js b → Po (is ++ js ++ [.c2 f]) (.call2 f a b)
theorem Po.ev {is : List It} {a : Tr} (h : Po is a) : ∀ {ts : List Tr} {js : List It} {u : Tr}, Ev (ts ++ [a]) js u → Ev ts (is ++ js) u := by
  induction h with
  | g hi => exact fun e => .g hi e
  | n hm => exact fun e => .n hm e
  | minus h ih => intro ts js u e; rw [List.append_assoc]; exact ih (.minus e)
  | pow h1 h2 h ih => intro ts js u e; rw [List.append_assoc]; exact ih (.pow h1 h2 e)
  | op h h' ih ih' => intro ts js u e; rw [List.append_assoc, List.append_assoc]; exact ih (ih' (by rw [List.append_assoc]; exact .op e))
  | c1 hf h ih => intro ts js u e; rw [List.append_assoc]; exact ih (.c1 hf e)
  | c2 hf h h' ih ih' => intro ts js u e; rw [List.append_assoc, List.append_assoc]; exact ih (ih' (by rw [List.append_assoc]; exact .c2 hf e))
theorem Po.whole {is : List It} {a : Tr} (h : Po is a) : Ev [] is a := by
  have z := h.ev (ts := []) (js := []) .done
  rwa [List.append_nil] at z
theorem Po.ok {is : List It} {a : Tr} (h : Po is a) : a.ok := by
  induction h with
  | g hi => exact gn_ok _
  | n hm => exact hm
  | minus h ih => exact ih
  | pow h1 h2 h ih => exact ⟨ih, h1, h2⟩
  | op h h' ih ih' => exact ⟨ih, ih'⟩
  | c1 hf h ih => exact ⟨hf, ih⟩
  | c2 hf h h' ih ih' => exact ⟨hf, ih, ih'⟩
/-- the law's givens -/
def SpecAt (H : Hp) (v : V) : Prop := ∃ p q r1 r2 r3 e1 e2 e3 : Addr, v = .ref p ∧ H p = some (.tup [.ref q, .ref e1, .ref e2, .ref e3]) ∧ H q = some (.tup [.ref r1, .ref r2, .ref r3]) ∧ H r1 = some (.tup [.str "a", .str "point"]) ∧ H r2 = some (.tup [.str "abcdefgh", .str "arrow"]) ∧ H r3 = some (.tup [.str "k", .str "number"])
theorem SpecAt.kp {H H' : Hp} {D : List Addr} (k : Kp D H H') {v : V} : SpecAt H v → SpecAt H' v := fun ⟨p, q, r1, r2, r3, e1, e2, e3, e, h1, h2, h3, h4, h5⟩ => ⟨p, q, r1, r2, r3, e1, e2, e3, e, k.tup h1, k.tup h2, k.tup h3, k.tup h4, k.tup h5⟩
def spNameOf : Sp := fun vs H Q _ => ∃ (s i o : V) (n : Nat), vs = [s, i, o] ∧ SpecAt H s ∧ ItAt H (.g n) i ∧ n < 3 ∧ Q (.str (gn n)) H
/-- the end of a list, cut off and kept -/
theorem cut_end {us l : List V} {k : Nat} (h : l.length = k) (hk : 0 < k) : cutV (us ++ l) none (some (-(k : Int))) = us := by
  unfold cutV
  have e : HT.sIx (us ++ l).length (us ++ l).length (some (-(k : Int))) = us.length := by
    show (if (-(k : Int)) < 0 then ((-(k : Int)) + ((us ++ l).length : Nat)).toNat else _) = _
    rw [if_pos (by omega), List.length_append]
    omega
  rw [e]
  show List.take (us.length - 0) (List.drop 0 (us ++ l)) = us
  simp
theorem keep_end {us l : List V} {k : Nat} (h : l.length = k) (hk : 0 < k) : cutV (us ++ l) (some (-(k : Int))) none = l := by
  unfold cutV
  have e : HT.sIx (us ++ l).length 0 (some (-(k : Int))) = us.length := by
    show (if (-(k : Int)) < 0 then ((-(k : Int)) + ((us ++ l).length : Nat)).toNat else _) = _
    rw [if_pos (by omega), List.length_append]
    omega
  rw [e, HT.sIx_none, List.length_append]
  simp
theorem atI_2 {α : Type} (us : List α) (a b : α) : atI (us ++ [a, b]) (-2) = some a := by
  unfold atI ixN
  rw [if_neg (by decide), if_pos (by rw [List.length_append]; simp; omega)]
  show (us ++ [a, b])[_]? = some a
  rw [show ((-2 : Int) + ((us ++ [a, b]).length : Nat)).toNat = us.length by rw [List.length_append]; simp; omega]
  simp
theorem atI_1 {α : Type} (us : List α) (a b : α) : atI (us ++ [a, b]) (-1) = some b := by
  rw [show us ++ [a, b] = (us ++ [a]) ++ [b] by simp]
  exact atI_last _ _
theorem Kp.keep {D : List Addr} {H H1 H2 : Hp} {l : Addr} (k1 : Kp D H H1) (h : H l = none) (k2 : Kp [l] H1 H2) : Kp D H H2 :=
  ((k1.mono (D' := l :: D) fun b m => List.mem_cons_of_mem _ m).trans (k2.mono fun b m => by rw [List.mem_singleton] at m; rw [m]; exact List.mem_cons_self)).drop h
def spTree : Sp := fun vs H Q _ => ∃ (s o : V) (rl : Addr) (ivs : List V) (is : List It) (t : Tr), vs = [s, .ref rl, o] ∧ SpecAt H s ∧ H rl = some (.lst ivs) ∧ ItsAt H ivs is ∧ Ev [] is t ∧ t.sz ≤ 40 ∧ ∀ H' v, Kp [] H H' → TrAt H' t v → Q v H'
section
variable {w : World} {K : Frag} {mg : Str → Option Value} {base : Heap} {f : Addr} {fd : FuncData} {dD dG dS : Addr}
theorem ok_law_name_of (F : L2.Fun K "_law_name_of" "_law_name_of" s_law_name_of f fd) : FnG prg w K mg base 1 f fd ["spec", "item", "own"] spNameOf := by
  have S := fs_law_name_of
  refine fnG_mk F S (fun vs H Q E h => by obtain ⟨x, _, _, _, rfl, _⟩ := h; rfl) fun cdv A outer s H vs Q E hr gd hsp => ?_
  obtain ⟨s', i, o, n, rfl, ⟨p, q', r1, r2, r3, e1, e2, e3, rfl, h1, h2, h3, h4, h5⟩, ⟨ip, rfl, hi⟩, hn, q⟩ := hsp
  refine ⟨_, (pss_one (ps_ret (pe_ifExp (pt_cmpR op_eq (pe_ix ix_tup (pv 1) pe_int (fun _ _ => rfl)) pe_str (nomark _)) (pe_ix ix_tup (pv 2) (pe_ix ix_tup (pv 1) pe_int (fun _ _ => rfl)) (fun _ _ => rfl)) (pe_ix ix_tup (pe_ix ix_tup (pe_ix ix_tup (pv 0) (pe_ifExp (pt_cmpR op_eq (pe_ix ix_tup (pv 1) pe_int (fun _ _ => rfl)) pe_str (nomark _)) pe_int pe_int) (fun _ _ => rfl)) (pe_ix ix_tup (pv 1) pe_int (fun _ _ => rfl)) (fun _ _ => rfl)) pe_int (fun _ _ => rfl))))), ?_⟩
  refine ⟨_, rfl, ip, _, 0, .str "g", rfl, rfl, SqT.of hi, rfl, rfl, _, rfl, iF (by decide +kernel) ?_⟩
  refine ⟨_, rfl, _, rfl, ip, _, 0, .str "g", rfl, rfl, SqT.of hi, rfl, rfl, _, rfl, iT (by decide +kernel) ?_⟩
  refine ⟨p, _, 0, .ref q', rfl, rfl, SqT.of h1, rfl, _, rfl, ip, _, 1, .int (n : Nat), rfl, rfl, SqT.of hi, rfl, ?_⟩
  rcases (show n = 0 ∨ n = 1 ∨ n = 2 by omega) with rfl | rfl | rfl
  · exact ⟨q', _, _, .ref r1, rfl, rfl, SqT.of h2, rfl, r1, _, 0, .str "a", rfl, rfl, SqT.of h3, rfl, q⟩
  · exact ⟨q', _, _, .ref r2, rfl, rfl, SqT.of h2, rfl, r2, _, 0, .str "abcdefgh", rfl, rfl, SqT.of h4, rfl, q⟩
  · exact ⟨q', _, _, .ref r3, rfl, rfl, SqT.of h2, rfl, r3, _, 0, .str "k", rfl, rfl, SqT.of h5, rfl, q⟩
/-- a stack's list, some put behind -/
theorem ok_law_tree (F : L2.Fun K "_law_tree" "_law_tree" s_law_tree f fd) (T : K2.Nms mg) (c_law_name_of : Clb prg w K mg base 1 "_law_name_of" spNameOf []) : FnG prg w K mg base 2 f fd ["spec", "row", "own"] spTree := by
  have S := fs_law_tree
  refine fnG_mk F S (fun vs H Q E h => by obtain ⟨x, _, _, _, _, _, rfl, _⟩ := h; rfl) fun cdv A outer s H vs Q E hr gd hsp => ?_
  obtain ⟨sv, o, rl, ivs, is, t, rfl, hs, hrl, his, hev, hz, q⟩ := hsp
  refine ⟨_, (pss_cons (ps_set (i := 3) S.nd rfl (Or.inl rfl) (pe_lst pa_nil))
    (pss_cons (ps_for PassesOwn.never rfl (pi_list (pv 1)) (pg_name (i := 4) S.nd rfl (Or.inl rfl)) (pss_one (ps_if (pt_cmpR op_eq (pe_ix ix_tup (pv 4) pe_int (fun _ _ => rfl)) pe_str (nomark _)) (pss_one (ps_set (i := 3) S.nd rfl (Or.inl rfl) (pe_op op_cat (pe_slice sl_list (pv 3) po_none (po_some (pe_un un_neg (pe_ix ix_tup (pv 4) pe_int (fun _ _ => rfl))))) (pe_lst (pa_cons (pe_tup (pa_cons pe_str (pa_cons (pe_ix ix_tup (pv 4) pe_int (fun _ _ => rfl)) (pa_cons (pe_callTy call_tuple_of (by rfl) T.n_tuple (by decide +kernel) (pa_cons (pe_slice sl_list (pv 3) (po_some (pe_un un_neg (pe_ix ix_tup (pv 4) pe_int (fun _ _ => rfl)))) po_none) pa_nil)) pa_nil)))) pa_nil))))) (pss_one (ps_if (pt_cmpR op_eq (pe_ix ix_tup (pv 4) pe_int (fun _ _ => rfl)) pe_str (nomark _)) (pss_one (ps_expr (pe_bm PySem.F.plainAttrs_list PySem.F.slot_list_append PySem.F.type_list_append mt_append (pv 3) (pa_cons (pe_tup (pa_cons pe_str (pa_cons (pe_ix ix_tup (pv 4) pe_int (fun _ _ => rfl)) pa_nil))) pa_nil)))) (pss_one (ps_if (pt_cmpR op_in_seq (pe_ix ix_tup (pv 4) pe_int (fun _ _ => rfl)) (pe_tup (pa_cons pe_str (pa_cons pe_str (pa_cons pe_str pa_nil)))) rfl) (pss_one (ps_expr (pe_bm PySem.F.plainAttrs_list PySem.F.slot_list_append PySem.F.type_list_append mt_append (pv 3) (pa_cons (pe_tup (pa_cons pe_str (pa_cons (pe_clb c_law_name_of hr (by decide) gd rfl (pa_cons (pv 0) (pa_cons (pv 4) (pa_cons (pv 2) pa_nil)))) pa_nil))) pa_nil)))) (pss_one (ps_if (pt_cmpR op_eq (pe_ix ix_tup (pv 4) pe_int (fun _ _ => rfl)) pe_str (nomark _)) (pss_one (ps_expr (pe_bm PySem.F.plainAttrs_list PySem.F.slot_list_append PySem.F.type_list_append mt_append (pv 3) (pa_cons (pe_tup (pa_cons pe_str (pa_cons (pe_bm0 PySem.F.plainAttrs_list PySem.F.slot_list_pop PySem.F.type_list_pop mt_pop (pv 3)) pa_nil))) pa_nil)))) (pss_one (ps_if (pt_cmpR op_eq (pe_ix ix_tup (pv 4) pe_int (fun _ _ => rfl)) pe_str (nomark _)) (pss_one (ps_expr (pe_bm PySem.F.plainAttrs_list PySem.F.slot_list_append PySem.F.type_list_append mt_append (pv 3) (pa_cons (pe_tup (pa_cons pe_str (pa_cons (pe_bm0 PySem.F.plainAttrs_list PySem.F.slot_list_pop PySem.F.type_list_pop mt_pop (pv 3)) (pa_cons (pe_ix ix_tup (pv 4) pe_int (fun _ _ => rfl)) pa_nil)))) pa_nil)))) (pss_one (ps_set (i := 3) S.nd rfl (Or.inl rfl) (pe_op op_cat (pe_slice sl_list (pv 3) po_none (po_some (pe_un un_neg pe_int))) (pe_lst (pa_cons (pe_tup (pa_cons (pe_ix ix_tup (pv 4) pe_int (fun _ _ => rfl)) (pa_cons (pe_ix ix_list (pv 3) (pe_un un_neg pe_int) (fun _ _ => rfl)) (pa_cons (pe_ix ix_list (pv 3) (pe_un un_neg pe_int) (fun _ _ => rfl)) pa_nil)))) pa_nil))))))))))))))))
    (pss_one (ps_ret (pe_ix ix_list (pv 3) pe_int (fun _ _ => rfl)))))), ?_⟩
  have sl : sizeLine = 16777216 := sizeLine_eq
  refine ⟨by show 0 ≤ sizeLine; omega, fun l0 n0 => ?_⟩
  have k0 : Kp [] H (upd H l0 (.lst [])) := Kp.new n0
  refine ⟨_, rfl, rl, rfl, ⟨_, SqL.of (k0.lst hrl (by simp))⟩, ?_⟩
  have hlen := his.length
  refine for_list (xs := ivs) (fun i σ H' => ∃ (st : Addr) (us : List V) (ts : List Tr) (oi : Option V), σ = [some sv, some (.ref rl), some o, some (.ref st), oi] ∧ Kp [] H H' ∧ H st = none ∧ H' st = some (.lst us) ∧ TrsAt H' us ts ∧ Ev ts (is.drop i) t)
    ⟨l0, [], [], none, rfl, k0, n0, upd_same, .nil, hev⟩ (fun i σ H' _ h => by obtain ⟨_, _, _, _, _, k, _⟩ := h; exact SqL.of (k.lst hrl (by simp))) (fun i x σ H' hx h => ?_) fun σ H' h => ?_
  · obtain ⟨st, us, ts, oi, rfl, k, hst0, hst, hT, hE⟩ := h
    obtain ⟨it, hit, hI0⟩ := his.get i hx
    have hI := hI0.kp k
    have hdr : is.drop i = it :: is.drop (i + 1) := by
      obtain ⟨lt, e⟩ := List.getElem?_eq_some_iff.mp hit
      rw [List.drop_eq_getElem_cons lt, e]
    rw [hdr] at hE
    have hsz := hE.sz
    have hul := hT.length
    have htl := sumSz_len ts
    -- the head's looks
    have isE : ∀ (c h : Str) (p : Addr) (xs : List V) (H2 : Hp) (P : Bool → Hp → Prop), x = .ref p → H2 p = some (.tup (.str h :: xs)) → P (decide (V.str h = V.str c)) H2 → tTest (tOp rEq (tOp (rIxT K) (tVar 4) (tC (.int 0))) (tC (.str c))) [some sv, some (.ref rl), some o, some (.ref st), some x] H2 P := by
      rintro c h p xs H2 P rfl hp hP
      exact ⟨_, rfl, p, _, 0, .str h, rfl, rfl, SqT.of hp, atI_nat (j := 0) rfl, rfl, _, rfl, hP⟩
    have isG : ∀ (h : Str) (p : Addr) (xs : List V) (H2 : Hp) (P : Bool → Hp → Prop), x = .ref p → H2 p = some (.tup (.str h :: xs)) → (∀ H3, Kp [] H2 H3 → P (inV (.str h) [.str "a", .str "g", .str "l"]) H3) → tTest (tOp (rIn K false) (tOp (rIxT K) (tVar 4) (tC (.int 0))) (tTup (tCons (tC (.str "a")) (tCons (tC (.str "g")) (tCons (tC (.str "l")) tNil))))) [some sv, some (.ref rl), some o, some (.ref st), some x] H2 P := by
      rintro h p xs H2 P rfl hp hP
      exact ⟨_, rfl, p, _, 0, .str h, rfl, rfl, SqT.of hp, atI_nat (j := 0) rfl, by show 3 ≤ sizeLine; omega, fun p2 n2 => ⟨p2, _, rfl, .inr (SqT.of upd_same), rfl, rfl, _, rfl, hP _ (Kp.new n2)⟩⟩
    -- a new element behind
    have push : ∀ (H2 : Hp) (us2 : List V) (ts2 : List Tr) (v : V) (a : Tr), Kp [st] H' H2 → H2 st = some (.lst us2) → TrsAt H2 us2 ts2 → TrAt H2 a v → Ev (ts2 ++ [a]) (is.drop (i + 1)) t →
        ∃ (st' : Addr) (us : List V) (ts : List Tr) (oi : Option V), ([some sv, some (.ref rl), some o, some (.ref st), some x] : L2.St) = [some sv, some (.ref rl), some o, some (.ref st'), oi] ∧ Kp [] H (upd H2 st (.lst (us2 ++ [v]))) ∧ H st' = none ∧ (upd H2 st (.lst (us2 ++ [v]))) st' = some (.lst us) ∧ TrsAt (upd H2 st (.lst (us2 ++ [v]))) us ts ∧ Ev ts (is.drop (i + 1)) t := by
      intro H2 us2 ts2 v a k2 h2 hT2 ha hE2
      have k3 : Kp [st] H2 (upd H2 st (.lst (us2 ++ [v]))) := Kp.put h2 rfl (by simp)
      exact ⟨st, us2 ++ [v], ts2 ++ [a], _, rfl, k.keep hst0 (k2.trans k3), hst0, upd_same, (TrsAt.cons (ha.kp k3) .nil).append (hT2.kp k3), hE2⟩
    -- a new stack
    have renew : ∀ (H2 : Hp) (r : Addr) (us2 : List V) (ts2 : List Tr) (v : V) (a : Tr), Kp [] H' H2 → H2 r = none → TrsAt H2 us2 ts2 → TrAt H2 a v → Ev (ts2 ++ [a]) (is.drop (i + 1)) t →
        ∃ (st' : Addr) (us : List V) (ts : List Tr) (oi : Option V), ([some sv, some (.ref rl), some o, some (.ref r), some x] : L2.St) = [some sv, some (.ref rl), some o, some (.ref st'), oi] ∧ Kp [] H (upd H2 r (.lst (us2 ++ [v]))) ∧ H st' = none ∧ (upd H2 r (.lst (us2 ++ [v]))) st' = some (.lst us) ∧ TrsAt (upd H2 r (.lst (us2 ++ [v]))) us ts ∧ Ev ts (is.drop (i + 1)) t := by
      intro H2 r us2 ts2 v a k2 h2 hT2 ha hE2
      have k3 : Kp [] H2 (upd H2 r (.lst (us2 ++ [v]))) := Kp.new h2
      have hr0 : H r = none := (k.trans k2).none_of h2 (fun b m => by cases m)
      exact ⟨r, us2 ++ [v], ts2 ++ [a], _, rfl, (k.trans k2).trans k3, hr0, upd_same, (TrsAt.cons (ha.kp k3) .nil).append (hT2.kp k3), hE2⟩
    have split1 : ∀ {us : List V} {ts : List Tr} {a : Tr}, TrsAt H' us (ts ++ [a]) → ∃ us0 u, us = us0 ++ [u] ∧ TrsAt H' us0 ts ∧ TrAt H' a u := by
      intro us ts
      induction ts generalizing us with
      | nil => intro a h; cases h with | cons c1 c2 => cases c2; exact ⟨[], _, rfl, .nil, c1⟩
      | cons t ts ih => intro a h; cases h with | cons c1 c2 => obtain ⟨us0, u, rfl, e1, e2⟩ := ih c2; exact ⟨_ :: us0, u, rfl, .cons c1 e1, e2⟩
    cases hE with
    | g hi hE =>
      rename_i n
      obtain ⟨p, rfl, hp⟩ := hI
      refine isE _ _ p _ _ _ rfl hp (iF (by decide +kernel) (isE _ _ p _ _ _ rfl hp (iF (by decide +kernel) (isG _ p _ _ _ rfl hp fun H3 k3 => iT (by decide +kernel) ?_))))
      have hst3 := k3.lst hst (by simp)
      refine ⟨_, rfl, .inl ⟨rfl, _, SqL.of hst3⟩, _, rfl, _, rfl, _, rfl, sv, _, o, n, rfl, (hs.kp k).kp k3, ⟨p, rfl, k3.tup hp⟩, hi, by show 2 ≤ sizeLine; omega, fun y ny => ?_⟩
      have k4 : Kp [] H3 (upd H3 y (.tup [.str "name", .str (gn n)])) := Kp.new ny
      exact ⟨st, us, _, rfl, rfl, k4.lst hst3 (by simp), by omega, push _ us ts _ (.nam (gn n)) (Kp.of (k3.trans k4)) (k4.lst hst3 (by simp)) ((hT.kp k3).kp k4) ⟨y, rfl, upd_same⟩ hE⟩
    | n hm hE =>
      rename_i m
      obtain ⟨p, rfl, hp⟩ := hI
      refine isE _ _ p _ _ _ rfl hp (iF (by decide +kernel) (isE _ _ p _ _ _ rfl hp (iT (by decide +kernel) ?_)))
      refine ⟨_, rfl, .inl ⟨rfl, _, SqL.of hst⟩, _, rfl, p, _, 1, .int (m : Nat), rfl, rfl, SqT.of hp, rfl, by show 2 ≤ sizeLine; omega, fun y ny => ?_⟩
      have k4 : Kp [] H' (upd H' y (.tup [.str "value", .int (m : Nat)])) := Kp.new ny
      exact ⟨st, us, _, rfl, rfl, k4.lst hst (by simp), by omega, push _ us ts _ (.val m) (Kp.of k4) (k4.lst hst (by simp)) (hT.kp k4) ⟨y, rfl, upd_same⟩ hE⟩
    | minus hE =>
      rename_i ts a
      obtain ⟨p, rfl, hp⟩ := hI
      obtain ⟨us0, u, rfl, hT0, hu⟩ := split1 hT
      rw [List.length_append, List.length_append] at hul
      simp only [List.length_append, List.length_cons, List.length_nil] at hul htl
      refine isE _ _ p _ _ _ rfl hp (iF (by decide +kernel) (isE _ _ p _ _ _ rfl hp (iF (by decide +kernel) (isG _ p _ _ _ rfl hp fun H3 k3 => iF (by decide +kernel) (isE _ _ p _ _ _ rfl (k3.tup hp) (iT (by decide +kernel) ?_))))))
      have hst3 := k3.lst hst (by simp)
      refine ⟨_, rfl, .inl ⟨rfl, _, SqL.of hst3⟩, _, rfl, .inl ⟨rfl, _, SqL.of hst3⟩, st, _, u, rfl, rfl, hst3, by simp, by show 2 ≤ sizeLine; omega, fun y ny => ?_⟩
      rw [List.dropLast_concat] at ny ⊢
      have k4 : Kp [st] H3 (upd H3 st (.lst us0)) := Kp.put hst3 rfl (by simp)
      have k5 : Kp [] (upd H3 st (.lst us0)) (upd (upd H3 st (.lst us0)) y (.tup [.str "minus", u])) := Kp.new ny
      have h5 := k5.lst (a := st) (xs := us0) upd_same (by simp)
      exact ⟨st, us0, _, rfl, rfl, h5, by omega, push _ us0 ts _ (.minus a) (((Kp.of k3).trans k4).trans (Kp.of k5)) h5 (((hT0.kp k3).kp k4).kp k5) ⟨y, u, rfl, upd_same, ((hu.kp k3).kp k4).kp k5⟩ hE⟩
    | pow hk4 hko hE =>
      rename_i ts a kk
      obtain ⟨p, rfl, hp⟩ := hI
      obtain ⟨us0, u, rfl, hT0, hu⟩ := split1 hT
      rw [List.length_append, List.length_append] at hul
      simp only [List.length_append, List.length_cons, List.length_nil] at hul htl
      refine isE _ _ p _ _ _ rfl hp (iF (by decide +kernel) (isE _ _ p _ _ _ rfl hp (iF (by decide +kernel) (isG _ p _ _ _ rfl hp fun H3 k3 => iF (by decide +kernel) (isE _ _ p _ _ _ rfl (k3.tup hp) (iF (by decide +kernel) (isE _ _ p _ _ _ rfl (k3.tup hp) (iT (by decide +kernel) ?_))))))))
      have hst3 := k3.lst hst (by simp)
      refine ⟨_, rfl, .inl ⟨rfl, _, SqL.of hst3⟩, _, rfl, .inl ⟨rfl, _, SqL.of hst3⟩, st, _, u, rfl, rfl, hst3, by simp, ?_⟩
      have k4 : Kp [st] H3 (upd H3 st (.lst us0)) := Kp.put hst3 rfl (by simp)
      rw [List.dropLast_concat]
      refine ⟨_, rfl, p, _, 1, .int (kk : Nat), rfl, rfl, SqT.of (k4.tup (k3.tup hp)), rfl, by show 3 ≤ sizeLine; omega, fun y ny => ?_⟩
      have k5 : Kp [] (upd H3 st (.lst us0)) (upd (upd H3 st (.lst us0)) y (.tup [.str "power", u, .int (kk : Nat)])) := Kp.new ny
      have h5 := k5.lst (a := st) (xs := us0) upd_same (by simp)
      exact ⟨st, us0, _, rfl, rfl, h5, by omega, push _ us0 ts _ (.pow a kk) (((Kp.of k3).trans k4).trans (Kp.of k5)) h5 (((hT0.kp k3).kp k4).kp k5) ⟨y, u, rfl, upd_same, ((hu.kp k3).kp k4).kp k5⟩ hE⟩
    | op hE =>
      rename_i ts a b op
      obtain ⟨p, rfl, hp⟩ := hI
      obtain ⟨us1, u2, rfl, hT1, hu2⟩ := split1 (ts := ts ++ [a]) (by simpa using hT)
      obtain ⟨us0, u1, rfl, hT0, hu1⟩ := split1 hT1
      rw [List.append_assoc] at hst hT hul
      simp only [List.length_append, List.length_cons, List.length_nil] at hul htl
      have body : ∀ (E : Ends) H3, E.nx = (fun σ H' => ∃ (st : Addr) (us : List V) (ts : List Tr) (oi : Option V), σ = [some sv, some (.ref rl), some o, some (.ref st), oi] ∧ Kp [] H H' ∧ H st = none ∧ H' st = some (.lst us) ∧ TrsAt H' us ts ∧ Ev ts (is.drop (i + 1)) t) → Kp [] H' H3 → tAsg (tOp rCat (tSl (rSlL K) (tVar 3) tNoPart (tPart (tUn (rU fun i => .int (-i)) (tC (.int 2))))) (tLst (tCons (tTup (tCons (tOp (rIxT K) (tVar 4) (tC (.int 0))) (tCons (tOp (rIxL K) (tVar 3) (tUn (rU fun i => .int (-i)) (tC (.int 2)))) (tCons (tOp (rIxL K) (tVar 3) (tUn (rU fun i => .int (-i)) (tC (.int 1)))) tNil)))) tNil))) (gName 3)
          E [some sv, some (.ref rl), some o, some (.ref st), some (.ref p)] H3 := fun E H3 he k3 => by
        have hst3 := k3.lst hst (by simp)
        refine ⟨_, rfl, _, rfl, _, rfl, st, _, rfl, SqL.of hst3, fun c nc => ?_⟩
        have ec : cutV (us0 ++ ([u1] ++ [u2])) none (some (-(2 : Int))) = us0 := cut_end (k := 2) rfl (by decide)
        rw [ec] at *
        have k4 : Kp [] H3 (upd H3 c (.lst us0)) := Kp.new nc
        have hst4 := k4.lst hst3 (by simp)
        refine ⟨_, rfl, p, _, 0, .str op.s, rfl, rfl, SqT.of (k4.tup (k3.tup hp)), atI_nat (j := 0) rfl, _, rfl, _, rfl, st, _, -2, u1, rfl, rfl, SqL.of hst4, atI_2 _ _ _, _, rfl, _, rfl, st, _, -1, u2, rfl, rfl, SqL.of hst4, atI_1 _ _ _, by show 3 ≤ sizeLine; omega, fun y ny => ⟨by show 1 ≤ sizeLine; omega, fun z nz => ?_⟩⟩
        have k5 : Kp [] (upd H3 c (.lst us0)) (upd (upd H3 c (.lst us0)) y (.tup [.str op.s, u1, u2])) := Kp.new ny
        have k6 : Kp [] (upd (upd H3 c (.lst us0)) y (.tup [.str op.s, u1, u2])) (upd (upd (upd H3 c (.lst us0)) y (.tup [.str op.s, u1, u2])) z (.lst [.ref y])) := Kp.new nz
        have k36 := ((k3.trans k4).trans k5).trans k6
        refine ⟨c, z, us0, [.ref y], rfl, rfl, (k5.trans k6).lst (a := c) upd_same (by simp), upd_same, by simp only [List.length_cons, List.length_nil]; omega, fun r nr => ?_⟩
        rw [he]
        exact renew _ r us0 ts (.ref y) (.bin op a b) k36 nr (hT0.kp k36) ⟨y, u1, u2, rfl, k6.tup upd_same, hu1.kp k36, hu2.kp k36⟩ hE
      cases op
      · exact isE _ _ p _ _ _ rfl hp (iF (by decide +kernel) (isE _ _ p _ _ _ rfl hp (iF (by decide +kernel) (isG _ p _ _ _ rfl hp fun H3 k3 => iF (by decide +kernel) (isE _ _ p _ _ _ rfl (k3.tup hp) (iF (by decide +kernel) (isE _ _ p _ _ _ rfl (k3.tup hp) (iF (by decide +kernel) (body _ H3 rfl k3)))))))))
      · exact isE _ _ p _ _ _ rfl hp (iF (by decide +kernel) (isE _ _ p _ _ _ rfl hp (iF (by decide +kernel) (isG _ p _ _ _ rfl hp fun H3 k3 => iF (by decide +kernel) (isE _ _ p _ _ _ rfl (k3.tup hp) (iF (by decide +kernel) (isE _ _ p _ _ _ rfl (k3.tup hp) (iF (by decide +kernel) (body _ H3 rfl k3)))))))))
      · exact isE _ _ p _ _ _ rfl hp (iF (by decide +kernel) (isE _ _ p _ _ _ rfl hp (iF (by decide +kernel) (isG _ p _ _ _ rfl hp fun H3 k3 => iF (by decide +kernel) (isE _ _ p _ _ _ rfl (k3.tup hp) (iF (by decide +kernel) (isE _ _ p _ _ _ rfl (k3.tup hp) (iF (by decide +kernel) (body _ H3 rfl k3)))))))))
      · exact isE _ _ p _ _ _ rfl hp (iF (by decide +kernel) (isE _ _ p _ _ _ rfl hp (iF (by decide +kernel) (isG _ p _ _ _ rfl hp fun H3 k3 => iF (by decide +kernel) (isE _ _ p _ _ _ rfl (k3.tup hp) (iF (by decide +kernel) (isE _ _ p _ _ _ rfl (k3.tup hp) (iF (by decide +kernel) (body _ H3 rfl k3)))))))))
    | c1 hf hE =>
      rename_i ts a fn
      obtain ⟨p, rfl, hp⟩ := hI
      obtain ⟨us0, u, rfl, hT0, hu⟩ := split1 hT
      simp only [List.length_append, List.length_cons, List.length_nil] at hul htl
      refine isE _ _ p _ _ _ rfl hp (iT (by decide +kernel) ?_)
      refine ⟨_, rfl, _, rfl, p, _, 2, .int 1, rfl, rfl, SqT.of hp, rfl, _, rfl, _, rfl, st, _, rfl, SqL.of hst, fun c nc => ?_⟩
      have ec : cutV (us0 ++ [u]) none (some (-(1 : Int))) = us0 := cut_end (k := 1) rfl (by decide)
      rw [ec] at *
      have k4 : Kp [] H' (upd H' c (.lst us0)) := Kp.new nc
      have hst4 := k4.lst hst (by simp)
      refine ⟨_, rfl, p, _, 1, .str fn, rfl, rfl, SqT.of (k4.tup hp), rfl, _, rfl, _, rfl, p, _, 2, .int 1, rfl, rfl, SqT.of (k4.tup hp), rfl, _, rfl, _, rfl, st, _, rfl, SqL.of hst4, fun c2 nc2 => ?_⟩
      have ek : cutV (us0 ++ [u]) (some (-(1 : Int))) none = [u] := keep_end (k := 1) rfl (by decide)
      rw [ek] at *
      refine ⟨c2, [u], rfl, .inl ⟨SqL.of upd_same, fun tq ntq => ⟨by show 3 ≤ sizeLine; omega, fun y ny => ⟨by show 1 ≤ sizeLine; omega, fun z nz => ?_⟩⟩⟩⟩
      have k5 : Kp [] (upd H' c (.lst us0)) (upd (upd H' c (.lst us0)) c2 (.lst [u])) := Kp.new nc2
      have k6 := k5.trans (Kp.new (o := .tup [u]) ntq)
      have k7 := Kp.new (D := []) (o := .tup [.str "call", .str fn, .ref tq]) ny
      have k8 := Kp.new (D := []) (o := .lst [.ref y]) nz
      have kall := ((k4.trans k6).trans k7).trans k8
      refine ⟨c, z, us0, [.ref y], rfl, rfl, ((k6.trans k7).trans k8).lst (a := c) upd_same (by simp), upd_same, by simp only [List.length_cons, List.length_nil]; omega, fun r nr => ?_⟩
      exact renew _ r us0 ts (.ref y) (.call1 fn a) kall nr (hT0.kp kall) ⟨y, tq, u, rfl, k8.tup upd_same, (k7.trans k8).tup upd_same, hu.kp kall⟩ hE
    | c2 hf hE =>
      rename_i ts a b fn
      obtain ⟨p, rfl, hp⟩ := hI
      obtain ⟨us1, u2, rfl, hT1, hu2⟩ := split1 (ts := ts ++ [a]) (by simpa using hT)
      obtain ⟨us0, u1, rfl, hT0, hu1⟩ := split1 hT1
      rw [List.append_assoc] at hst hT hul
      simp only [List.length_append, List.length_cons, List.length_nil] at hul htl
      refine isE _ _ p _ _ _ rfl hp (iT (by decide +kernel) ?_)
      refine ⟨_, rfl, _, rfl, p, _, 2, .int 2, rfl, rfl, SqT.of hp, rfl, _, rfl, _, rfl, st, _, rfl, SqL.of hst, fun c nc => ?_⟩
      have ec : cutV (us0 ++ ([u1] ++ [u2])) none (some (-(2 : Int))) = us0 := cut_end (k := 2) rfl (by decide)
      rw [ec] at *
      have k4 : Kp [] H' (upd H' c (.lst us0)) := Kp.new nc
      have hst4 := k4.lst hst (by simp)
      refine ⟨_, rfl, p, _, 1, .str fn, rfl, rfl, SqT.of (k4.tup hp), rfl, _, rfl, _, rfl, p, _, 2, .int 2, rfl, rfl, SqT.of (k4.tup hp), rfl, _, rfl, _, rfl, st, _, rfl, SqL.of hst4, fun c2 nc2 => ?_⟩
      have ek : cutV (us0 ++ ([u1] ++ [u2])) (some (-(2 : Int))) none = [u1] ++ [u2] := keep_end (k := 2) rfl (by decide)
      rw [ek] at *
      refine ⟨c2, [u1] ++ [u2], rfl, .inl ⟨SqL.of upd_same, fun tq ntq => ⟨by show 3 ≤ sizeLine; omega, fun y ny => ⟨by show 1 ≤ sizeLine; omega, fun z nz => ?_⟩⟩⟩⟩
      have k5 : Kp [] (upd H' c (.lst us0)) (upd (upd H' c (.lst us0)) c2 (.lst ([u1] ++ [u2]))) := Kp.new nc2
      have k6 := k5.trans (Kp.new (o := .tup ([u1] ++ [u2])) ntq)
      have k7 := Kp.new (D := []) (o := .tup [.str "call", .str fn, .ref tq]) ny
      have k8 := Kp.new (D := []) (o := .lst [.ref y]) nz
      have kall := ((k4.trans k6).trans k7).trans k8
      refine ⟨c, z, us0, [.ref y], rfl, rfl, ((k6.trans k7).trans k8).lst (a := c) upd_same (by simp), upd_same, by simp only [List.length_cons, List.length_nil]; omega, fun r nr => ?_⟩
      exact renew _ r us0 ts (.ref y) (.call2 fn a b) kall nr (hT0.kp kall) ⟨y, tq, u1, u2, rfl, k8.tup upd_same, (k7.trans k8).tup upd_same, hu1.kp kall, hu2.kp kall⟩ hE
  · obtain ⟨st, us, ts, oi, rfl, k, hst0, hst, hT, hE⟩ := h
    rw [hlen, List.drop_length] at hE
    cases hE
    cases hT with
    | cons c1 c2 =>
      cases c2
      exact ⟨_, rfl, st, _, 0, _, rfl, rfl, SqL.of hst, rfl, q H' _ k c1⟩
end
end K2
set_option maxHeartbeats 4000000
/-! P19: the law's text of a row of signs. -/
namespace K2
open PySem PySem.Spec L2 DL
open PySem.W (Frag keepIn findIn typeIn subIn kitOne kitAny excIn)
open PyProof.Rows hiding St wpAt wpAt_bind wpAt_stack wpAt_mono
/-- how much a text binds, as the law counts -/
def Tr.ll : Tr → Nat
  | .minus _ => 1 | .pow _ _ => 3 | .bin .add _ _ => 0 | .bin .sub _ _ => 0 | .bin .mul _ _ => 2 | .bin .div _ _ => 2 | _ => 4
theorem Tr.ll_lv (t : Tr) : (2 ≤ t.ll ↔ 1 ≤ t.lv) ∧ (3 ≤ t.ll ↔ 2 ≤ t.lv) ∧ (4 ≤ t.ll ↔ 3 ≤ t.lv) := by
  cases t with
  | bin o a b => cases o <;> simp [Tr.ll, Tr.lv, Op.lv]
  | _ => simp [Tr.ll, Tr.lv]
theorem al_ll {ps : List Str} {l l' m m' : Nat} (h : m' ≤ l' ↔ m ≤ l) : AL (cat ps) l' m' = cat (wrp l m ps) := by
  rw [← al_wrp]
  unfold AL
  by_cases z : m ≤ l
  · rw [if_pos z, if_pos (h.mpr z)]
  · rw [if_neg z, if_neg (fun y => z (h.mp y))]
/-- elements of a stack -/
inductive RsAt (R : Tr → V → Prop) : List V → List Tr → Prop
  | nil : RsAt R [] []
  | cons {v : V} {t : Tr} {vs : List V} {ts : List Tr} : R t v → RsAt R vs ts → RsAt R (v :: vs) (t :: ts)
theorem RsAt.map {R R' : Tr → V → Prop} (k : ∀ t v, R t v → R' t v) : ∀ {vs : List V} {ts : List Tr}, RsAt R vs ts → RsAt R' vs ts
  | _, _, .nil => .nil
  | _, _, .cons a r => .cons (k _ _ a) (r.map k)
theorem RsAt.length {R : Tr → V → Prop} : ∀ {vs : List V} {ts : List Tr}, RsAt R vs ts → vs.length = ts.length
  | _, _, .nil => rfl
  | _, _, .cons _ r => congrArg (· + 1) r.length
theorem RsAt.append {R : Tr → V → Prop} {us : List V} {rs : List Tr} (h : RsAt R us rs) : ∀ {vs : List V} {ts : List Tr}, RsAt R vs ts → RsAt R (vs ++ us) (ts ++ rs)
  | _, _, .nil => h
  | _, _, .cons a r => .cons a (RsAt.append h r)
theorem RsAt.split {R : Tr → V → Prop} : ∀ {us : List V} {ts : List Tr} {a : Tr}, RsAt R us (ts ++ [a]) → ∃ us0 u, us = us0 ++ [u] ∧ RsAt R us0 ts ∧ R a u := by
  intro us ts
  induction ts generalizing us with
  | nil => intro a h; cases h with | cons c1 c2 => cases c2; exact ⟨[], _, rfl, .nil, c1⟩
  | cons t ts ih => intro a h; cases h with | cons c1 c2 => obtain ⟨us0, u, rfl, e1, e2⟩ := ih c2; exact ⟨_ :: us0, u, rfl, .cons c1 e1, e2⟩
/-- a text and how much it binds -/
def TxAt (H : Hp) (t : Tr) (v : V) : Prop := t.ok ∧ ∃ p, v = .ref p ∧ H p = some (.tup [.str (cat t.pr), .int (t.ll : Nat)])
theorem TxAt.kp {H H' : Hp} {D : List Addr} (k : Kp D H H') {t : Tr} {v : V} : TxAt H t v → TxAt H' t v := fun ⟨o, p, e, h⟩ => ⟨o, p, e, k.tup h⟩
def spRowText : Sp := fun vs H Q _ => ∃ (s o : V) (rl : Addr) (ivs : List V) (is : List It) (t : Tr), vs = [s, .ref rl, o] ∧ SpecAt H s ∧ H rl = some (.lst ivs) ∧ ItsAt H ivs is ∧ Ev [] is t ∧ t.sz ≤ 40 ∧ t.ok ∧ ∀ H', Kp [] H H' → Q (.str (cat t.pr)) H'
def InvX (H : Hp) (sv o : V) (rl : Addr) (t : Tr) (js : List It) : L2.St → Hp → Prop := fun σ H' => ∃ (st : Addr) (us : List V) (ts : List Tr) (oi o5 o6 o7 o8 o9 : Option V), σ = [some sv, some (.ref rl), some o, some (.ref st), oi, o5, o6, o7, o8, o9] ∧ Kp [] H H' ∧ H st = none ∧ H' st = some (.lst us) ∧ RsAt (TxAt H') us ts ∧ Ev ts js t
theorem InvX.push {H H' H2 : Hp} {sv o : V} {rl st : Addr} {t : Tr} {js : List It} {us2 : List V} {ts2 : List Tr} {v : V} {a : Tr} {oi o5 o6 o7 o8 o9 : Option V} (k : Kp [] H H') (hst0 : H st = none) (k2 : Kp [st] H' H2) (h2 : H2 st = some (.lst us2)) (hT2 : RsAt (TxAt H2) us2 ts2) (ha : TxAt H2 a v) (hE2 : Ev (ts2 ++ [a]) js t) :
    InvX H sv o rl t js [some sv, some (.ref rl), some o, some (.ref st), oi, o5, o6, o7, o8, o9] (upd H2 st (.lst (us2 ++ [v]))) := by
  have k3 : Kp [st] H2 (upd H2 st (.lst (us2 ++ [v]))) := Kp.put h2 rfl (by simp)
  exact ⟨st, us2 ++ [v], ts2 ++ [a], _, _, _, _, _, _, rfl, k.keep hst0 (k2.trans k3), hst0, upd_same, (RsAt.cons (ha.kp k3) .nil).append (hT2.map fun _ _ h => h.kp k3), hE2⟩
theorem InvX.renew {H H' H2 : Hp} {sv o : V} {rl r : Addr} {t : Tr} {js : List It} {us2 : List V} {ts2 : List Tr} {v : V} {a : Tr} {oi o5 o6 o7 o8 o9 : Option V} (k : Kp [] H H') (k2 : Kp [] H' H2) (h2 : H2 r = none) (hT2 : RsAt (TxAt H2) us2 ts2) (ha : TxAt H2 a v) (hE2 : Ev (ts2 ++ [a]) js t) :
    InvX H sv o rl t js [some sv, some (.ref rl), some o, some (.ref r), oi, o5, o6, o7, o8, o9] (upd H2 r (.lst (us2 ++ [v]))) := by
  have k3 : Kp [] H2 (upd H2 r (.lst (us2 ++ [v]))) := Kp.new h2
  have hr0 : H r = none := (k.trans k2).none_of h2 (fun b m => by cases m)
  exact ⟨r, us2 ++ [v], ts2 ++ [a], _, _, _, _, _, _, rfl, (k.trans k2).trans k3, hr0, upd_same, (RsAt.cons (ha.kp k3) .nil).append (hT2.map fun _ _ h => h.kp k3), hE2⟩
theorem Ev.ok {ts : List Tr} {is : List It} {t : Tr} (h : Ev ts is t) (hk : ∀ u ∈ ts, u.ok) : t.ok := by
  have sub : ∀ (ts : List Tr) (l : List Tr) (b : Tr), (∀ u ∈ ts ++ l, u.ok) → b.ok → ∀ u ∈ ts ++ [b], u.ok := fun ts l b h hb u m => by
    rcases List.mem_append.mp m with m | m
    · exact h u (List.mem_append_left _ m)
    · rw [List.mem_singleton.mp m]; exact hb
  induction h with
  | done => exact hk _ List.mem_cons_self
  | g hi _ ih => exact ih (sub _ [] _ (by simpa using hk) (gn_ok _))
  | n hm _ ih => exact ih (sub _ [] _ (by simpa using hk) hm)
  | @minus ts a _ _ _ ih => exact ih (sub _ _ _ hk (hk a (by simp)))
  | @pow ts a k _ _ h1 h2 _ ih => exact ih (sub _ _ _ hk ⟨hk a (by simp), h1, h2⟩)
  | @op ts a b o _ _ _ ih => exact ih (sub _ _ _ hk ⟨hk a (by simp), hk b (by simp)⟩)
  | @c1 ts a f _ _ hf _ ih => exact ih (sub _ _ _ hk ⟨hf, hk a (by simp)⟩)
  | @c2 ts a b f _ _ hf _ ih => exact ih (sub _ _ _ hk ⟨hf, hk a (by simp), hk b (by simp)⟩)
theorem op_least (o : Op) : ∃ (c m r : Nat), V.str o.s = V.str ⟨#[c]⟩ ∧ (if decide (c ∈ ("*/" : Str).cps.toList) = true then (2 : Int) else 0) = (m : Nat) ∧ (if decide (V.int (m : Nat) = V.int 2) = true then (3 : Int) else 2) = (r : Nat) ∧ (∀ a b, (Tr.bin o a b).ll = m) ∧ (∀ a : Tr, m ≤ a.ll ↔ o.lv ≤ a.lv) ∧ ∀ b : Tr, r ≤ b.ll ↔ o.lv + 1 ≤ b.lv := by
  cases o
  · exact ⟨43, 0, 2, congrArg V.str (by decide +kernel), by decide +kernel, by decide +kernel, fun _ _ => rfl, fun a => by simp [Op.lv], fun b => b.ll_lv.1⟩
  · exact ⟨45, 0, 2, congrArg V.str (by decide +kernel), by decide +kernel, by decide +kernel, fun _ _ => rfl, fun a => by simp [Op.lv], fun b => b.ll_lv.1⟩
  · exact ⟨42, 2, 3, congrArg V.str (by decide +kernel), by decide +kernel, by decide +kernel, fun _ _ => rfl, fun a => a.ll_lv.1, fun b => b.ll_lv.2.1⟩
  · exact ⟨47, 2, 3, congrArg V.str (by decide +kernel), by decide +kernel, by decide +kernel, fun _ _ => rfl, fun a => a.ll_lv.1, fun b => b.ll_lv.2.1⟩
theorem op_ne (o : Op) {c : Str} (h : c ∈ [("c" : Str), "minus", "^"]) : decide (V.str o.s = V.str c) = false := by
  simp only [List.mem_cons, List.not_mem_nil, or_false] at h
  rcases h with rfl | rfl | rfl <;> cases o <;> decide +kernel
theorem op_nin (o : Op) : inV (.str o.s) [.str "n", .str "a", .str "g", .str "l"] = false := by cases o <;> decide +kernel
theorem ite_int {b : Bool} {x y : Int} {σ : L2.St} {H : Hp} {P : VK} (h : P (.int (if b = true then x else y)) H) : if b = true then tC (.int x) σ H P else tC (.int y) σ H P := by
  cases b <;> exact h
section
variable {w : World} {K : Frag} {mg : Str → Option Value} {base : Heap} {f : Addr} {fd : FuncData} {dD dG dS : Addr}
theorem ok_law_within (F : L2.Fun K "_law_within" "_law_within" s_law_within f fd) : FnG prg w K mg base 1 f fd ["part", "least"] spAtLeast := by
  have S := fs_law_within
  refine fnG_mk F S (fun vs H Q E h => by obtain ⟨x, _, _, _, rfl, _⟩ := h; rfl) fun cdv A outer s H vs Q E hr gd hsp => ?_
  obtain ⟨p, x, l, m, rfl, hp, hx, q⟩ := hsp
  refine ⟨_, (pss_one (ps_ret (pe_ifExp (pt_cmpR op_ge (pe_ix ix_tup (pv 0) pe_int (fun _ _ => rfl)) (pv 1) (nomark _)) (pe_ix ix_tup (pv 0) pe_int (fun _ _ => rfl)) (pe_op op_add_str (pe_op op_add_str pe_str (pe_ix ix_tup (pv 0) pe_int (fun _ _ => rfl))) pe_str)))), ?_⟩
  have sl : sizeLine = 16777216 := sizeLine_eq
  have e1 : ("(" : Str).length = 1 := by decide +kernel
  have e2 : (")" : Str).length = 1 := by decide +kernel
  refine ⟨_, rfl, p, _, 1, .int l, rfl, rfl, SqT.of hp, rfl, _, rfl, _, _, rfl, rfl, _, rfl, ?_⟩
  unfold AL at q
  by_cases h : m ≤ l
  · rw [if_pos h] at q
    exact iT (decide_eq_true (by omega)) ⟨_, rfl, p, _, 0, .str x, rfl, rfl, SqT.of hp, rfl, q⟩
  · rw [if_neg h] at q
    refine iF (decide_eq_false (by omega)) ⟨_, rfl, p, _, 0, .str x, rfl, rfl, SqT.of hp, rfl, _, _, rfl, rfl, by omega, _, _, rfl, rfl, ?_, q⟩
    rw [app_length]
    omega
theorem ok_law_row_text (F : L2.Fun K "_law_row_text" "_law_row_text" s_law_row_text f fd) (T : K2.Nms mg) (c_law_name_of : Clb prg w K mg base 1 "_law_name_of" spNameOf []) (c_law_within : Clb prg w K mg base 1 "_law_within" spAtLeast []) : FnG prg w K mg base 2 f fd ["spec", "row", "own"] spRowText := by
  have S := fs_law_row_text
  refine fnG_mk F S (fun vs H Q E h => by obtain ⟨x, _, _, _, _, _, rfl, _⟩ := h; rfl) fun cdv A outer s H vs Q E hr gd hsp => ?_
  obtain ⟨sv, o, rl, ivs, is, t, rfl, hs, hrl, his, hev, hz, hok, q⟩ := hsp
  refine ⟨_, (pss_cons (ps_set (i := 3) S.nd rfl (Or.inl rfl) (pe_lst pa_nil))
    (pss_cons (ps_for PassesOwn.never rfl (pi_list (pv 1)) (pg_name (i := 4) S.nd rfl (Or.inl rfl)) (pss_one (ps_if (pt_cmpR op_eq (pe_ix ix_tup (pv 4) pe_int (fun _ _ => rfl)) pe_str (nomark _)) (pss_cons (ps_set (i := 5) S.nd rfl (Or.inl rfl) (pe_join pe_str (pe_lc (own := [("part", 9), ("least", 6)]) (g := gTup K 2 (gCons (gName 9) (gCons (gName 6) gNil))) (tt := tYes) (by rfl) S.nd (pi_list (pe_slice sl_list (pv 3) (po_some (pe_un un_neg (pe_ix ix_tup (pv 4) pe_int (fun _ _ => rfl)))) po_none)) (blkOk_by (own := [("part", 9), ("least", 6)]) (N := n_law_row_text) (sc := defScope s_law_row_text) (by decide +kernel)) (fun _ _ _ _ _ => (pg_tup rfl (pgs_cons (pg_name (i := 9) S.nd rfl (Or.inl rfl)) (pgs_cons (pg_name (i := 6) S.nd rfl (Or.inl rfl)) pgs_nil)))) (fun _ _ _ _ _ => pts_nil) (fun _ _ _ _ _ => (pv 9)))))
    (pss_one (ps_set (i := 3) S.nd rfl (Or.inl rfl) (pe_op op_cat (pe_slice sl_list (pv 3) po_none (po_some (pe_un un_neg (pe_ix ix_tup (pv 4) pe_int (fun _ _ => rfl))))) (pe_lst (pa_cons (pe_tup (pa_cons (pe_op op_add_str (pe_op op_add_str (pe_op op_add_str (pe_ix ix_tup (pv 4) pe_int (fun _ _ => rfl)) pe_str) (pv 5)) pe_str) (pa_cons pe_int pa_nil))) pa_nil)))))) (pss_one (ps_if (pt_cmpR op_in_seq (pe_ix ix_tup (pv 4) pe_int (fun _ _ => rfl)) (pe_tup (pa_cons pe_str (pa_cons pe_str (pa_cons pe_str (pa_cons pe_str pa_nil))))) rfl) (pss_one (ps_expr (pe_bm PySem.F.plainAttrs_list PySem.F.slot_list_append PySem.F.type_list_append mt_append (pv 3) (pa_cons (pe_tup (pa_cons (pe_ifExp (pt_cmpR op_eq (pe_ix ix_tup (pv 4) pe_int (fun _ _ => rfl)) pe_str (nomark _)) (pe_callTy call_strX (by rfl) T.n_str (by decide +kernel) (pa_cons (pe_ix ix_tup (pv 4) pe_int (fun _ _ => rfl)) pa_nil)) (pe_clb c_law_name_of hr (by decide) gd rfl (pa_cons (pv 0) (pa_cons (pv 4) (pa_cons (pv 2) pa_nil))))) (pa_cons pe_int pa_nil))) pa_nil)))) (pss_one (ps_if (pt_cmpR op_eq (pe_ix ix_tup (pv 4) pe_int (fun _ _ => rfl)) pe_str (nomark _)) (pss_one (ps_expr (pe_bm PySem.F.plainAttrs_list PySem.F.slot_list_append PySem.F.type_list_append mt_append (pv 3) (pa_cons (pe_tup (pa_cons (pe_op op_add_str pe_str (pe_clb c_law_within hr (by decide) gd rfl (pa_cons (pe_bm0 PySem.F.plainAttrs_list PySem.F.slot_list_pop PySem.F.type_list_pop mt_pop (pv 3)) (pa_cons pe_int pa_nil)))) (pa_cons pe_int pa_nil))) pa_nil)))) (pss_one (ps_if (pt_cmpR op_eq (pe_ix ix_tup (pv 4) pe_int (fun _ _ => rfl)) pe_str (nomark _)) (pss_one (ps_expr (pe_bm PySem.F.plainAttrs_list PySem.F.slot_list_append PySem.F.type_list_append mt_append (pv 3) (pa_cons (pe_tup (pa_cons (pe_op op_add_str (pe_op op_add_str (pe_clb c_law_within hr (by decide) gd rfl (pa_cons (pe_bm0 PySem.F.plainAttrs_list PySem.F.slot_list_pop PySem.F.type_list_pop mt_pop (pv 3)) (pa_cons pe_int pa_nil))) pe_str) (pe_callTy call_strX (by rfl) T.n_str (by decide +kernel) (pa_cons (pe_ix ix_tup (pv 4) pe_int (fun _ _ => rfl)) pa_nil))) (pa_cons pe_int pa_nil))) pa_nil)))) (pss_cons (ps_set (i := 6) S.nd rfl (Or.inl rfl) (pe_ifExp (pt_cmpR op_inS (pe_ix ix_tup (pv 4) pe_int (fun _ _ => rfl)) pe_str rfl) pe_int pe_int))
    (pss_cons (ps_par (i := 7) (j := 8) (by rfl) S.nd rfl rfl (by decide) rfl rfl (pa_cons (pe_clb c_law_within hr (by decide) gd rfl (pa_cons (pe_ix ix_list (pv 3) (pe_un un_neg pe_int) (fun _ _ => rfl)) (pa_cons (pv 6) pa_nil))) (pa_cons (pe_clb c_law_within hr (by decide) gd rfl (pa_cons (pe_ix ix_list (pv 3) (pe_un un_neg pe_int) (fun _ _ => rfl)) (pa_cons (pe_ifExp (pt_cmpR op_eq (pv 6) pe_int (nomark _)) pe_int pe_int) pa_nil))) pa_nil)) (by rfl))
    (pss_one (ps_set (i := 3) S.nd rfl (Or.inl rfl) (pe_op op_cat (pe_slice sl_list (pv 3) po_none (po_some (pe_un un_neg pe_int))) (pe_lst (pa_cons (pe_tup (pa_cons (pe_op op_add_str (pe_op op_add_str (pe_op op_add_str (pe_op op_add_str (pv 7) pe_str) (pe_ix ix_tup (pv 4) pe_int (fun _ _ => rfl))) pe_str) (pv 8)) (pa_cons (pv 6) pa_nil))) pa_nil))))))))))))))))
    (pss_one (ps_ret (pe_ix ix_tup (pe_ix ix_list (pv 3) pe_int (fun _ _ => rfl)) pe_int (fun _ _ => rfl)))))), ?_⟩
  have sl : sizeLine = 16777216 := sizeLine_eq
  have e1 : ("(" : Str).length = 1 := by decide +kernel
  have e2 : (")" : Str).length = 1 := by decide +kernel
  have e3 : ("-" : Str).length = 1 := by decide +kernel
  have e4 : (", " : Str).length = 2 := by decide +kernel
  have e5 : ("^" : Str).length = 1 := by decide +kernel
  have e6 : (" " : Str).length = 1 := by decide +kernel
  refine ⟨by show 0 ≤ sizeLine; omega, fun l0 n0 => ?_⟩
  have k0 : Kp [] H (upd H l0 (.lst [])) := Kp.new n0
  refine ⟨_, rfl, rl, rfl, ⟨_, SqL.of (k0.lst hrl (by simp))⟩, ?_⟩
  have hlen := his.length
  refine for_list (xs := ivs) (fun i σ H' => InvX H sv o rl t (is.drop i) σ H')
    ⟨l0, [], [], none, none, none, none, none, none, rfl, k0, n0, upd_same, .nil, hev⟩ (fun i σ H' _ h => by obtain ⟨_, _, _, _, _, _, _, _, _, _, k, _⟩ := h; exact SqL.of (k.lst hrl (by simp))) (fun i x σ H' hx h => ?_) fun σ H' h => ?_
  · obtain ⟨st, us, ts, oi, o5, o6, o7, o8, o9, rfl, k, hst0, hst, hT, hE⟩ := h
    obtain ⟨it, hit, hI0⟩ := his.get i hx
    have hI := hI0.kp k
    have hdr : is.drop i = it :: is.drop (i + 1) := by
      obtain ⟨lt, e⟩ := List.getElem?_eq_some_iff.mp hit
      rw [List.drop_eq_getElem_cons lt, e]
    rw [hdr] at hE
    have hsz := hE.sz
    have hul := hT.length
    have htl := sumSz_len ts
    -- the head's looks
    have isE : ∀ (c h : Str) (p : Addr) (xs : List V) (H2 : Hp) (P : Bool → Hp → Prop), x = .ref p → H2 p = some (.tup (.str h :: xs)) → P (decide (V.str h = V.str c)) H2 → tTest (tOp rEq (tOp (rIxT K) (tVar 4) (tC (.int 0))) (tC (.str c))) [some sv, some (.ref rl), some o, some (.ref st), some x, o5, o6, o7, o8, o9] H2 P := by
      rintro c h p xs H2 P rfl hp hP
      exact ⟨_, rfl, p, _, 0, .str h, rfl, rfl, SqT.of hp, atI_nat (j := 0) rfl, rfl, _, rfl, hP⟩
    have isG : ∀ (h : Str) (p : Addr) (xs : List V) (H2 : Hp) (P : Bool → Hp → Prop), x = .ref p → H2 p = some (.tup (.str h :: xs)) → (∀ H3, Kp [] H2 H3 → P (inV (.str h) [.str "n", .str "a", .str "g", .str "l"]) H3) → tTest (tOp (rIn K false) (tOp (rIxT K) (tVar 4) (tC (.int 0))) (tTup (tCons (tC (.str "n")) (tCons (tC (.str "a")) (tCons (tC (.str "g")) (tCons (tC (.str "l")) tNil)))))) [some sv, some (.ref rl), some o, some (.ref st), some x, o5, o6, o7, o8, o9] H2 P := by
      rintro h p xs H2 P rfl hp hP
      exact ⟨_, rfl, p, _, 0, .str h, rfl, rfl, SqT.of hp, atI_nat (j := 0) rfl, by show 4 ≤ sizeLine; omega, fun p2 n2 => ⟨p2, _, rfl, .inr (SqT.of upd_same), rfl, rfl, _, rfl, hP _ (Kp.new n2)⟩⟩
    cases hE with
    | g hi hE =>
      rename_i n
      obtain ⟨p, rfl, hp⟩ := hI
      refine isE _ _ p _ _ _ rfl hp (iF (by decide +kernel) (isG _ p _ _ _ rfl hp fun H3 k3 => iT (by decide +kernel) ?_))
      have hst3 := k3.lst hst (by simp)
      refine ⟨_, rfl, .inl ⟨rfl, _, SqL.of hst3⟩, isE _ _ p _ _ _ rfl (k3.tup hp) (iF (by decide +kernel) ⟨_, rfl, _, rfl, _, rfl, sv, _, o, n, rfl, (hs.kp k).kp k3, ⟨p, rfl, k3.tup hp⟩, hi, by show 2 ≤ sizeLine; omega, fun y ny => ?_⟩)⟩
      have k4 : Kp [] H3 (upd H3 y (.tup [.str (gn n), .int 4])) := Kp.new ny
      exact ⟨st, us, _, rfl, rfl, k4.lst hst3 (by simp), by omega, InvX.push k hst0 (Kp.of (k3.trans k4)) (k4.lst hst3 (by simp)) ((hT.map fun _ _ h => h.kp k3).map fun _ _ h => h.kp k4) (a := .nam (gn n)) ⟨gn_ok n, y, rfl, by refine upd_same.trans ?_; show _ = some (HO.tup [.str (cat [gn n]), .int 4]); rw [cat_one]⟩ hE⟩
    | n hm hE =>
      rename_i m
      obtain ⟨p, rfl, hp⟩ := hI
      refine isE _ _ p _ _ _ rfl hp (iF (by decide +kernel) (isG _ p _ _ _ rfl hp fun H3 k3 => iT (by decide +kernel) ?_))
      have hst3 := k3.lst hst (by simp)
      refine ⟨_, rfl, .inl ⟨rfl, _, SqL.of hst3⟩, isE _ _ p _ _ _ rfl (k3.tup hp) (iT (by decide +kernel) ⟨_, rfl, p, _, 1, .int (m : Nat), rfl, rfl, SqT.of (k3.tup hp), rfl, .inl ⟨_, rfl, small_log hm.2.2, by show 2 ≤ sizeLine; omega, fun y ny => ?_⟩⟩)⟩
      have k4 : Kp [] H3 (upd H3 y (.tup [.str (numT m), .int 4])) := Kp.new ny
      exact ⟨st, us, _, rfl, rfl, k4.lst hst3 (by simp), by omega, InvX.push k hst0 (Kp.of (k3.trans k4)) (k4.lst hst3 (by simp)) ((hT.map fun _ _ h => h.kp k3).map fun _ _ h => h.kp k4) (a := .val m) ⟨hm, y, rfl, by refine upd_same.trans ?_; show _ = some (HO.tup [.str (cat [numT m]), .int 4]); rw [cat_one]; rfl⟩ hE⟩
    | minus hE =>
      rename_i ts a
      obtain ⟨p, rfl, hp⟩ := hI
      obtain ⟨us0, u, rfl, hT0, hu⟩ := hT.split
      simp only [List.length_append, List.length_cons, List.length_nil] at hul htl
      rw [sumSz_append] at hsz htl
      simp only [sumSz] at hsz htl
      refine isE _ _ p _ _ _ rfl hp (iF (by decide +kernel) (isG _ p _ _ _ rfl hp fun H3 k3 => iF (by decide +kernel) (isE _ _ p _ _ _ rfl (k3.tup hp) (iT (by decide +kernel) ?_))))
      have hst3 := k3.lst hst (by simp)
      have k4 : Kp [st] H3 (upd H3 st (.lst us0)) := Kp.put hst3 rfl (by simp)
      obtain ⟨oka, pu, rfl, hpu⟩ := hu
      have hpl := Tr.pr_len oka
      have hal := al_len (cat a.pr) a.ll 2
      refine ⟨_, rfl, .inl ⟨rfl, _, SqL.of hst3⟩, _, rfl, .inl ⟨rfl, _, SqL.of hst3⟩, st, _, .ref pu, rfl, rfl, hst3, by simp, ?_⟩
      rw [List.dropLast_concat]
      refine ⟨pu, _, _, 2, rfl, k4.tup (k3.tup hpu), by omega, _, _, rfl, rfl, by omega, by show 2 ≤ sizeLine; omega, fun y ny => ?_⟩
      have k5 : Kp [] (upd H3 st (.lst us0)) (upd (upd H3 st (.lst us0)) y (.tup [.str ("-" ++ AL (cat a.pr) a.ll 2), .int 1])) := Kp.new ny
      have h5 := k5.lst (a := st) (xs := us0) upd_same (by simp)
      exact ⟨st, us0, _, rfl, rfl, h5, by omega, InvX.push k hst0 (((Kp.of k3).trans k4).trans (Kp.of k5)) h5 (((hT0.map fun _ _ h => h.kp k3).map fun _ _ h => h.kp k4).map fun _ _ h => h.kp k5) (a := .minus a) ⟨oka, y, rfl, by refine upd_same.trans ?_; show _ = some (HO.tup [.str (cat ([("-" : Str)] ++ wrp a.lv 1 a.pr)), .int 1]); rw [cat_app, cat_one, al_ll a.ll_lv.1]⟩ hE⟩
    | pow hk4 hko hE =>
      rename_i ts a kk
      obtain ⟨p, rfl, hp⟩ := hI
      obtain ⟨us0, u, rfl, hT0, hu⟩ := hT.split
      simp only [List.length_append, List.length_cons, List.length_nil] at hul htl
      rw [sumSz_append] at hsz htl
      simp only [sumSz] at hsz htl
      refine isE _ _ p _ _ _ rfl hp (iF (by decide +kernel) (isG _ p _ _ _ rfl hp fun H3 k3 => iF (by decide +kernel) (isE _ _ p _ _ _ rfl (k3.tup hp) (iF (by decide +kernel) (isE _ _ p _ _ _ rfl (k3.tup hp) (iT (by decide +kernel) ?_))))))
      have hst3 := k3.lst hst (by simp)
      have k4 : Kp [st] H3 (upd H3 st (.lst us0)) := Kp.put hst3 rfl (by simp)
      obtain ⟨oka, pu, rfl, hpu⟩ := hu
      have hpl := Tr.pr_len oka
      have hal := al_len (cat a.pr) a.ll 4
      have hnl := nu_len hko.1
      refine ⟨_, rfl, .inl ⟨rfl, _, SqL.of hst3⟩, _, rfl, .inl ⟨rfl, _, SqL.of hst3⟩, st, _, .ref pu, rfl, rfl, hst3, by simp, ?_⟩
      rw [List.dropLast_concat]
      refine ⟨pu, _, _, 4, rfl, k4.tup (k3.tup hpu), by omega, _, _, rfl, rfl, by omega, _, rfl, p, _, 1, .int (kk : Nat), rfl, rfl, SqT.of (k4.tup (k3.tup hp)), rfl, .inl ⟨_, rfl, small_log hko.2.2, _, _, rfl, rfl, ?_, by show 2 ≤ sizeLine; omega, fun y ny => ?_⟩⟩
      · show _ + (numT kk).length ≤ _
        rw [app_length]
        omega
      have k5 : Kp [] (upd H3 st (.lst us0)) (upd (upd H3 st (.lst us0)) y (.tup [.str (AL (cat a.pr) a.ll 4 ++ "^" ++ numT kk), .int 3])) := Kp.new ny
      have h5 := k5.lst (a := st) (xs := us0) upd_same (by simp)
      exact ⟨st, us0, _, rfl, rfl, h5, by omega, InvX.push k hst0 (((Kp.of k3).trans k4).trans (Kp.of k5)) h5 (((hT0.map fun _ _ h => h.kp k3).map fun _ _ h => h.kp k4).map fun _ _ h => h.kp k5) (a := .pow a kk) ⟨⟨oka, hk4, hko⟩, y, rfl, by refine upd_same.trans ?_; show _ = some (HO.tup [.str (cat (wrp a.lv 3 a.pr ++ [("^" : Str), numT kk])), .int 3]); rw [cat_app, cat_cons, cat_one, al_ll a.ll_lv.2.2, app_assoc]; rfl⟩ hE⟩
    | op hE =>
      rename_i ts a b op
      obtain ⟨p, rfl, hp⟩ := hI
      obtain ⟨us1, u2, rfl, hT1, hu2⟩ := RsAt.split (ts := ts ++ [a]) (by simpa using hT)
      obtain ⟨us0, u1, rfl, hT0, hu1⟩ := hT1.split
      rw [List.append_assoc] at hst hT hul
      simp only [List.length_append, List.length_cons, List.length_nil] at hul htl
      rw [sumSz_append] at hsz htl
      simp only [sumSz] at hsz htl
      obtain ⟨oka, pu, rfl, hpu⟩ := hu1
      obtain ⟨okb, pw, rfl, hpw⟩ := hu2
      have hpl := Tr.pr_len oka
      have hpl2 := Tr.pr_len okb
      have hol := op.s_len
      obtain ⟨cc, m, r, hcc, hm, hr2, hll, hma, hrb⟩ := op_least op
      refine isE _ _ p _ _ _ rfl hp (iF (op_ne op (by simp)) (isG _ p _ _ _ rfl hp fun H3 k3 => iF (op_nin op) (isE _ _ p _ _ _ rfl (k3.tup hp) (iF (op_ne op (by simp)) (isE _ _ p _ _ _ rfl (k3.tup hp) (iF (op_ne op (by simp)) ?_))))))
      have hst3 := k3.lst hst (by simp)
      refine ⟨_, rfl, p, _, 0, .str op.s, rfl, rfl, SqT.of (k3.tup hp), atI_nat (j := 0) rfl, cc, "*/", hcc, rfl, _, rfl, ite_int ?_⟩
      rw [hm]
      have hal := al_len (cat a.pr) a.ll m
      have hal2 := al_len (cat b.pr) b.ll r
      refine ⟨_, rfl, _, rfl, st, _, -2, .ref pu, rfl, rfl, SqL.of hst3, atI_2 _ _ _, _, rfl, pu, _, _, m, rfl, k3.tup hpu, by omega, ?_⟩
      refine ⟨_, rfl, _, rfl, st, _, -1, .ref pw, rfl, rfl, SqL.of hst3, atI_1 _ _ _, _, rfl, rfl, _, rfl, ite_int ?_⟩
      rw [hr2]
      refine ⟨pw, _, _, r, rfl, k3.tup hpw, by omega, _, _, rfl, ?_⟩
      refine ⟨_, rfl, _, rfl, _, rfl, st, _, rfl, SqL.of hst3, fun c nc => ?_⟩
      have ec : cutV (us0 ++ ([V.ref pu] ++ [V.ref pw])) none (some (-(2 : Int))) = us0 := cut_end (k := 2) rfl (by decide)
      rw [ec] at *
      have k4 : Kp [] H3 (upd H3 c (.lst us0)) := Kp.new nc
      have hst4 := k4.lst hst3 (by simp)
      refine ⟨_, rfl, _, _, rfl, rfl, by omega, _, rfl, p, _, 0, .str op.s, rfl, rfl, SqT.of (k4.tup (k3.tup hp)), atI_nat (j := 0) rfl, _, _, rfl, rfl, ?_, _, _, rfl, rfl, ?_, _, rfl, _, _, rfl, rfl, ?_, _, rfl, by show 2 ≤ sizeLine; omega, fun y ny => ⟨by show 1 ≤ sizeLine; omega, fun z nz => ?_⟩⟩
      · rw [app_length]; omega
      · rw [app_length, app_length]; omega
      · rw [app_length, app_length, app_length]; omega
      have k5 := Kp.new (D := []) (o := .tup [.str (AL (cat a.pr) a.ll m ++ " " ++ op.s ++ " " ++ AL (cat b.pr) b.ll r), .int (m : Nat)]) ny
      have k6 := Kp.new (D := []) (o := .lst [.ref y]) nz
      have k36 := ((k3.trans k4).trans k5).trans k6
      refine ⟨c, z, us0, [.ref y], rfl, rfl, (k5.trans k6).lst (a := c) upd_same (by simp), upd_same, by simp only [List.length_cons, List.length_nil]; omega, fun r' nr => ?_⟩
      refine InvX.renew k k36 nr (hT0.map fun _ _ h => h.kp k36) (a := .bin op a b) ⟨⟨oka, okb⟩, y, rfl, ?_⟩ hE
      rw [k6.tup upd_same, hll]
      show some (HO.tup [_, _]) = some (HO.tup [.str (cat (wrp a.lv op.lv a.pr ++ [(" " : Str), op.s, (" " : Str)] ++ wrp b.lv (op.lv + 1) b.pr)), .int (m : Nat)])
      rw [cat_app, cat_app, cat_cons, cat_cons, cat_one, al_ll (hma a), al_ll (hrb b)]
      simp only [app_assoc]
    | c1 hf hE =>
      rename_i ts a fn
      obtain ⟨p, rfl, hp⟩ := hI
      obtain ⟨us0, u, rfl, hT0, hu⟩ := hT.split
      simp only [List.length_append, List.length_cons, List.length_nil] at hul htl
      rw [sumSz_append] at hsz htl
      simp only [sumSz] at hsz htl
      obtain ⟨oka, pu, rfl, hpu⟩ := hu
      have hpl := Tr.pr_len oka
      have hfl := nm_len hf
      refine isE _ _ p _ _ _ rfl hp (iT (by decide +kernel) ?_)
      refine ⟨⟨_, rfl⟩, _, rfl, _, rfl, p, _, 2, .int 1, rfl, rfl, SqT.of hp, rfl, _, rfl, _, rfl, st, _, rfl, SqL.of hst, fun c2 nc2 => ?_⟩
      have ek : cutV (us0 ++ [V.ref pu]) (some (-(1 : Int))) none = [V.ref pu] := keep_end (k := 1) rfl (by decide)
      rw [ek] at *
      have kc := Kp.new (D := []) (o := .lst [V.ref pu]) nc2
      refine ⟨c2, rfl, ⟨_, SqL.of upd_same⟩, fun D nD => ?_⟩
      have dc : c2 ≠ D := ne_of_none (show (upd H' c2 (.lst [V.ref pu])) c2 = some _ from upd_same) nD
      have hpu1 := kc.tup hpu
      have hc1 : (upd H' c2 (.lst [V.ref pu])) c2 = some (.lst [V.ref pu]) := upd_same
      generalize upd H' c2 (.lst [V.ref pu]) = H1 at kc nD hpu1 hc1 ⊢
      refine lc_list (xs := [V.ref pu]) (fun i Hb => Kp [D] H1 Hb ∧ Hb D = some (.lst (([cat a.pr].take i).map V.str))) ⟨Kp.new nD, upd_same⟩ (fun i Hb _ h => SqL.of (h.1.lst hc1 (by simpa using dc))) (fun i x Hb hx h => ?_) fun Hb h => ?_
      · have hi : i = 0 := by
          have := (List.getElem?_eq_some_iff.mp hx).1
          simp at this
          exact this
        subst hi
        cases hx
        refine ⟨pu, _, rfl, SqT.of (h.1.tup hpu1), rfl, _, _, rfl, _, _, rfl, rfl, rfl, ?_⟩
        exact ⟨_, rfl, _, h.2, by show 0 < sizeLine; omega, h.1.trans (Kp.put h.2 rfl (by simp)), upd_same⟩
      have kb := kc.trans (h.1.drop nD)
      have ej : Txt.join ", " [cat a.pr] = cat a.pr := rfl
      refine ⟨_, D, [cat a.pr], rfl, rfl, .inl (SqL.of h.2), ?_, ?_⟩
      · simp only [List.map_cons, List.map_nil, List.sum_cons, List.sum_nil, List.length_cons, List.length_nil]
        omega
      rw [ej]
      have hpb := kb.tup hp
      have hstb := kb.lst hst (by simp)
      refine ⟨_, rfl, _, rfl, p, _, 2, .int 1, rfl, rfl, SqT.of hpb, rfl, _, rfl, _, rfl, st, _, rfl, SqL.of hstb, fun c nc => ?_⟩
      have ec : cutV (us0 ++ [V.ref pu]) none (some (-(1 : Int))) = us0 := cut_end (k := 1) rfl (by decide)
      rw [ec] at *
      have k4 : Kp [] Hb (upd Hb c (.lst us0)) := Kp.new nc
      refine ⟨_, rfl, p, _, 1, .str fn, rfl, rfl, SqT.of (k4.tup hpb), rfl, _, _, rfl, rfl, by omega, _, rfl, _, _, rfl, rfl, ?_, _, _, rfl, rfl, ?_, by show 2 ≤ sizeLine; omega, fun y ny => ⟨by show 1 ≤ sizeLine; omega, fun z nz => ?_⟩⟩
      · rw [app_length]; omega
      · rw [app_length, app_length]; omega
      have k5 := Kp.new (D := []) (o := .tup [.str (fn ++ "(" ++ cat a.pr ++ ")"), .int 4]) ny
      have k6 := Kp.new (D := []) (o := .lst [.ref y]) nz
      have kall := ((kb.trans k4).trans k5).trans k6
      refine ⟨c, z, us0, [.ref y], rfl, rfl, (k5.trans k6).lst (a := c) upd_same (by simp), upd_same, by simp only [List.length_cons, List.length_nil]; omega, fun r' nr => ?_⟩
      refine InvX.renew k kall nr (hT0.map fun _ _ h => h.kp kall) (a := .call1 fn a) ⟨⟨hf, oka⟩, y, rfl, ?_⟩ hE
      rw [k6.tup upd_same]
      show some (HO.tup [_, _]) = some (HO.tup [.str (cat ([fn, ("(" : Str)] ++ a.pr ++ [(")" : Str)])), .int 4])
      rw [cat_app, cat_app, cat_cons, cat_one, cat_one]
    | c2 hf hE =>
      rename_i ts a b fn
      obtain ⟨p, rfl, hp⟩ := hI
      obtain ⟨us1, u2, rfl, hT1, hu2⟩ := RsAt.split (ts := ts ++ [a]) (by simpa using hT)
      obtain ⟨us0, u1, rfl, hT0, hu1⟩ := hT1.split
      rw [List.append_assoc] at hst hT hul
      simp only [List.length_append, List.length_cons, List.length_nil] at hul htl
      rw [sumSz_append] at hsz htl
      simp only [sumSz] at hsz htl
      obtain ⟨oka, pu, rfl, hpu⟩ := hu1
      obtain ⟨okb, pw, rfl, hpw⟩ := hu2
      have hpl := Tr.pr_len oka
      have hpl2 := Tr.pr_len okb
      have hfl := nm_len hf
      refine isE _ _ p _ _ _ rfl hp (iT (by decide +kernel) ?_)
      refine ⟨⟨_, rfl⟩, _, rfl, _, rfl, p, _, 2, .int 2, rfl, rfl, SqT.of hp, rfl, _, rfl, _, rfl, st, _, rfl, SqL.of hst, fun c2 nc2 => ?_⟩
      have ek : cutV (us0 ++ ([V.ref pu] ++ [V.ref pw])) (some (-(2 : Int))) none = [V.ref pu, V.ref pw] := keep_end (k := 2) rfl (by decide)
      rw [ek] at *
      have kc := Kp.new (D := []) (o := .lst [V.ref pu, V.ref pw]) nc2
      refine ⟨c2, rfl, ⟨_, SqL.of upd_same⟩, fun D nD => ?_⟩
      have dc : c2 ≠ D := ne_of_none (show (upd H' c2 (.lst [V.ref pu, V.ref pw])) c2 = some _ from upd_same) nD
      have hpu1 := kc.tup hpu
      have hpw1 := kc.tup hpw
      have hc1 : (upd H' c2 (.lst [V.ref pu, V.ref pw])) c2 = some (.lst [V.ref pu, V.ref pw]) := upd_same
      generalize upd H' c2 (.lst [V.ref pu, V.ref pw]) = H1 at kc nD hpu1 hpw1 hc1 ⊢
      refine lc_list (xs := [V.ref pu, V.ref pw]) (fun i Hb => Kp [D] H1 Hb ∧ Hb D = some (.lst (([cat a.pr, cat b.pr].take i).map V.str))) ⟨Kp.new nD, upd_same⟩ (fun i Hb _ h => SqL.of (h.1.lst hc1 (by simpa using dc))) (fun i x Hb hx h => ?_) fun Hb h => ?_
      · have hi : i = 0 ∨ i = 1 := by
          have := (List.getElem?_eq_some_iff.mp hx).1
          simp at this
          omega
        rcases hi with rfl | rfl
        · cases hx
          refine ⟨pu, _, rfl, SqT.of (h.1.tup hpu1), rfl, _, _, rfl, _, _, rfl, rfl, rfl, ?_⟩
          exact ⟨_, rfl, _, h.2, by show 0 < sizeLine; omega, h.1.trans (Kp.put h.2 rfl (by simp)), upd_same⟩
        · cases hx
          refine ⟨pw, _, rfl, SqT.of (h.1.tup hpw1), rfl, _, _, rfl, _, _, rfl, rfl, rfl, ?_⟩
          exact ⟨_, rfl, _, h.2, by show 1 < sizeLine; omega, h.1.trans (Kp.put h.2 rfl (by simp)), upd_same⟩
      have kb := kc.trans (h.1.drop nD)
      have ej : Txt.join ", " [cat a.pr, cat b.pr] = cat a.pr ++ ", " ++ cat b.pr := rfl
      refine ⟨_, D, [cat a.pr, cat b.pr], rfl, rfl, .inl (SqL.of h.2), ?_, ?_⟩
      · simp only [List.map_cons, List.map_nil, List.sum_cons, List.sum_nil, List.length_cons, List.length_nil]
        omega
      rw [ej]
      have hpb := kb.tup hp
      have hstb := kb.lst hst (by simp)
      refine ⟨_, rfl, _, rfl, p, _, 2, .int 2, rfl, rfl, SqT.of hpb, rfl, _, rfl, _, rfl, st, _, rfl, SqL.of hstb, fun c nc => ?_⟩
      have ec : cutV (us0 ++ ([V.ref pu] ++ [V.ref pw])) none (some (-(2 : Int))) = us0 := cut_end (k := 2) rfl (by decide)
      rw [ec] at *
      have k4 : Kp [] Hb (upd Hb c (.lst us0)) := Kp.new nc
      refine ⟨_, rfl, p, _, 1, .str fn, rfl, rfl, SqT.of (k4.tup hpb), rfl, _, _, rfl, rfl, by omega, _, rfl, _, _, rfl, rfl, ?_, _, _, rfl, rfl, ?_, by show 2 ≤ sizeLine; omega, fun y ny => ⟨by show 1 ≤ sizeLine; omega, fun z nz => ?_⟩⟩
      · rw [app_length, app_length, app_length]; omega
      · rw [app_length, app_length, app_length, app_length]; omega
      have k5 := Kp.new (D := []) (o := .tup [.str (fn ++ "(" ++ (cat a.pr ++ ", " ++ cat b.pr) ++ ")"), .int 4]) ny
      have k6 := Kp.new (D := []) (o := .lst [.ref y]) nz
      have kall := ((kb.trans k4).trans k5).trans k6
      refine ⟨c, z, us0, [.ref y], rfl, rfl, (k5.trans k6).lst (a := c) upd_same (by simp), upd_same, by simp only [List.length_cons, List.length_nil]; omega, fun r' nr => ?_⟩
      refine InvX.renew k kall nr (hT0.map fun _ _ h => h.kp kall) (a := .call2 fn a b) ⟨⟨hf, oka, okb⟩, y, rfl, ?_⟩ hE
      rw [k6.tup upd_same]
      show some (HO.tup [_, _]) = some (HO.tup [.str (cat ([fn, ("(" : Str)] ++ a.pr ++ [("," : Str), (" " : Str)] ++ b.pr ++ [(")" : Str)])), .int 4])
      rw [cat_app, cat_app, cat_app, cat_app, cat_cons (p := fn), cat_cons (p := ("," : Str)), cat_one, cat_one, cat_one]
      rw [show (", " : Str) = "," ++ " " by decide +kernel]
      simp only [app_assoc]
  · obtain ⟨st, us, ts, oi, o5, o6, o7, o8, o9, rfl, k, hst0, hst, hT, hE⟩ := h
    rw [hlen, List.drop_length] at hE
    cases hE
    cases hT with
    | cons c1 c2 =>
      cases c2
      obtain ⟨oka, pu, rfl, hpu⟩ := c1
      exact ⟨_, rfl, st, _, 0, _, rfl, rfl, SqL.of hst, rfl, pu, _, 0, _, rfl, rfl, SqT.of hpu, rfl, q H' k⟩
end
end K2
set_option maxHeartbeats 4000000
/-! P20: the law's drawn rows of signs. -/
namespace K2
open PySem PySem.Spec L2 DL
open PySem.W (Frag keepIn findIn typeIn subIn kitOne kitAny excIn)
open PyProof.Rows hiding St wpAt wpAt_bind wpAt_stack wpAt_mono
theorem cut_take {xs : List V} (i : Nat) : cutV xs none (some (i : Int)) = xs.take i := by
  unfold cutV
  rw [HT.sIx_none, HT.sIx_nat]
  rcases Nat.le_total i xs.length with h | h
  · rw [Nat.min_eq_left h]; rfl
  · rw [Nat.min_eq_right h, List.take_of_length_le h]; simp
theorem cut_drop {xs : List V} (i : Nat) : cutV xs (some (i : Int)) none = xs.drop i := by
  unfold cutV
  rw [HT.sIx_none, HT.sIx_nat]
  rcases Nat.le_total i xs.length with h | h
  · rw [Nat.min_eq_left h, List.take_of_length_le (by rw [List.length_drop]; omega)]
  · rw [Nat.min_eq_right h, List.drop_of_length_le h]; simp
theorem branch2 {D : Ends} {t u : TS} {σ : L2.St} {H : Hp} (N : L2.St → Hp → Prop) (h : ∀ D' : Ends, (∀ σ' H', N σ' H' → D'.nx σ' H') → t D' σ H) (hN : ∀ σ' H', N σ' H' → u D σ' H') : tSeq t u D σ H := h _ hN
theorem branchG {i : Nat} {x : V} {D : Ends} {t u : TS} {σ : L2.St} {H : Hp} (N : L2.St → Hp → Prop) (h : ∀ D' : Ends, (∀ σ' H', N σ' H' → D'.nx σ' H') → t D' (σ.set i (some x)) H) (hN : ∀ σ' H', N σ' H' → u D σ' H') : gName i x σ H (tSeq t u D) := h _ hN
theorem Dr.ne {H : Hp} {a c : Addr} {k : Nat} (h : Dr H a k) (n : H c = none) : a ≠ c := by
  obtain ⟨f, s, e, _⟩ := h
  exact ne_of_none e n
/-- a row of signs of a tree, of bounded height and size -/
def PcX (D : List Addr) (H : Hp) (h s : Nat) (v : V) : Prop := ∃ (r : Addr) (ivs : List V) (is : List It) (t : Tr), v = .ref r ∧ r ∉ D ∧ H r = some (.lst ivs) ∧ ItsAt H ivs is ∧ Po is t ∧ t.ht ≤ h ∧ t.sz ≤ s
theorem PcX.kp {D D' : List Addr} {H H' : Hp} {h s : Nat} {v : V} (p : PcX D H h s v) (k : Kp D' H H') (sub : ∀ b ∈ D', b ∈ D) : PcX D H' h s v := by
  obtain ⟨r, ivs, is, t, e, hr, h1, h2, h3, h4, h5⟩ := p
  exact ⟨r, ivs, is, t, e, hr, k.lst h1 (fun m => hr (sub _ m)), h2.kp k, h3, h4, h5⟩
theorem PcX.mono {D : List Addr} {H : Hp} {h s h' s' : Nat} {v : V} (p : PcX D H h s v) (a : h ≤ h') (b : s ≤ s') : PcX D H h' s' v := by
  obtain ⟨r, ivs, is, t, e, hr, h1, h2, h3, h4, h5⟩ := p
  exact ⟨r, ivs, is, t, e, hr, h1, h2, h3, by omega, by omega⟩
theorem PcX.re {a p p' : Addr} {H : Hp} {h s : Nat} {v : V} (x : PcX [a, p] H h s v) (n : H p' = none) : PcX [a, p'] H h s v := by
  obtain ⟨r, ivs, is, t, e, hr, h1, h2, h3, h4, h5⟩ := x
  simp only [List.mem_cons, List.not_mem_nil, or_false, not_or] at hr
  exact ⟨r, ivs, is, t, e, by simp only [List.mem_cons, List.not_mem_nil, or_false, not_or]; exact ⟨hr.1, ne_of_none h1 n⟩, h1, h2, h3, h4, h5⟩
theorem Tr.sz_one (t : Tr) : 1 ≤ t.sz := t.sz_pos
theorem Po.len {is : List It} {t : Tr} (h : Po is t) : is.length ≤ t.sz := by
  have := h.whole.len
  simp only [sumSz] at this
  omega
inductive NsAt (R : Nat → V → Prop) : List V → List Nat → Prop
  | nil : NsAt R [] []
  | cons {v : V} {n : Nat} {vs : List V} {ns : List Nat} : R n v → NsAt R vs ns → NsAt R (v :: vs) (n :: ns)
theorem NsAt.map {R R' : Nat → V → Prop} (k : ∀ t v, R t v → R' t v) : ∀ {vs : List V} {ts : List Nat}, NsAt R vs ts → NsAt R' vs ts
  | _, _, .nil => .nil
  | _, _, .cons a r => .cons (k _ _ a) (r.map k)
theorem NsAt.length {R : Nat → V → Prop} : ∀ {vs : List V} {ts : List Nat}, NsAt R vs ts → vs.length = ts.length
  | _, _, .nil => rfl
  | _, _, .cons _ r => congrArg (· + 1) r.length
theorem NsAt.append {R : Nat → V → Prop} {us : List V} {rs : List Nat} (h : NsAt R us rs) : ∀ {vs : List V} {ts : List Nat}, NsAt R vs ts → NsAt R (vs ++ us) (ts ++ rs)
  | _, _, .nil => h
  | _, _, .cons a r => .cons a (NsAt.append h r)
/-- two elements beside one another -/
theorem NsAt.two {R : Nat → V → Prop} : ∀ {vs : List V} {ns : List Nat} (j : Nat), NsAt R vs ns → j + 1 < ns.length → ∃ v w m n, vs[j]? = some v ∧ vs[j + 1]? = some w ∧ ns[j]? = some m ∧ ns[j + 1]? = some n ∧ R m v ∧ R n w ∧ NsAt R (vs.take j) (ns.take j) ∧ NsAt R (vs.drop (j + 2)) (ns.drop (j + 2)) ∧ (ns.take j).sum + (m + n) + (ns.drop (j + 2)).sum = ns.sum
  | _, _, _, .nil, h => by simp at h
  | _, _, 0, .cons a .nil, h => by simp at h
  | _, _, 0, .cons (v := v) (n := m) a (.cons (v := w) (n := n) b r), h => ⟨v, w, m, n, rfl, rfl, rfl, rfl, a, b, .nil, r, by simp [Nat.add_assoc]⟩
  | _, _, j + 1, .cons (v := x) (n := l) a r, h => by
    obtain ⟨v, w, m, n, e1, e2, e3, e4, h1, h2, h3, h4, h5⟩ := r.two j (by simpa using h)
    exact ⟨v, w, m, n, e1, e2, e3, e4, h1, h2, .cons a h3, h4, by simp only [List.take_succ_cons, List.drop_succ_cons, List.sum_cons] at *; omega⟩
structure BasA (H H' : Hp) (a p : Addr) (k : Nat) (us : List V) (ns : List Nat) : Prop where
  kp : Kp [a] H H'
  p0 : H p = none
  dr : Dr H' a k
  hp : H' p = some (.lst us)
  ps : NsAt (fun n v => PcX [a, p] H' (2 * n - 1) (4 * n - 2) v) us ns
  ap : a ≠ p
theorem BasA.go {H H' H2 : Hp} {a p : Addr} {k k2 : Nat} {us : List V} {ns : List Nat} (b : BasA H H' a p k us ns) (k1 : Kp [a] H' H2) (d : Dr H2 a k2) : BasA H H2 a p k2 us ns :=
  ⟨b.kp.trans k1, b.p0, d, k1.lst b.hp (by simpa using b.ap.symm), b.ps.map fun _ _ h => h.kp k1 (by simp), b.ap⟩
theorem BasA.new {H H' H2 : Hp} {a p : Addr} {k : Nat} {us : List V} {ns : List Nat} (b : BasA H H' a p k us ns) (k1 : Kp [] H' H2) : BasA H H2 a p k us ns := b.go k1.of (b.dr.kp k1 (by simp))
/-- one more sign behind, in a new list -/
theorem app1 {H : Hp} {ivs : List V} {is : List It} {it : It} {xs : List V} {y z r : Addr} (its : ItsAt H ivs is) (ny : H y = none) (nz : upd H y (.tup xs) z = none) (nr : upd (upd H y (.tup xs)) z (.lst [.ref y]) r = none) (hit : ∀ H', H' y = some (.tup xs) → ItAt H' it (.ref y)) :
    Kp [] H (upd (upd (upd H y (.tup xs)) z (.lst [.ref y])) r (.lst (ivs ++ [.ref y]))) ∧ (upd (upd (upd H y (.tup xs)) z (.lst [.ref y])) r (.lst (ivs ++ [.ref y]))) r = some (.lst (ivs ++ [.ref y])) ∧ ItsAt (upd (upd (upd H y (.tup xs)) z (.lst [.ref y])) r (.lst (ivs ++ [.ref y]))) (ivs ++ [.ref y]) (is ++ [it]) ∧ H r = none := by
  have k1 := Kp.new (D := []) (o := .tup xs) ny
  have k2 := Kp.new (D := []) (o := .lst [.ref y]) nz
  have k3 := Kp.new (D := []) (o := .lst (ivs ++ [.ref y])) nr
  have kk := (k1.trans k2).trans k3
  exact ⟨kk, upd_same, (ItsAt.cons (hit _ ((k2.trans k3).tup upd_same)) .nil).append (its.kp kk), (k1.trans k2).none_of nr (fun b m => by cases m)⟩
theorem n0 : NumOk 0 := ⟨by decide +kernel, by decide +kernel, by decide⟩
theorem n1 : NumOk 1 := ⟨by decide +kernel, by decide +kernel, by decide⟩
theorem n2 : NumOk 2 := ⟨by decide +kernel, by decide +kernel, by decide⟩
theorem n3 : NumOk 3 := ⟨by decide +kernel, by decide +kernel, by decide⟩
theorem n4 : NumOk 4 := ⟨by decide +kernel, by decide +kernel, by decide⟩
theorem n10 : NumOk 10 := ⟨by decide +kernel, by decide +kernel, by decide⟩
theorem n305 : NumOk 305 := ⟨by decide +kernel, by decide +kernel, by decide⟩
theorem n999999 : NumOk 999999 := ⟨by decide +kernel, by decide +kernel, by decide⟩
theorem small_ok {k : Nat} (h : k ≤ 4) : NumOk k := by
  rcases (show k = 0 ∨ k = 1 ∨ k = 2 ∨ k = 3 ∨ k = 4 by omega) with rfl | rfl | rfl | rfl | rfl
  · exact n0
  · exact n1
  · exact n2
  · exact n3
  · exact n4
theorem some_num {v : V} (h : v ∈ [V.int 0, .int 1, .int 10, .int 305, .int 999999]) : ∃ m : Nat, v = .int (m : Nat) ∧ NumOk m := by
  simp only [List.mem_cons, List.not_mem_nil, or_false] at h
  rcases h with rfl | rfl | rfl | rfl | rfl
  · exact ⟨0, rfl, n0⟩
  · exact ⟨1, rfl, n1⟩
  · exact ⟨10, rfl, n10⟩
  · exact ⟨305, rfl, n305⟩
  · exact ⟨999999, rfl, n999999⟩
theorem some_op {v : V} (h : v ∈ [V.str "+", .str "-", .str "*", .str "/"]) : ∃ o : Op, v = .str o.s := by
  simp only [List.mem_cons, List.not_mem_nil, or_false] at h
  rcases h with rfl | rfl | rfl | rfl
  · exact ⟨.add, rfl⟩
  · exact ⟨.sub, rfl⟩
  · exact ⟨.mul, rfl⟩
  · exact ⟨.div, rfl⟩
theorem some_two {v : V} (h : v ∈ [V.str "dot", .str "cross", .str "at", .str "mid"]) : ∃ f : Str, v = .str f ∧ nmOk f = true := by
  simp only [List.mem_cons, List.not_mem_nil, or_false] at h
  rcases h with rfl | rfl | rfl | rfl
  · exact ⟨_, rfl, by decide +kernel⟩
  · exact ⟨_, rfl, by decide +kernel⟩
  · exact ⟨_, rfl, by decide +kernel⟩
  · exact ⟨_, rfl, by decide +kernel⟩
theorem some_one {v : V} (h : v ∈ [V.str "x", .str "y", .str "left"]) : ∃ f : Str, v = .str f ∧ nmOk f = true := by
  simp only [List.mem_cons, List.not_mem_nil, or_false] at h
  rcases h with rfl | rfl | rfl
  · exact ⟨_, rfl, by decide +kernel⟩
  · exact ⟨_, rfl, by decide +kernel⟩
  · exact ⟨_, rfl, by decide +kernel⟩
def spAny : Sp := fun vs H Q _ => ∃ (a : Addr) (sv : V) (n : Nat), vs = [.ref a, sv] ∧ SpecAt H sv ∧ Dr H a n ∧ n ≤ 99000 ∧
  ∀ H' (r : Addr) (ivs : List V) (is : List It) (t : Tr) (m : Nat), Kp [a] H H' → r ≠ a → H' r = some (.lst ivs) → ItsAt H' ivs is → Po is t → t.ht ≤ 11 → t.sz ≤ 22 → Dr H' a m → m ≤ n + 60 → Q (.ref r) H'
section
variable {w : World} {K : Frag} {mg : Str → Option Value} {base : Heap} {f : Addr} {fd : FuncData} {dD dG dS : Addr}
theorem ok_law_any (F : L2.Fun K "_law_any" "_law_any" s_law_any f fd) (T : K2.Nms mg) (c_law_take : Clb prg w K mg base 1 "_law_take" spTake []) (c_law_pick : Clb prg w K mg base 2 "_law_pick" spPick []) : FnG prg w K mg base 3 f fd ["draws", "spec"] spAny := by
  have S := fs_law_any
  refine fnG_mk F S (fun vs H Q E h => by obtain ⟨x, _, _, rfl, _⟩ := h; rfl) fun cdv A outer s H vs Q E hr gd hsp => ?_
  obtain ⟨a, sv, n, rfl, hs, hd0, hn, q⟩ := hsp
  refine ⟨_, (pss_cons (ps_set (i := 2) S.nd rfl (Or.inl rfl) (pe_lst pa_nil))
    (pss_cons (ps_for PassesOwn.never rfl (pi_range1 rfl T.n_range (pa_cons (pe_op op_add pe_int (pe_clb c_law_take hr (by decide) gd rfl (pa_cons (pv 0) (pa_cons pe_int pa_nil)))) pa_nil)) (pg_name (i := 3) S.nd rfl (Or.inl rfl)) (pss_cons (ps_set (i := 4) S.nd rfl (Or.inl rfl) (pe_clb c_law_take hr (by decide) gd rfl (pa_cons (pv 0) (pa_cons pe_int pa_nil))))
    (pss_cons (ps_set (i := 5) S.nd rfl (Or.inl rfl) (pe_lst (pa_cons (pe_tup (pa_cons pe_str (pa_cons (pe_clb c_law_take hr (by decide) gd rfl (pa_cons (pv 0) (pa_cons (pe_callB call_len_seq (by rfl) T.n_len (by decide +kernel) (pa_cons (pe_ix ix_tup (pv 1) pe_int (fun _ _ => rfl)) pa_nil)) pa_nil))) pa_nil))) pa_nil)))
    (pss_cons (ps_if (pt_cmpR op_lt (pv 4) pe_int (nomark _)) (pss_one (ps_set (i := 5) S.nd rfl (Or.inl rfl) (pe_lst (pa_cons (pe_tup (pa_cons pe_str (pa_cons (pe_clb c_law_pick hr (by decide) gd rfl (pa_cons (pv 0) (pa_cons (pe_lst (pa_cons pe_int (pa_cons pe_int (pa_cons pe_int (pa_cons pe_int (pa_cons pe_int pa_nil)))))) pa_nil))) pa_nil))) pa_nil)))) pss_nil)
    (pss_cons (ps_set (i := 4) S.nd rfl (Or.inl rfl) (pe_clb c_law_take hr (by decide) gd rfl (pa_cons (pv 0) (pa_cons pe_int pa_nil))))
    (pss_cons (ps_if (pt_cmpR op_eq (pv 4) pe_int (nomark _)) (pss_one (ps_set (i := 5) S.nd rfl (Or.inl rfl) (pe_op op_cat (pv 5) (pe_lst (pa_cons (pe_tup (pa_cons pe_str pa_nil)) pa_nil))))) (pss_one (ps_if (pt_cmpR op_eq (pv 4) pe_int (nomark _)) (pss_one (ps_set (i := 5) S.nd rfl (Or.inl rfl) (pe_op op_cat (pv 5) (pe_lst (pa_cons (pe_tup (pa_cons pe_str (pa_cons (pe_clb c_law_take hr (by decide) gd rfl (pa_cons (pv 0) (pa_cons pe_int pa_nil))) pa_nil))) pa_nil))))) pss_nil)))
    (pss_one (ps_expr (pe_bm PySem.F.plainAttrs_list PySem.F.slot_list_append PySem.F.type_list_append mt_append (pv 2) (pa_cons (pv 5) pa_nil))))))))))
    (pss_cons (ps_while PassesOwn.never (pt_cmpR op_gt (pe_callB call_len_seq (by rfl) T.n_len (by decide +kernel) (pa_cons (pv 2) pa_nil)) pe_int (nomark _)) (pss_cons (ps_par (i := 6) (j := 4) (by rfl) S.nd rfl rfl (by decide) rfl rfl (pa_cons (pe_clb c_law_take hr (by decide) gd rfl (pa_cons (pv 0) (pa_cons (pe_op op_sub (pe_callB call_len_seq (by rfl) T.n_len (by decide +kernel) (pa_cons (pv 2) pa_nil)) pe_int) pa_nil))) (pa_cons (pe_clb c_law_take hr (by decide) gd rfl (pa_cons (pv 0) (pa_cons pe_int pa_nil))) pa_nil)) (by rfl))
    (pss_cons (ps_set (i := 7) S.nd rfl (Or.inl rfl) (pe_op op_cat (pe_op op_cat (pe_ix ix_list (pv 2) (pv 6) (fun _ _ => rfl)) (pe_ix ix_list (pv 2) (pe_op op_add (pv 6) pe_int) (fun _ _ => rfl))) (pe_lst (pa_cons (pe_tup (pa_cons (pe_clb c_law_pick hr (by decide) gd rfl (pa_cons (pv 0) (pa_cons (pe_lst (pa_cons pe_str (pa_cons pe_str (pa_cons pe_str (pa_cons pe_str pa_nil))))) pa_nil))) pa_nil)) pa_nil))))
    (pss_cons (ps_if (pt_cmpR op_eq (pv 4) pe_int (nomark _)) (pss_one (ps_set (i := 7) S.nd rfl (Or.inl rfl) (pe_op op_cat (pe_op op_cat (pe_ix ix_list (pv 2) (pv 6) (fun _ _ => rfl)) (pe_ix ix_list (pv 2) (pe_op op_add (pv 6) pe_int) (fun _ _ => rfl))) (pe_lst (pa_cons (pe_tup (pa_cons pe_str (pa_cons (pe_clb c_law_pick hr (by decide) gd rfl (pa_cons (pv 0) (pa_cons (pe_lst (pa_cons pe_str (pa_cons pe_str (pa_cons pe_str (pa_cons pe_str pa_nil))))) pa_nil))) (pa_cons pe_int pa_nil)))) pa_nil))))) (pss_one (ps_if (pt_cmpR op_eq (pv 4) pe_int (nomark _)) (pss_one (ps_set (i := 7) S.nd rfl (Or.inl rfl) (pe_op op_cat (pv 7) (pe_lst (pa_cons (pe_tup (pa_cons pe_str pa_nil)) pa_nil))))) (pss_one (ps_if (pt_cmpR op_eq (pv 4) pe_int (nomark _)) (pss_one (ps_set (i := 7) S.nd rfl (Or.inl rfl) (pe_op op_cat (pv 7) (pe_lst (pa_cons (pe_tup (pa_cons pe_str (pa_cons (pe_clb c_law_take hr (by decide) gd rfl (pa_cons (pv 0) (pa_cons pe_int pa_nil))) pa_nil))) pa_nil))))) (pss_one (ps_if (pt_cmpR op_eq (pv 4) pe_int (nomark _)) (pss_one (ps_set (i := 7) S.nd rfl (Or.inl rfl) (pe_op op_cat (pv 7) (pe_lst (pa_cons (pe_tup (pa_cons pe_str (pa_cons (pe_clb c_law_pick hr (by decide) gd rfl (pa_cons (pv 0) (pa_cons (pe_lst (pa_cons pe_str (pa_cons pe_str (pa_cons pe_str pa_nil)))) pa_nil))) (pa_cons pe_int pa_nil)))) pa_nil))))) pss_nil)))))))
    (pss_one (ps_set (i := 2) S.nd rfl (Or.inl rfl) (pe_op op_cat (pe_op op_cat (pe_slice sl_list (pv 2) po_none (po_some (pv 6))) (pe_lst (pa_cons (pv 7) pa_nil))) (pe_slice sl_list (pv 2) (po_some (pe_op op_add (pv 6) pe_int)) po_none))))))))
    (pss_one (ps_ret (pe_ix ix_list (pv 2) pe_int (fun _ _ => rfl))))))), ?_⟩
  have sl : sizeLine = 16777216 := sizeLine_eq
  refine ⟨by show 0 ≤ sizeLine; omega, fun p np => ?_⟩
  have k0 : Kp [] H (upd H p (.lst [])) := Kp.new np
  have B0 : BasA H (upd H p (.lst [])) a p n [] [] := ⟨k0.of, np, hd0.kp k0 (by simp), upd_same, .nil, hd0.ne np⟩
  generalize upd H p (.lst []) = H0 at k0 B0 ⊢
  refine ⟨_, rfl, a, _, n, rfl, B0.dr, by omega, by decide, by decide, fun r0 H1 hr0 k1 hd1 => ⟨_, _, rfl, rfl, _, rfl, by omega, by omega, ?_⟩⟩
  have B1 := B0.go k1 hd1
  obtain ⟨sp, sq, r1, r2, r3, sd1, sd2, sd3, hsv, hs1, hs2, _⟩ := id hs
  refine for_range (n := (1 + (r0 : Int)).toNat) (fun i σ H' => ∃ (k : Nat) (us : List V) (ns : List Nat) (o3 o4 o5 o6 o7 : Option V), σ = [some (.ref a), some sv, some (.ref p), o3, o4, o5, o6, o7] ∧ BasA H H' a p k us ns ∧ k ≤ n + 1 + 5 * i ∧ ns.length = i ∧ ns.sum = i)
    ⟨n + 1, [], [], none, none, none, none, none, rfl, B1, by omega, rfl, rfl⟩ (fun i σ H' hi h => ?_) fun σ H' h => ?_
  · obtain ⟨k, us, ns, o3, o4, o5, o6, o7, rfl, B, hk, hl, hsum⟩ := h
    refine ⟨_, rfl, a, _, k, rfl, B.dr, by omega, by decide, by decide, fun w1 H2 _ k2 hd2 => ?_⟩
    have B2 := B.go k2 hd2
    subst hsv
    refine ⟨_, rfl, _, rfl, sp, _, 0, .ref sq, rfl, rfl, SqT.of (B2.kp.tup hs1), rfl, sq, _, rfl, .inr (SqT.of (B2.kp.tup hs2)), a, _, k + 1, rfl, hd2, by omega, by show (0 : Int) < 3; decide, by show (3 : Int) < 1000000; decide, fun g H3 hg k3 hd3 => ?_⟩
    have B3 := B2.go k3 hd3
    refine ⟨by show 2 ≤ sizeLine; omega, fun y ny => ⟨by show 1 ≤ sizeLine; omega, fun z nz => ?_⟩⟩
    have k4 : Kp [] H3 (upd (upd H3 y (.tup [.str "g", .int (g : Nat)])) z (.lst [.ref y])) := (Kp.new ny).trans (Kp.new nz)
    have B4 := B3.new k4
    have hz : ∃ ivs is t, (upd (upd H3 y (.tup [.str "g", .int (g : Nat)])) z (.lst [.ref y])) z = some (.lst ivs) ∧ ItsAt (upd (upd H3 y (.tup [.str "g", .int (g : Nat)])) z (.lst [.ref y])) ivs is ∧ Po is t ∧ t.ht = 0 ∧ t.sz = 1 :=
      ⟨_, [.g g], .nam (gn g), upd_same, .cons ⟨y, rfl, (Kp.new (D := []) nz).tup upd_same⟩ .nil, .g (by have : (g : Int) < 3 := hg; omega), rfl, rfl⟩
    have za : z ≠ a := ((hd3.kp (Kp.new (D := []) (o := .tup [.str "g", .int (g : Nat)]) ny) (by simp)).ne nz).symm
    have zp : z ≠ p := (ne_of_none ((Kp.new (D := []) (o := .tup [.str "g", .int (g : Nat)]) ny).lst B3.hp (by simp)) nz).symm
    generalize upd (upd H3 y (.tup [.str "g", .int (g : Nat)])) z (.lst [.ref y]) = H4 at k4 B4 hz ⊢
    dsimp only
    refine branchG (fun σ' H'' => ∃ (k' : Nat) (z : Addr) (ivs : List V) (is : List It) (t : Tr), σ' = [some (.ref a), some (.ref sp), some (.ref p), some (.int (0 + (i : Nat))), some (.int (w1 : Nat)), some (.ref z), o6, o7] ∧ BasA H H'' a p k' us ns ∧ k' ≤ k + 3 ∧ z ≠ a ∧ z ≠ p ∧ H'' z = some (.lst ivs) ∧ ItsAt H'' ivs is ∧ Po is t ∧ t.ht = 0 ∧ t.sz = 1) (fun D' hD' => ?_) fun σ' H'' h => ?_
    · refine ⟨_, rfl, _, _, rfl, rfl, _, rfl, ite2 (fun _ => ?_) fun _ => ?_⟩
      · refine ⟨_, rfl, by show 5 ≤ sizeLine; omega, fun pl npl => ?_⟩
        have k5 := Kp.new (D := []) (o := .lst [V.int 0, .int 1, .int 10, .int 305, .int 999999]) npl
        have B5 := B4.new k5
        refine ⟨a, pl, k + 2, _, rfl, B5.dr, by omega, upd_same, (hd3.kp k4 (by simp)).ne npl |>.symm, by decide, by decide, fun v H6 hv k6 hd6 => ?_⟩
        obtain ⟨m, rfl, hm⟩ := some_num hv
        have B6 := B5.go k6 hd6
        refine ⟨by show 2 ≤ sizeLine; omega, fun y2 ny2 => ⟨by show 1 ≤ sizeLine; omega, fun z2 nz2 => ?_⟩⟩
        have k7 : Kp [] H6 (upd (upd H6 y2 (.tup [.str "n", .int (m : Nat)])) z2 (.lst [.ref y2])) := (Kp.new ny2).trans (Kp.new nz2)
        have ka := Kp.new (D := []) (o := .tup [.str "n", .int (m : Nat)]) ny2
        exact hD' _ _ ⟨k + 3, z2, _, [.n m], .val m, rfl, B6.new k7, by omega, ((hd6.kp ka (by simp)).ne nz2).symm, (ne_of_none (ka.lst B6.hp (by simp)) nz2).symm, upd_same, .cons ⟨y2, rfl, (Kp.new (D := []) nz2).tup upd_same⟩ .nil, .n hm, rfl, rfl⟩
      · obtain ⟨ivs, is, t, h1, h2, h3, h4, h5⟩ := hz
        exact hD' _ _ ⟨k + 2, z, ivs, is, t, rfl, B4, by omega, za, zp, h1, h2, h3, h4, h5⟩
    clear hz za zp B4 k4 H4 hg B3 k3 hd3 ny nz
    obtain ⟨k', z, ivs, is, t, rfl, B, hk', za, zp, hz, hits, hpo, hh, hsz⟩ := h
    refine ⟨_, rfl, a, _, k', rfl, B.dr, by omega, by decide, by decide, fun w2 H5 _ k5 hd5 => ?_⟩
    have B5 := B.go k5 hd5
    have hz5 := k5.lst hz (by simpa using za)
    have its5 := hits.kp k5
    have hlen := hits.length
    have hpl := hpo.len
    dsimp only
    refine branchG (fun σ' H6 => ∃ (k'' : Nat) (v : V) (o4 : Option V), σ' = [some (.ref a), some (.ref sp), some (.ref p), some (.int (0 + (i : Nat))), o4, some v, o6, o7] ∧ BasA H H6 a p k'' us ns ∧ k'' ≤ k' + 2 ∧ PcX [a, p] H6 1 2 v) (fun D' hD' => ?_) fun σ' H6 h => ?_
    · refine ⟨_, rfl, rfl, _, rfl, ite2 (fun _ => ?_) fun _ => ⟨_, rfl, rfl, _, rfl, ite2 (fun _ => ?_) fun _ => ?_⟩⟩
      · refine ⟨_, rfl, by show 1 ≤ sizeLine; omega, fun y ny => ⟨by show 1 ≤ sizeLine; omega, fun z2 nz2 => ?_⟩⟩
        have ka := (Kp.new (D := []) (o := .tup [.str "minus"]) ny).trans (Kp.new (o := .lst [.ref y]) nz2)
        refine ⟨z, z2, ivs, [.ref y], rfl, rfl, ka.lst hz5 (by simp), upd_same, by simp only [List.length_cons, List.length_nil]; omega, fun r nr => ?_⟩
        obtain ⟨kk, e1, e2, e3⟩ := app1 (it := .minus) its5 ny nz2 nr (fun H' h => ⟨y, rfl, h⟩)
        exact hD' _ _ ⟨k' + 1, .ref r, _, rfl, B5.new kk, by omega, r, _, _, .minus t, rfl, by simp only [List.mem_cons, List.not_mem_nil, or_false, not_or]; exact ⟨(hd5.ne e3).symm, (ne_of_none B5.hp e3).symm⟩, e1, e2, .minus hpo, by simp only [Tr.ht]; omega, by simp only [Tr.sz]; omega⟩
      · refine ⟨_, rfl, _, rfl, a, _, k' + 1, rfl, hd5, by omega, by decide, by decide, fun pw H7 hpw k7 hd7 => ?_⟩
        have B7 := B5.go k7 hd7
        have hz7 := k7.lst hz5 (by simpa using za)
        have its7 := its5.kp k7
        have hp4 : pw ≤ 4 := by have : (pw : Int) < 5 := hpw; omega
        refine ⟨by show 2 ≤ sizeLine; omega, fun y ny => ⟨by show 1 ≤ sizeLine; omega, fun z2 nz2 => ?_⟩⟩
        have ka := (Kp.new (D := []) (o := .tup [.str "^", .int (pw : Nat)]) ny).trans (Kp.new (o := .lst [.ref y]) nz2)
        refine ⟨z, z2, ivs, [.ref y], rfl, rfl, ka.lst hz7 (by simp), upd_same, by simp only [List.length_cons, List.length_nil]; omega, fun r nr => ?_⟩
        obtain ⟨kk, e1, e2, e3⟩ := app1 (it := .pow pw) its7 ny nz2 nr (fun H' h => ⟨y, rfl, h⟩)
        exact hD' _ _ ⟨k' + 2, .ref r, _, rfl, B7.new kk, by omega, r, _, _, .pow t pw, rfl, by simp only [List.mem_cons, List.not_mem_nil, or_false, not_or]; exact ⟨(hd7.ne e3).symm, (ne_of_none B7.hp e3).symm⟩, e1, e2, .pow hp4 (small_ok hp4) hpo, by simp only [Tr.ht]; omega, by simp only [Tr.sz]; omega⟩
      · exact hD' _ _ ⟨k' + 1, .ref z, _, rfl, B5, by omega, z, ivs, is, t, rfl, by simp only [List.mem_cons, List.not_mem_nil, or_false, not_or]; exact ⟨za, zp⟩, hz5, its5, hpo, by omega, by omega⟩
    obtain ⟨k'', v, o4', rfl, B6, hk'', hv⟩ := h
    have hul := B6.ps.length
    refine ⟨_, rfl, .inl ⟨rfl, _, SqL.of B6.hp⟩, _, rfl, p, us, v, rfl, rfl, B6.hp, by omega, k'', us ++ [v], ns ++ [1], _, _, _, _, _, rfl, ?_, by omega, by simp [hl], by simp [hsum]⟩
    have kp6 : Kp [p] H6 (upd H6 p (.lst (us ++ [v]))) := Kp.put B6.hp rfl (by simp)
    exact ⟨B6.kp.keep np kp6, np, B6.dr.kp kp6 (by simpa using B6.ap), upd_same, (NsAt.cons (R := fun n v => PcX [a, p] _ (2 * n - 1) (4 * n - 2) v) (hv.kp kp6 (by simp)) .nil).append (B6.ps.map fun _ _ h => h.kp kp6 (by simp)), B6.ap⟩
  obtain ⟨k, us, ns, o3, o4, o5, o6, o7, rfl, B, hk, hl, hsum⟩ := h
  have hr6 : (r0 : Int) < 6 := hr0
  refine ⟨fun m σ H' => ∃ (k : Nat) (p : Addr) (us : List V) (ns : List Nat) (o3 o4 o5 o6 o7 : Option V), σ = [some (.ref a), some sv, some (.ref p), o3, o4, o5, o6, o7] ∧ BasA H H' a p k us ns ∧ k + 4 * ns.length ≤ n + 60 ∧ ns.length = m ∧ 1 ≤ m ∧ m ≤ 6 ∧ ns.sum ≤ 6,
    ⟨_, k, p, us, ns, o3, o4, o5, o6, o7, rfl, B, by omega, rfl, by omega, by omega, by omega⟩, fun m σ H' h => ?_⟩
  clear B hk hl hsum
  obtain ⟨k, p, us, ns, o3, o4, o5, o6, o7, rfl, B, hk, rfl, hm1, hm6, hsum⟩ := h
  have hul := B.ps.length
  refine ⟨_, rfl, p, us, rfl, .inl (SqL.of B.hp), _, _, rfl, rfl, _, rfl, ?_⟩
  by_cases hgt : 1 < ns.length
  · refine iT (decide_eq_true (by omega)) ⟨fun σ' H'' => ∃ m', m' < ns.length ∧ ∃ (k : Nat) (p : Addr) (us : List V) (ns : List Nat) (o3 o4 o5 o6 o7 : Option V), σ' = [some (.ref a), some sv, some (.ref p), o3, o4, o5, o6, o7] ∧ BasA H H'' a p k us ns ∧ k + 4 * ns.length ≤ n + 60 ∧ ns.length = m' ∧ 1 ≤ m' ∧ m' ≤ 6 ∧ ns.sum ≤ 6, fun _ _ q => q, ?_⟩
    refine ⟨_, rfl, _, rfl, p, us, rfl, .inl (SqL.of B.hp), _, _, rfl, rfl, a, _, k, rfl, B.dr, by omega, by omega, by omega, fun at_ H1 hat k1 hd1 => ?_⟩
    have B1 := B.go k1 hd1
    refine ⟨_, rfl, a, _, k + 1, rfl, hd1, by omega, by decide, by decide, fun w1 H2 _ k2 hd2 => ⟨_, _, rfl, ?_⟩⟩
    have B2 := B1.go k2 hd2
    obtain ⟨v1, v2, m1, m2, hv1, hv2, hm1', hm2', hp1, hp2, hn1, hn2, hsm⟩ := B2.ps.two at_ (by omega)
    obtain ⟨x1, ivs1, is1, t1, rfl, hx1, hl1, its1, po1, ht1, sz1⟩ := hp1
    obtain ⟨x2, ivs2, is2, t2, rfl, hx2, hl2, its2, po2, ht2, sz2⟩ := hp2
    have hm12 : m1 + m2 ≤ 6 := by omega
    have g1 := t1.sz_one
    have g2 := t2.sz_one
    have l1 := its1.length
    have l2 := its2.length
    have q1 := po1.len
    have q2 := po2.len
    simp only [List.mem_cons, List.not_mem_nil, or_false, not_or] at hx1 hx2
    refine ⟨_, rfl, _, rfl, p, us, _, .ref x1, rfl, rfl, SqL.of B2.hp, atI_nat hv1, _, rfl, _, rfl, _, _, rfl, rfl, p, us, ((at_ + 1 : Nat) : Int), .ref x2, rfl, rfl, SqL.of B2.hp, atI_nat hv2, x1, x2, ivs1, ivs2, rfl, rfl, hl1, hl2, by omega, fun c nc => ?_⟩
    have kc := Kp.new (D := []) (o := .lst (ivs1 ++ ivs2)) nc
    have B3 := B2.new kc
    have hc3 : (upd H2 c (.lst (ivs1 ++ ivs2))) c = some (.lst (ivs1 ++ ivs2)) := upd_same
    have its3 := ((its2.kp kc).append (its1.kp kc))
    have ca : c ≠ a := (hd2.ne nc).symm
    have hl13 := kc.lst hl1 (by simp)
    have hl23 := kc.lst hl2 (by simp)
    generalize upd H2 c (.lst (ivs1 ++ ivs2)) = H3 at kc B3 hc3 its3 hl13 hl23 ⊢
    refine ⟨_, rfl, by show 4 ≤ sizeLine; omega, fun pl npl => ?_⟩
    have k5 := Kp.new (D := []) (o := .lst [V.str "+", .str "-", .str "*", .str "/"]) npl
    have B5 := B3.new k5
    refine ⟨a, pl, k + 2, _, rfl, B5.dr, by omega, upd_same, (B3.dr.ne npl).symm, by decide, by decide, fun v H6 hv k6 hd6 => ?_⟩
    obtain ⟨op, rfl⟩ := some_op hv
    have B6 := B5.go k6 hd6
    refine ⟨by show 1 ≤ sizeLine; omega, fun y ny => ⟨by show 1 ≤ sizeLine; omega, fun z nz => ?_⟩⟩
    have k36 := k5.of.trans k6
    have its6 := its3.kp k36
    have hc6 := k36.lst hc3 (by simpa using ca)
    have hl16 := k36.lst hl13 (by simpa using hx1.1)
    have hl26 := k36.lst hl23 (by simpa using hx2.1)
    have its16 := (its1.kp kc).kp k36
    have its26 := (its2.kp kc).kp k36
    have ka := (Kp.new (D := []) (o := .tup [.str op.s]) ny).trans (Kp.new (o := .lst [.ref y]) nz)
    refine ⟨c, z, _, [.ref y], rfl, rfl, ka.lst hc6 (by simp), upd_same, by simp only [List.length_cons, List.length_nil, List.length_append]; omega, fun r nr => ?_⟩
    obtain ⟨kk, e1, e2, e3⟩ := app1 (it := .op op) its6 ny nz nr (fun H' h => ⟨y, rfl, h⟩)
    have B7 := B6.new kk
    have hl17 := kk.lst hl16 (by simp)
    have hl27 := kk.lst hl26 (by simp)
    have its17 := its16.kp kk
    have its27 := its26.kp kk
    have ra : r ≠ a := (hd6.ne e3).symm
    have rp : r ≠ p := (ne_of_none B6.hp e3).symm
    generalize upd (upd (upd H6 y (.tup [.str op.s])) z (.lst [.ref y])) r (.lst (ivs1 ++ ivs2 ++ [.ref y])) = H7 at e1 e2 kk B7 hl17 hl27 its17 its27 ⊢
    clear its1 its2 its3 its6 its16 its26 hc3 hc6 hl1 hl2 hl13 hl23 hl16 hl26 ka kk k36 k5 k6 kc B2 B3 B5 B6 hn1 hn2 hsm hd6 hd2 nr ny nz npl nc e3
    dsimp only
    refine branchG (fun σ' H6 => ∃ (k' : Nat) (v : V), σ' = [some (.ref a), some sv, some (.ref p), o3, some (.int (w1 : Nat)), o5, some (.int (at_ : Nat)), some v] ∧ BasA H H6 a p k' us ns ∧ k' ≤ k + 4 ∧ PcX [a, p] H6 (2 * (m1 + m2) - 1) (4 * (m1 + m2) - 2) v) (fun D' hD' => ?_) fun σ' H8 h => ?_
    · refine ⟨_, rfl, rfl, _, rfl, ite2 (fun _ => ?_) fun _ => ⟨_, rfl, rfl, _, rfl, ite2 (fun _ => ?_) fun _ => ⟨_, rfl, rfl, _, rfl, ite2 (fun _ => ?_) fun _ => ⟨_, rfl, rfl, _, rfl, ite2 (fun _ => ?_) fun _ => ?_⟩⟩⟩⟩
      · refine ⟨_, rfl, _, rfl, p, us, _, .ref x1, rfl, rfl, SqL.of B7.hp, atI_nat hv1, _, rfl, _, rfl, _, _, rfl, rfl, p, us, ((at_ + 1 : Nat) : Int), .ref x2, rfl, rfl, SqL.of B7.hp, atI_nat hv2, x1, x2, ivs1, ivs2, rfl, rfl, hl17, hl27, by omega, fun c nc => ?_⟩
        have kc := Kp.new (D := []) (o := .lst (ivs1 ++ ivs2)) nc
        have B3 := B7.new kc
        have hc3 : (upd H7 c (.lst (ivs1 ++ ivs2))) c = some (.lst (ivs1 ++ ivs2)) := upd_same
        have its3 := ((its27.kp kc).append (its17.kp kc))
        have ca : c ≠ a := (B7.dr.ne nc).symm
        refine ⟨_, rfl, by show 4 ≤ sizeLine; omega, fun pl npl => ?_⟩
        have k5 := Kp.new (D := []) (o := .lst [V.str "dot", .str "cross", .str "at", .str "mid"]) npl
        have B5 := B3.new k5
        refine ⟨a, pl, k + 3, _, rfl, B5.dr, by omega, upd_same, (B3.dr.ne npl).symm, by decide, by decide, fun v H6 hv k6 hd6 => ?_⟩
        obtain ⟨fn, rfl, hfn⟩ := some_two hv
        have B6 := B5.go k6 hd6
        refine ⟨by show 3 ≤ sizeLine; omega, fun y ny => ⟨by show 1 ≤ sizeLine; omega, fun z nz => ?_⟩⟩
        have k36 := k5.of.trans k6
        have its6 := its3.kp k36
        have hc6 := k36.lst hc3 (by simpa using ca)
        have ka := (Kp.new (D := []) (o := .tup [.str "c", .str fn, .int 2]) ny).trans (Kp.new (o := .lst [.ref y]) nz)
        refine ⟨c, z, _, [.ref y], rfl, rfl, ka.lst hc6 (by simp), upd_same, by simp only [List.length_cons, List.length_nil, List.length_append]; omega, fun r nr => ?_⟩
        obtain ⟨kk, e1, e2, e3⟩ := app1 (it := .c2 fn) its6 ny nz nr (fun H' h => ⟨y, rfl, h⟩)
        exact hD' _ _ ⟨k + 4, .ref r, rfl, B6.new kk, by omega, r, _, _, .call2 fn t1 t2, rfl, by simp only [List.mem_cons, List.not_mem_nil, or_false, not_or]; exact ⟨(hd6.ne e3).symm, (ne_of_none B6.hp e3).symm⟩, e1, e2, .c2 hfn po1 po2, by simp only [Tr.ht]; omega, by simp only [Tr.sz]; omega⟩
      · refine ⟨_, rfl, by show 1 ≤ sizeLine; omega, fun y ny => ⟨by show 1 ≤ sizeLine; omega, fun z2 nz2 => ?_⟩⟩
        have ka := (Kp.new (D := []) (o := .tup [.str "minus"]) ny).trans (Kp.new (o := .lst [.ref y]) nz2)
        refine ⟨r, z2, _, [.ref y], rfl, rfl, ka.lst e1 (by simp), upd_same, by simp only [List.length_cons, List.length_nil, List.length_append]; omega, fun r nr => ?_⟩
        obtain ⟨kk, e1, e2, e3⟩ := app1 (it := .minus) e2 ny nz2 nr (fun H' h => ⟨y, rfl, h⟩)
        exact hD' _ _ ⟨k + 3, .ref r, rfl, B7.new kk, by omega, r, _, _, .minus (.bin op t1 t2), rfl, by simp only [List.mem_cons, List.not_mem_nil, or_false, not_or]; exact ⟨(B7.dr.ne e3).symm, (ne_of_none B7.hp e3).symm⟩, e1, e2, .minus (.op po1 po2), by simp only [Tr.ht]; omega, by simp only [Tr.sz]; omega⟩
      · refine ⟨_, rfl, _, rfl, a, _, k + 3, rfl, B7.dr, by omega, by decide, by decide, fun pw H9 hpw k9 hd9 => ?_⟩
        have B9 := B7.go k9 hd9
        have e19 := k9.lst e1 (by simpa using ra)
        have e29 := e2.kp k9
        have hp4 : pw ≤ 4 := by have : (pw : Int) < 5 := hpw; omega
        refine ⟨by show 2 ≤ sizeLine; omega, fun y ny => ⟨by show 1 ≤ sizeLine; omega, fun z2 nz2 => ?_⟩⟩
        have ka := (Kp.new (D := []) (o := .tup [.str "^", .int (pw : Nat)]) ny).trans (Kp.new (o := .lst [.ref y]) nz2)
        refine ⟨r, z2, _, [.ref y], rfl, rfl, ka.lst e19 (by simp), upd_same, by simp only [List.length_cons, List.length_nil, List.length_append]; omega, fun r nr => ?_⟩
        obtain ⟨kk, e1, e2, e3⟩ := app1 (it := .pow pw) e29 ny nz2 nr (fun H' h => ⟨y, rfl, h⟩)
        exact hD' _ _ ⟨k + 4, .ref r, rfl, B9.new kk, by omega, r, _, _, .pow (.bin op t1 t2) pw, rfl, by simp only [List.mem_cons, List.not_mem_nil, or_false, not_or]; exact ⟨(hd9.ne e3).symm, (ne_of_none B9.hp e3).symm⟩, e1, e2, .pow hp4 (small_ok hp4) (.op po1 po2), by simp only [Tr.ht]; omega, by simp only [Tr.sz]; omega⟩
      · refine ⟨_, rfl, _, rfl, by show 3 ≤ sizeLine; omega, fun pl npl => ?_⟩
        have k5 := Kp.new (D := []) (o := .lst [V.str "x", .str "y", .str "left"]) npl
        have B5 := B7.new k5
        refine ⟨a, pl, k + 3, _, rfl, B5.dr, by omega, upd_same, (B7.dr.ne npl).symm, by decide, by decide, fun v H9 hv k9 hd9 => ?_⟩
        obtain ⟨fn, rfl, hfn⟩ := some_one hv
        have B9 := B5.go k9 hd9
        have k79 := k5.of.trans k9
        have e19 := k79.lst e1 (by simpa using ra)
        have e29 := e2.kp k79
        refine ⟨by show 3 ≤ sizeLine; omega, fun y ny => ⟨by show 1 ≤ sizeLine; omega, fun z2 nz2 => ?_⟩⟩
        have ka := (Kp.new (D := []) (o := .tup [.str "c", .str fn, .int 1]) ny).trans (Kp.new (o := .lst [.ref y]) nz2)
        refine ⟨r, z2, _, [.ref y], rfl, rfl, ka.lst e19 (by simp), upd_same, by simp only [List.length_cons, List.length_nil, List.length_append]; omega, fun r nr => ?_⟩
        obtain ⟨kk, e1, e2, e3⟩ := app1 (it := .c1 fn) e29 ny nz2 nr (fun H' h => ⟨y, rfl, h⟩)
        exact hD' _ _ ⟨k + 4, .ref r, rfl, B9.new kk, by omega, r, _, _, .call1 fn (.bin op t1 t2), rfl, by simp only [List.mem_cons, List.not_mem_nil, or_false, not_or]; exact ⟨(hd9.ne e3).symm, (ne_of_none B9.hp e3).symm⟩, e1, e2, .c1 hfn (.op po1 po2), by simp only [Tr.ht]; omega, by simp only [Tr.sz]; omega⟩
      · exact hD' _ _ ⟨k + 3, .ref r, rfl, B7, by omega, r, _, _, .bin op t1 t2, rfl, by simp only [List.mem_cons, List.not_mem_nil, or_false, not_or]; exact ⟨ra, rp⟩, e1, e2, .op po1 po2, by simp only [Tr.ht]; omega, by simp only [Tr.sz]; omega⟩
    obtain ⟨k', v, rfl, B8, hk', hv⟩ := h
    obtain ⟨_, _, m1', m2', _, _, hm1'', hm2'', _, _, hn1, hn2, hsm⟩ := B8.ps.two at_ (by omega)
    rw [hm1'] at hm1''
    rw [hm2'] at hm2''
    cases hm1''
    cases hm2''
    -- the pieces anew
    refine ⟨_, rfl, _, rfl, _, rfl, p, us, rfl, SqL.of B8.hp, fun c1 nc1 => ?_⟩
    rw [cut_take] at *
    have k1 := Kp.new (D := []) (o := .lst (us.take at_)) nc1
    refine ⟨_, rfl, by show 1 ≤ sizeLine; omega, fun l1 nl1 => ?_⟩
    have k2 := Kp.new (D := []) (o := .lst [v]) nl1
    refine ⟨c1, l1, _, [v], rfl, rfl, k2.lst upd_same (by simp), upd_same, by simp only [List.length_cons, List.length_nil, List.length_take]; omega, fun c2 nc2 => ?_⟩
    have k3 := Kp.new (D := []) (o := .lst (us.take at_ ++ [v])) nc2
    have hc2 : (upd (upd (upd H8 c1 (.lst (us.take at_))) l1 (.lst [v])) c2 (.lst (us.take at_ ++ [v]))) c2 = some (.lst (us.take at_ ++ [v])) := upd_same
    have B9 := B8.new ((k1.trans k2).trans k3)
    have k13 := (k1.trans k2).trans k3
    generalize upd (upd (upd H8 c1 (.lst (us.take at_))) l1 (.lst [v])) c2 (.lst (us.take at_ ++ [v])) = H9 at hc2 B9 k13 ⊢
    refine ⟨_, rfl, _, rfl, _, _, rfl, rfl, _, rfl, p, us, rfl, SqL.of B9.hp, fun c3 nc3 => ?_⟩
    have ecd : cutV us (some ((at_ : Int) + 2)) none = us.drop (at_ + 2) := cut_drop (at_ + 2)
    rw [ecd] at *
    have k4 := Kp.new (D := []) (o := .lst (us.drop (at_ + 2))) nc3
    refine ⟨c2, c3, _, _, rfl, rfl, k4.lst hc2 (by simp), upd_same, by simp only [List.length_cons, List.length_nil, List.length_append, List.length_take, List.length_drop]; omega, fun p' np' => ?_⟩
    have k5 := Kp.new (D := []) (o := .lst (us.take at_ ++ [v] ++ us.drop (at_ + 2))) np'
    have B11 := B9.new k4
    have B10 := B11.new k5
    have np0 : H p' = none := B11.kp.none_of np' (fun b m => by rw [List.mem_singleton] at m; rw [m]; obtain ⟨f, s, e, _⟩ := B11.dr; rw [e]; simp)
    have hv' := (hv.kp (k13.trans k4) (by simp)).re np'
    obtain ⟨_, _, m1', m2', _, _, hm1'', hm2'', _, _, hn1, hn2, hsm⟩ := B11.ps.two at_ (by omega)
    rw [hm1'] at hm1''
    rw [hm2'] at hm2''
    cases hm1''
    cases hm2''
    have hps := (hn2.map fun _ _ h => h.re np').append ((NsAt.cons (R := fun n v => PcX [a, p'] _ (2 * n - 1) (4 * n - 2) v) hv' .nil).append (hn1.map fun _ _ h => h.re np'))
    have hnl : (ns.take at_ ++ [m1 + m2] ++ ns.drop (at_ + 2)).length = ns.length - 1 := by
      simp only [List.length_append, List.length_take, List.length_drop, List.length_cons, List.length_nil]
      omega
    have hns : (ns.take at_ ++ [m1 + m2] ++ ns.drop (at_ + 2)).sum = ns.sum := by
      rw [List.sum_append, List.sum_append, List.sum_cons, List.sum_nil]
      omega
    exact ⟨ns.length - 1, by omega, k', p', _, _, o3, _, o5, _, _, rfl, ⟨B10.kp, np0, B10.dr, upd_same, hps.map fun _ _ h => h.kp k5 (by simp), B11.dr.ne np'⟩, by omega, hnl, by omega, by omega, by omega⟩
  · refine iF (decide_eq_false (by omega)) ?_
    have h1 : ns.length = 1 := by omega
    have hps := B.ps
    cases hps with
    | nil => simp at h1
    | cons c1 c2 =>
      cases c2 with
      | cons _ _ => simp at h1
      | nil =>
        obtain ⟨r, ivs, is, t, rfl, hr, e1, e2, e3, e4, e5⟩ := c1
        simp only [List.sum_cons, List.sum_nil] at hsum
        simp only [List.mem_cons, List.not_mem_nil, or_false, not_or] at hr
        exact ⟨_, rfl, p, _, 0, _, rfl, rfl, SqL.of B.hp, rfl, q _ r ivs is t k B.kp hr.1 e1 e2 e3 (by omega) (by omega) B.dr (by omega)⟩
end
end K2
set_option maxHeartbeats 4000000
/-! P21: blanks between words; brackets as they come. -/
namespace K2
open PySem PySem.Spec L2 DL
open PySem.W (Frag keepIn findIn typeIn subIn kitOne kitAny excIn)
open PyProof.Rows hiding St wpAt wpAt_bind wpAt_stack wpAt_mono
def bl (j : Nat) : List Str := List.replicate j (" " : Str)
theorem Alt.puts {a b : List Str} (h : Alt (a ++ b)) : ∀ j, Alt (a ++ bl j ++ b)
  | 0 => by simpa [bl] using h
  | j + 1 => by
    have e := h.puts j
    rw [List.append_assoc] at e
    have := e.put
    rw [bl, List.replicate_succ, List.append_assoc]
    exact this
theorem wds_bl : ∀ j, wds (bl j) = []
  | 0 => rfl
  | j + 1 => by rw [bl, List.replicate_succ, wds_blank]; exact wds_bl j
theorem bl_len : ∀ j, (cat (bl j)).length = j
  | 0 => by decide +kernel
  | j + 1 => by
    rw [bl, List.replicate_succ, cat_cons, app_length]
    have := bl_len j
    rw [bl] at this
    rw [this, show (" " : Str).length = 1 by decide +kernel]
    omega
theorem sg_len {x : Str} (h : x ∈ signs) : x.length ≤ 8 := by
  obtain ⟨c, rfl, _⟩ := sign_one h
  show 1 ≤ 8
  decide
theorem Der.small {l d : Nat} {us : List Str} {t : Tr} (h : Der l d us t) : ∀ x ∈ us, x.length ≤ 8 := by
  have nu : ∀ {n : Nat}, NumOk n → (numT n).length ≤ 8 := fun h => by have := nu_len h.1; omega
  induction h with
  | val h => intro x m; rw [List.mem_singleton] at m; rw [m]; exact nu h
  | nam h => intro x m; rw [List.mem_singleton] at m; rw [m]; exact nm_len h
  | par h ih =>
    intro x m
    simp only [List.mem_append, List.mem_singleton] at m
    rcases m with (rfl | m) | rfl
    · exact sg_len (by decide +kernel)
    · exact ih x m
    · exact sg_len (by decide +kernel)
  | call1 hf h ih =>
    intro x m
    simp only [List.mem_append, List.mem_cons, List.not_mem_nil, or_false] at m
    rcases m with ((rfl | rfl) | m) | rfl
    · exact nm_len hf
    · exact sg_len (by decide +kernel)
    · exact ih x m
    · exact sg_len (by decide +kernel)
  | call2 hf h h' ih ih' =>
    intro x m
    simp only [List.mem_append, List.mem_cons, List.not_mem_nil, or_false] at m
    rcases m with ((((rfl | rfl) | m) | rfl) | m) | rfl
    · exact nm_len hf
    · exact sg_len (by decide +kernel)
    · exact ih x m
    · exact sg_len (by decide +kernel)
    · exact ih' x m
    · exact sg_len (by decide +kernel)
  | pow h h1 h2 ih =>
    intro x m
    simp only [List.mem_append, List.mem_cons, List.not_mem_nil, or_false] at m
    rcases m with m | rfl | rfl
    · exact ih x m
    · exact sg_len (by decide +kernel)
    · exact nu h2
  | up2 h ih => exact ih
  | bin1 ho h h' ih ih' =>
    intro x m
    simp only [List.mem_append, List.mem_cons] at m
    rcases m with m | rfl | m
    · exact ih x m
    · exact sg_len (op_sign _)
    · exact ih' x m
  | up1 h ih => exact ih
  | minus h ih =>
    intro x m
    rcases List.mem_cons.mp m with rfl | m
    · exact sg_len (by decide +kernel)
    · exact ih x m
  | bin0 ho h h' ih ih' =>
    intro x m
    simp only [List.mem_append, List.mem_cons] at m
    rcases m with m | rfl | m
    · exact ih x m
    · exact sg_len (op_sign _)
    · exact ih' x m
  | up0 h ih => exact ih
def spBlank : Sp := fun vs H Q _ => ∃ (a : Addr) (n : Nat), vs = [.ref a] ∧ Dr H a n ∧ n ≤ 99990 ∧ ∀ (H' : Hp) (j : Nat), j ≤ 2 → Kp [a] H H' → Dr H' a (n + 2) → Q (.str (cat (bl j))) H'
def spGlued : Sp := fun vs H Q _ => ∃ (a q : Addr) (n : Nat) (ws : List Str), vs = [.ref a, .ref q] ∧ Dr H a n ∧ n ≤ 90000 ∧ q ≠ a ∧ H q = some (.lst (ws.map V.str)) ∧ Alt ws ∧ wds ws = ws ∧ ws.length ≤ 400 ∧ (∀ x ∈ ws, x.length ≤ 8) ∧
  ∀ (H' : Hp) (ps : List Str) (m : Nat), Kp [a] H H' → Dr H' a m → m ≤ n + 2 * ws.length + 2 → Alt ps → wds ps = ws → (cat ps).length ≤ 10 * ws.length + 2 → Q (.str (cat ps)) H'
def spWrapped : Sp := fun vs H Q _ => ∃ (a p q : Addr) (n l m : Nat) (ws : List Str), vs = [.ref a, .ref p, .int m] ∧ H p = some (.tup [.ref q, .int l]) ∧ q ≠ a ∧ H q = some (.lst (ws.map V.str)) ∧ ws.length ≤ 1000 ∧ Dr H a n ∧ n ≤ 99990 ∧
  ∀ (H' : Hp) (r : Addr) (us : List Str) (n' : Nat), Kp [a] H H' → Dr H' a n' → n' ≤ n + 1 → r ≠ a → H' r = some (.lst (us.map V.str)) → ((m ≤ l ∧ us = ws) ∨ us = [("(" : Str)] ++ ws ++ [(")" : Str)]) → Q (.ref r) H'
section
variable {w : World} {K : Frag} {mg : Str → Option Value} {base : Heap} {f : Addr} {fd : FuncData} {dD dG dS : Addr}
theorem ok_law_blank (F : L2.Fun K "_law_blank" "_law_blank" s_law_blank f fd) (c_law_take : Clb prg w K mg base 1 "_law_take" spTake []) : FnG prg w K mg base 2 f fd ["draws"] spBlank := by
  have S := fs_law_blank
  refine fnG_mk F S (fun vs H Q E h => by obtain ⟨x, _, rfl, _⟩ := h; rfl) fun cdv A outer s H vs Q E hr gd hsp => ?_
  obtain ⟨a, n, rfl, hd, hn, q⟩ := hsp
  refine ⟨_, (pss_one (ps_ret (pe_op op_mulA pe_str (pe_op op_mul (pe_op op_fdivN (pe_clb c_law_take hr (by decide) gd rfl (pa_cons (pv 0) (pa_cons pe_int pa_nil))) pe_int) (pe_op op_add pe_int (pe_clb c_law_take hr (by decide) gd rfl (pa_cons (pv 0) (pa_cons pe_int pa_nil)))))))), ?_⟩
  refine ⟨_, rfl, a, _, n, rfl, hd, by omega, by decide, by decide, fun r1 H1 hr1 k1 hd1 => ⟨_, _, rfl, rfl, ⟨by decide, by decide⟩, _, rfl, a, _, n + 1, rfl, hd1, by omega, by decide, by decide, fun r2 H2 hr2 k2 hd2 => ⟨_, _, rfl, rfl, ?_⟩⟩⟩
  have k12 := k1.trans k2
  have h1 : (r1 : Int) < 4 := hr1
  have h2 : (r2 : Int) < 2 := hr2
  rcases (show r1 = 0 ∨ r1 = 1 ∨ r1 = 2 ∨ r1 = 3 by omega) with rfl | rfl | rfl | rfl <;> rcases (show r2 = 0 ∨ r2 = 1 by omega) with rfl | rfl
  · exact ⟨_, _, rfl, rfl, .inl ⟨by decide, by decide⟩, " ", 0, rfl, rfl, by decide, by decide +kernel, by decide +kernel, fun _ => q H2 0 (by decide) k12 hd2, fun h => absurd h (by decide), fun h => absurd h (by decide)⟩
  · exact ⟨_, _, rfl, rfl, .inl ⟨by decide, by decide⟩, " ", 0, rfl, rfl, by decide, by decide +kernel, by decide +kernel, fun _ => q H2 0 (by decide) k12 hd2, fun h => absurd h (by decide), fun h => absurd h (by decide)⟩
  · exact ⟨_, _, rfl, rfl, .inl ⟨by decide, by decide⟩, " ", 0, rfl, rfl, by decide, by decide +kernel, by decide +kernel, fun _ => q H2 0 (by decide) k12 hd2, fun h => absurd h (by decide), fun h => absurd h (by decide)⟩
  · exact ⟨_, _, rfl, rfl, .inl ⟨by decide, by decide⟩, " ", 0, rfl, rfl, by decide, by decide +kernel, by decide +kernel, fun _ => q H2 0 (by decide) k12 hd2, fun h => absurd h (by decide), fun h => absurd h (by decide)⟩
  · exact ⟨_, _, rfl, rfl, .inl ⟨by decide, by decide⟩, " ", 1, rfl, rfl, by decide, by decide +kernel, by decide +kernel, fun h => absurd h (by decide), fun _ => q H2 1 (by decide) k12 hd2, fun h => absurd h (by decide)⟩
  · exact ⟨_, _, rfl, rfl, .inl ⟨by decide, by decide⟩, " ", 2, rfl, rfl, by decide, by decide +kernel, by decide +kernel, fun h => absurd h (by decide), fun h => absurd h (by decide), fun _ => q H2 2 (by decide) k12 hd2⟩
  · exact ⟨_, _, rfl, rfl, .inl ⟨by decide, by decide⟩, " ", 1, rfl, rfl, by decide, by decide +kernel, by decide +kernel, fun h => absurd h (by decide), fun _ => q H2 1 (by decide) k12 hd2, fun h => absurd h (by decide)⟩
  · exact ⟨_, _, rfl, rfl, .inl ⟨by decide, by decide⟩, " ", 2, rfl, rfl, by decide, by decide +kernel, by decide +kernel, fun h => absurd h (by decide), fun h => absurd h (by decide), fun _ => q H2 2 (by decide) k12 hd2⟩
theorem ok_law_glued (F : L2.Fun K "_law_glued" "_law_glued" s_law_glued f fd) (c_law_blank : Clb prg w K mg base 2 "_law_blank" spBlank []) : FnG prg w K mg base 3 f fd ["draws", "words"] spGlued := by
  have S := fs_law_glued
  refine fnG_mk F S (fun vs H Q E h => by obtain ⟨x, _, _, _, rfl, _⟩ := h; rfl) fun cdv A outer s H vs Q E hr gd hsp => ?_
  obtain ⟨a, q', n, ws, rfl, hd, hn, hqa, hq, halt, hwd, hlen, h8, q⟩ := hsp
  refine ⟨_, (pss_cons (ps_set (i := 2) S.nd rfl (Or.inl rfl) pe_str)
    (pss_cons (ps_for PassesOwn.never rfl (pi_list (pv 1)) (pg_name (i := 3) S.nd rfl (Or.inl rfl)) (pss_one (ps_set (i := 2) S.nd rfl (Or.inl rfl) (pe_op op_add_str (pe_op op_add_str (pv 2) (pe_clb c_law_blank hr (by decide) gd rfl (pa_cons (pv 0) pa_nil))) (pv 3)))))
    (pss_one (ps_ret (pe_op op_add_str (pv 2) (pe_clb c_law_blank hr (by decide) gd rfl (pa_cons (pv 0) pa_nil))))))), ?_⟩
  have sl : sizeLine = 16777216 := sizeLine_eq
  refine ⟨_, rfl, q', rfl, ⟨_, SqL.of hq⟩, ?_⟩
  refine for_list (xs := ws.map V.str) (fun i σ H' => ∃ (ps : List Str) (k : Nat) (o3 : Option V), σ = [some (.ref a), some (.ref q'), some (.str (cat ps)), o3] ∧ Kp [a] H H' ∧ Dr H' a k ∧ k ≤ n + 2 * i ∧ Alt (ps ++ ws.drop i) ∧ wds ps = ws.take i ∧ (cat ps).length ≤ 10 * i)
    ⟨[], n, none, rfl, Kp.refl, hd, by omega, halt, rfl, Nat.le_refl _⟩ (fun i σ H' _ h => by obtain ⟨_, _, _, _, k, _⟩ := h; exact SqL.of (k.lst hq (by simpa using hqa))) (fun i x σ H' hx h => ?_) fun σ H' h => ?_
  · obtain ⟨ps, k, o3, rfl, kk, hdk, hk, ha, hw, hl⟩ := h
    rw [List.getElem?_map] at hx
    obtain ⟨x, hxi, rfl⟩ := Option.map_eq_some_iff.mp hx
    obtain ⟨hi, hxe⟩ := List.getElem?_eq_some_iff.mp hxi
    have hx8 := h8 x (List.mem_of_getElem? hxi)
    refine ⟨_, rfl, _, rfl, a, k, rfl, hdk, by omega, fun H2 j hj k2 hd2 => ?_⟩
    have hbl := bl_len j
    refine ⟨_, _, rfl, rfl, by omega, _, rfl, _, _, rfl, rfl, by rw [app_length]; omega, ps ++ bl j ++ [x], k + 2, some (.str x), ?_, kk.trans k2, hd2, by omega, ?_, ?_, ?_⟩
    · rw [cat_app, cat_app, cat_one]
      rfl
    · rw [List.drop_eq_getElem_cons hi, hxe] at ha
      have := ha.puts j
      rw [List.append_assoc (ps ++ bl j)]
      exact this
    · have hxb : wds [x] = [x] := by
        have : x ∈ wds ws := by rw [hwd]; exact List.mem_of_getElem? hxi
        unfold wds at this
        rw [List.mem_filter] at this
        have hne : x ≠ " " := by simpa using this.2
        rw [wds_keep hne]
        rfl
      rw [wds_app, wds_app, wds_bl, hw, hxb, List.append_nil, List.take_add_one, hxi]
      rfl
    · rw [cat_app, cat_app, cat_one, app_length, app_length]
      omega
  · obtain ⟨ps, k, o3, rfl, kk, hdk, hk, ha, hw, hl⟩ := h
    rw [List.length_map] at hk ha hw hl
    rw [List.drop_length, List.append_nil] at ha
    rw [List.take_length] at hw
    refine ⟨_, rfl, _, rfl, a, k, rfl, hdk, by omega, fun H2 j hj k2 hd2 => ?_⟩
    have hbl := bl_len j
    refine ⟨_, _, rfl, rfl, by omega, ?_⟩
    rw [← cat_app]
    refine q H2 (ps ++ bl j) _ (kk.trans k2) hd2 (by omega) ?_ (by rw [wds_app, wds_bl, hw, List.append_nil]) (by rw [cat_app, app_length]; omega)
    have e : Alt (ps ++ bl j ++ []) := Alt.puts (by rw [List.append_nil]; exact ha) j
    rwa [List.append_nil] at e
theorem ok_law_wrapped (F : L2.Fun K "_law_wrapped" "_law_wrapped" s_law_wrapped f fd) (c_law_take : Clb prg w K mg base 1 "_law_take" spTake []) : FnG prg w K mg base 2 f fd ["draws", "part", "least"] spWrapped := by
  have S := fs_law_wrapped
  refine fnG_mk F S (fun vs H Q E h => by obtain ⟨x, _, _, _, _, _, _, rfl, _⟩ := h; rfl) fun cdv A outer s H vs Q E hr gd hsp => ?_
  obtain ⟨a, p, q', n, l, m, ws, rfl, hp, hqa, hq, hlen, hd, hn, q⟩ := hsp
  refine ⟨_, (pss_one (ps_ret (pe_ifExp (PW.pt (pw_and (pt_cmpR op_ge (pe_ix ix_tup (pv 1) pe_int (fun _ _ => rfl)) (pv 2) (nomark _)) (pw_and1 (pt_cmpR op_gt (pe_clb c_law_take hr (by decide) gd rfl (pa_cons (pv 0) (pa_cons pe_int pa_nil))) pe_int (nomark _))))) (pe_ix ix_tup (pv 1) pe_int (fun _ _ => rfl)) (pe_op op_cat (pe_op op_cat (pe_lst (pa_cons pe_str pa_nil)) (pe_ix ix_tup (pv 1) pe_int (fun _ _ => rfl))) (pe_lst (pa_cons pe_str pa_nil)))))), ?_⟩
  have sl : sizeLine = 16777216 := sizeLine_eq
  have els : ∀ (H1 : Hp) (n' : Nat), Kp [a] H H1 → Dr H1 a n' → n' ≤ n + 1 → tOp rCat (tOp rCat (tLst (tCons (tC (.str "(")) tNil)) (tOp (rIxT K) (tVar 1) (tC (.int 0)))) (tLst (tCons (tC (.str ")")) tNil)) [some (.ref a), some (.ref p), some (.int (m : Nat))] H1 Q := fun H1 n' k1 hd1 hn1 => by
    have hq1 := k1.lst hq (by simpa using hqa)
    refine ⟨by show 1 ≤ sizeLine; omega, fun x nx => ?_⟩
    have kx := Kp.new (D := []) (o := .lst [.str "("]) nx
    refine ⟨_, rfl, p, _, 0, .ref q', rfl, rfl, SqT.of (kx.tup (k1.tup hp)), rfl, x, q', _, _, rfl, rfl, upd_same, kx.lst hq1 (by simp), by simp only [List.length_cons, List.length_nil, List.length_map]; omega, fun y ny => ?_⟩
    have ky := Kp.new (D := []) (o := .lst ([.str "("] ++ ws.map V.str)) ny
    refine ⟨by show 1 ≤ sizeLine; omega, fun z nz => ?_⟩
    have kz := Kp.new (D := []) (o := .lst [.str ")"]) nz
    refine ⟨y, z, _, _, rfl, rfl, kz.lst upd_same (by simp), upd_same, by simp only [List.length_cons, List.length_nil, List.length_map, List.length_append]; omega, fun r nr => ?_⟩
    have kr := Kp.new (D := []) (o := .lst ([.str "("] ++ ws.map V.str ++ [.str ")"])) nr
    have kxz := (kx.trans ky).trans kz
    exact q _ r ([("(" : Str)] ++ ws ++ [(")" : Str)]) n' (k1.trans (kxz.trans kr).of) (hd1.kp (kxz.trans kr) (by simp)) hn1 ((hd1.kp kxz (by simp)).ne nr).symm (by rw [upd_same]; simp) (.inr rfl)
  refine ⟨_, rfl, p, _, 1, .int l, rfl, rfl, SqT.of hp, rfl, _, rfl, _, _, rfl, rfl, _, rfl, ?_⟩
  by_cases h : m ≤ l
  · refine iT (decide_eq_true (by omega)) ⟨_, rfl, a, _, n, rfl, hd, by omega, by decide, by decide, fun r H1 hr1 k1 hd1 => ⟨_, _, rfl, rfl, _, rfl, ite2 (fun _ => ?_) fun _ => els H1 _ k1 hd1 (Nat.le_refl _)⟩⟩
    exact ⟨_, rfl, p, _, 0, .ref q', rfl, rfl, SqT.of (k1.tup hp), rfl, q H1 q' ws _ k1 hd1 (Nat.le_refl _) hqa (k1.lst hq (by simpa using hqa)) (.inl ⟨h, rfl⟩)⟩
  · exact iF (decide_eq_false (by omega)) (els H n Kp.refl hd (Nat.le_succ _))
end
end K2
set_option maxHeartbeats 4000000
/-! P22: the law's words of a row of signs, with brackets as they come. -/
namespace K2
open PySem PySem.Spec L2 DL
open PySem.W (Frag keepIn findIn typeIn subIn kitOne kitAny excIn)
open PyProof.Rows hiding St wpAt wpAt_bind wpAt_stack wpAt_mono
/-- words and how much they bind -/
def WoAt (D : List Addr) (H : Hp) (t : Tr) (v : V) : Prop := ∃ (p q : Addr) (ws : List Str), v = .ref p ∧ H p = some (.tup [.ref q, .int (t.ll : Nat)]) ∧ q ∉ D ∧ H q = some (.lst (ws.map V.str)) ∧ Der t.lv t.ht ws t ∧ ws.length ≤ 5 * t.sz
theorem WoAt.kp {D D' : List Addr} {H H' : Hp} {t : Tr} {v : V} (x : WoAt D H t v) (k : Kp D' H H') (sub : ∀ b ∈ D', b ∈ D) : WoAt D H' t v := by
  obtain ⟨p, q, ws, e, h1, hq, h2, h3, h4⟩ := x
  exact ⟨p, q, ws, e, k.tup h1, hq, k.lst h2 (fun m => hq (sub _ m)), h3, h4⟩
theorem WoAt.re {a p p' : Addr} {H : Hp} {t : Tr} {v : V} (x : WoAt [a, p] H t v) (n : H p' = none) : WoAt [a, p'] H t v := by
  obtain ⟨r, q, ws, e, h1, hq, h2, h3, h4⟩ := x
  simp only [List.mem_cons, List.not_mem_nil, or_false, not_or] at hq
  exact ⟨r, q, ws, e, h1, by simp only [List.mem_cons, List.not_mem_nil, or_false, not_or]; exact ⟨hq.1, ne_of_none h2 n⟩, h2, h3, h4⟩
structure BasW (H H' : Hp) (a st : Addr) (k : Nat) (us : List V) (ts : List Tr) : Prop where
  kp : Kp [a] H H'
  p0 : H st = none
  dr : Dr H' a k
  hp : H' st = some (.lst us)
  ps : RsAt (WoAt [a, st] H') us ts
  ap : a ≠ st
theorem BasW.go {H H' H2 : Hp} {a p : Addr} {k k2 : Nat} {us : List V} {ns : List Tr} (b : BasW H H' a p k us ns) (k1 : Kp [a] H' H2) (d : Dr H2 a k2) : BasW H H2 a p k2 us ns :=
  ⟨b.kp.trans k1, b.p0, d, k1.lst b.hp (by simpa using b.ap.symm), b.ps.map fun _ _ h => h.kp k1 (by simp), b.ap⟩
theorem BasW.new {H H' H2 : Hp} {a p : Addr} {k : Nat} {us : List V} {ns : List Tr} (b : BasW H H' a p k us ns) (k1 : Kp [] H' H2) : BasW H H2 a p k us ns := b.go k1.of (b.dr.kp k1 (by simp))
/-- the last is popped -/
theorem BasW.pop {H H' : Hp} {a p : Addr} {k : Nat} {us : List V} {v : V} {ts : List Tr} {t : Tr} (b : BasW H H' a p k (us ++ [v]) (ts ++ [t])) : BasW H (upd H' p (.lst us)) a p k us ts ∧ WoAt [a, p] (upd H' p (.lst us)) t v := by
  have k1 : Kp [p] H' (upd H' p (.lst us)) := Kp.put b.hp rfl (by simp)
  obtain ⟨us0, u, e, h1, h2⟩ := b.ps.split
  obtain ⟨rfl, e2⟩ := List.append_inj' e rfl
  cases e2
  exact ⟨⟨b.kp.keep b.p0 k1, b.p0, b.dr.kp k1 (by simpa using b.ap), upd_same, h1.map fun _ _ h => h.kp k1 (by simp), b.ap⟩, h2.kp k1 (by simp)⟩
/-- one more behind -/
theorem BasW.push {H H' : Hp} {a p : Addr} {k : Nat} {us : List V} {v : V} {ts : List Tr} {t : Tr} (b : BasW H H' a p k us ts) (h : WoAt [a, p] H' t v) : BasW H (upd H' p (.lst (us ++ [v]))) a p k (us ++ [v]) (ts ++ [t]) := by
  have k1 : Kp [p] H' (upd H' p (.lst (us ++ [v]))) := Kp.put b.hp rfl (by simp)
  exact ⟨b.kp.keep b.p0 k1, b.p0, b.dr.kp k1 (by simpa using b.ap), upd_same, (RsAt.cons (h.kp k1 (by simp)) .nil).append (b.ps.map fun _ _ h => h.kp k1 (by simp)), b.ap⟩
/-- a new stack, one more behind -/
theorem BasW.renew {H H' : Hp} {a p p' : Addr} {k : Nat} {us us0 : List V} {v : V} {ts ts0 : List Tr} {t : Tr} (b : BasW H H' a p k us ts) (n : H' p' = none) (h0 : RsAt (WoAt [a, p] H') us0 ts0) (h : WoAt [a, p] H' t v) : BasW H (upd H' p' (.lst (us0 ++ [v]))) a p' k (us0 ++ [v]) (ts0 ++ [t]) := by
  have k1 : Kp [] H' (upd H' p' (.lst (us0 ++ [v]))) := Kp.new n
  exact ⟨b.kp.trans k1.of, b.kp.none_of n (fun b' m => by rw [List.mem_singleton] at m; rw [m]; obtain ⟨f, s, e, _⟩ := b.dr; rw [e]; simp), b.dr.kp k1 (by simp), upd_same, (RsAt.cons ((h.re n).kp k1 (by simp)) .nil).append (h0.map fun _ _ h => (h.re n).kp k1 (by simp)), b.dr.ne n⟩
/-- what is wrapped is told, too -/
theorem der_wrapped {t : Tr} {ws us : List Str} {l m : Nat} (h : Der t.lv t.ht ws t) (hm : m ≤ t.ll → l ≤ t.lv) (hl : l ≤ 3) (x : (m ≤ t.ll ∧ us = ws) ∨ us = [("(" : Str)] ++ ws ++ [(")" : Str)]) : Der l (t.ht + 1) us t ∧ us.length ≤ ws.length + 2 := by
  rcases x with ⟨h1, rfl⟩ | rfl
  · exact ⟨(h.mono (Nat.le_succ _)).down t.lv_le (hm h1), by omega⟩
  · exact ⟨(Der.par (h.down t.lv_le (Nat.zero_le _))).down (Nat.le_refl 3) hl, by simp⟩
def fl (wss : List (List Str)) : List Str := wss.flatMap fun ws => ("," : Str) :: ws
def spLoose : Sp := fun vs H Q _ => ∃ (a rl : Addr) (s o : V) (n : Nat) (ivs : List V) (is : List It) (t : Tr), vs = [.ref a, s, .ref rl, o] ∧ Dr H a n ∧ n ≤ 90000 ∧ rl ≠ a ∧ SpecAt H s ∧ H rl = some (.lst ivs) ∧ ItsAt H ivs is ∧ Ev [] is t ∧ t.sz ≤ 40 ∧
  ∀ (H' : Hp) (q : Addr) (ws : List Str) (m : Nat), Kp [a] H H' → Dr H' a m → m ≤ n + 2 * is.length → q ≠ a → H' q = some (.lst (ws.map V.str)) → Der t.lv t.ht ws t → ws.length ≤ 5 * t.sz → Q (.ref q) H'
section
variable {w : World} {K : Frag} {mg : Str → Option Value} {base : Heap} {f : Addr} {fd : FuncData} {dD dG dS : Addr}
theorem ok_law_loose_words (F : L2.Fun K "_law_loose_words" "_law_loose_words" s_law_loose_words f fd) (T : K2.Nms mg) (c_law_name_of : Clb prg w K mg base 1 "_law_name_of" spNameOf []) (c_law_wrapped : Clb prg w K mg base 2 "_law_wrapped" spWrapped []) : FnG prg w K mg base 3 f fd ["draws", "spec", "row", "own"] spLoose := by
  have S := fs_law_loose_words
  refine fnG_mk F S (fun vs H Q E h => by obtain ⟨x, _, _, _, _, _, _, _, rfl, _⟩ := h; rfl) fun cdv A outer s H vs Q E hr gd hsp => ?_
  obtain ⟨a, rl, sv, o, n, ivs, is, t, rfl, hd0, hn, hra, hs, hrl, his, hev, hz, q⟩ := hsp
  refine ⟨_, (pss_cons (ps_set (i := 4) S.nd rfl (Or.inl rfl) (pe_lst pa_nil))
    (pss_cons (ps_for PassesOwn.never rfl (pi_list (pv 2)) (pg_name (i := 5) S.nd rfl (Or.inl rfl)) (pss_one (ps_if (pt_cmpR op_eq (pe_ix ix_tup (pv 5) pe_int (fun _ _ => rfl)) pe_str (nomark _)) (pss_cons (ps_set (i := 6) S.nd rfl (Or.inl rfl) (pe_lst pa_nil))
    (pss_cons (ps_for PassesOwn.never rfl (pi_list (pe_slice sl_list (pv 4) (po_some (pe_un un_neg (pe_ix ix_tup (pv 5) pe_int (fun _ _ => rfl)))) po_none)) (pg_tup rfl (pgs_cons (pg_name (i := 7) S.nd rfl (Or.inl rfl)) (pgs_cons (pg_name (i := 8) S.nd rfl (Or.inl rfl)) pgs_nil))) (pss_one (ps_set (i := 6) S.nd rfl (Or.inl rfl) (pe_op op_cat (pe_op op_cat (pv 6) (pe_lst (pa_cons pe_str pa_nil))) (pv 7)))))
    (pss_one (ps_set (i := 4) S.nd rfl (Or.inl rfl) (pe_op op_cat (pe_slice sl_list (pv 4) po_none (po_some (pe_un un_neg (pe_ix ix_tup (pv 5) pe_int (fun _ _ => rfl))))) (pe_lst (pa_cons (pe_tup (pa_cons (pe_op op_cat (pe_op op_cat (pe_lst (pa_cons (pe_ix ix_tup (pv 5) pe_int (fun _ _ => rfl)) (pa_cons pe_str pa_nil))) (pe_slice sl_list (pv 6) (po_some pe_int) po_none)) (pe_lst (pa_cons pe_str pa_nil))) (pa_cons pe_int pa_nil))) pa_nil))))))) (pss_one (ps_if (pt_cmpR op_in_seq (pe_ix ix_tup (pv 5) pe_int (fun _ _ => rfl)) (pe_tup (pa_cons pe_str (pa_cons pe_str (pa_cons pe_str (pa_cons pe_str pa_nil))))) rfl) (pss_one (ps_expr (pe_bm PySem.F.plainAttrs_list PySem.F.slot_list_append PySem.F.type_list_append mt_append (pv 4) (pa_cons (pe_tup (pa_cons (pe_lst (pa_cons (pe_ifExp (pt_cmpR op_eq (pe_ix ix_tup (pv 5) pe_int (fun _ _ => rfl)) pe_str (nomark _)) (pe_callTy call_strX (by rfl) T.n_str (by decide +kernel) (pa_cons (pe_ix ix_tup (pv 5) pe_int (fun _ _ => rfl)) pa_nil)) (pe_clb c_law_name_of hr (by decide) gd rfl (pa_cons (pv 1) (pa_cons (pv 5) (pa_cons (pv 3) pa_nil))))) pa_nil)) (pa_cons pe_int pa_nil))) pa_nil)))) (pss_one (ps_if (pt_cmpR op_eq (pe_ix ix_tup (pv 5) pe_int (fun _ _ => rfl)) pe_str (nomark _)) (pss_one (ps_expr (pe_bm PySem.F.plainAttrs_list PySem.F.slot_list_append PySem.F.type_list_append mt_append (pv 4) (pa_cons (pe_tup (pa_cons (pe_op op_cat (pe_lst (pa_cons pe_str pa_nil)) (pe_clb c_law_wrapped hr (by decide) gd rfl (pa_cons (pv 0) (pa_cons (pe_bm0 PySem.F.plainAttrs_list PySem.F.slot_list_pop PySem.F.type_list_pop mt_pop (pv 4)) (pa_cons pe_int pa_nil))))) (pa_cons pe_int pa_nil))) pa_nil)))) (pss_one (ps_if (pt_cmpR op_eq (pe_ix ix_tup (pv 5) pe_int (fun _ _ => rfl)) pe_str (nomark _)) (pss_one (ps_expr (pe_bm PySem.F.plainAttrs_list PySem.F.slot_list_append PySem.F.type_list_append mt_append (pv 4) (pa_cons (pe_tup (pa_cons (pe_op op_cat (pe_clb c_law_wrapped hr (by decide) gd rfl (pa_cons (pv 0) (pa_cons (pe_bm0 PySem.F.plainAttrs_list PySem.F.slot_list_pop PySem.F.type_list_pop mt_pop (pv 4)) (pa_cons pe_int pa_nil)))) (pe_lst (pa_cons pe_str (pa_cons (pe_callTy call_strX (by rfl) T.n_str (by decide +kernel) (pa_cons (pe_ix ix_tup (pv 5) pe_int (fun _ _ => rfl)) pa_nil)) pa_nil)))) (pa_cons pe_int pa_nil))) pa_nil)))) (pss_cons (ps_set (i := 8) S.nd rfl (Or.inl rfl) (pe_ifExp (pt_cmpR op_inS (pe_ix ix_tup (pv 5) pe_int (fun _ _ => rfl)) pe_str rfl) pe_int pe_int))
    (pss_cons (ps_set (i := 9) S.nd rfl (Or.inl rfl) (pe_clb c_law_wrapped hr (by decide) gd rfl (pa_cons (pv 0) (pa_cons (pe_ix ix_list (pv 4) (pe_un un_neg pe_int) (fun _ _ => rfl)) (pa_cons (pv 8) pa_nil)))))
    (pss_cons (ps_set (i := 6) S.nd rfl (Or.inl rfl) (pe_op op_cat (pe_op op_cat (pv 9) (pe_lst (pa_cons (pe_ix ix_tup (pv 5) pe_int (fun _ _ => rfl)) pa_nil))) (pe_clb c_law_wrapped hr (by decide) gd rfl (pa_cons (pv 0) (pa_cons (pe_ix ix_list (pv 4) (pe_un un_neg pe_int) (fun _ _ => rfl)) (pa_cons (pe_ifExp (pt_cmpR op_eq (pv 8) pe_int (nomark _)) pe_int pe_int) pa_nil))))))
    (pss_one (ps_set (i := 4) S.nd rfl (Or.inl rfl) (pe_op op_cat (pe_slice sl_list (pv 4) po_none (po_some (pe_un un_neg pe_int))) (pe_lst (pa_cons (pe_tup (pa_cons (pv 6) (pa_cons (pv 8) pa_nil))) pa_nil)))))))))))))))))
    (pss_one (ps_ret (pe_ix ix_tup (pe_ix ix_list (pv 4) pe_int (fun _ _ => rfl)) pe_int (fun _ _ => rfl)))))), ?_⟩
  have sl : sizeLine = 16777216 := sizeLine_eq
  refine ⟨by show 0 ≤ sizeLine; omega, fun l0 n0 => ?_⟩
  have k0 : Kp [] H (upd H l0 (.lst [])) := Kp.new n0
  refine ⟨_, rfl, rl, rfl, ⟨_, SqL.of (k0.lst hrl (by simp))⟩, ?_⟩
  have hlen := his.length
  have hle := hev.len
  simp only [sumSz] at hle
  refine for_list (xs := ivs) (fun i σ H' => ∃ (st : Addr) (k : Nat) (us : List V) (ts : List Tr) (oi o6 o7 o8 o9 : Option V), σ = [some (.ref a), some sv, some (.ref rl), some o, some (.ref st), oi, o6, o7, o8, o9] ∧ BasW H H' a st k us ts ∧ k ≤ n + 2 * i ∧ Ev ts (is.drop i) t)
    ⟨l0, n, [], [], none, none, none, none, none, rfl, ⟨k0.of, n0, hd0.kp k0 (by simp), upd_same, .nil, hd0.ne n0⟩, by omega, hev⟩ (fun i σ H' _ h => by obtain ⟨_, _, _, _, _, _, _, _, _, _, B, _⟩ := h; exact SqL.of (B.kp.lst hrl (by simpa using hra))) (fun i x σ H' hx h => ?_) fun σ H' h => ?_
  · obtain ⟨st, k, us, ts, oi, o6, o7, o8, o9, rfl, B, hk, hE⟩ := h
    obtain ⟨it, hit, hI0⟩ := his.get i hx
    have hI := hI0.kp B.kp
    have hil : i < is.length := (List.getElem?_eq_some_iff.mp hit).1
    have hdr : is.drop i = it :: is.drop (i + 1) := by
      obtain ⟨lt, e⟩ := List.getElem?_eq_some_iff.mp hit
      rw [List.drop_eq_getElem_cons lt, e]
    rw [hdr] at hE
    have hsz := hE.sz
    have hul := B.ps.length
    have htl := sumSz_len ts
    -- the head's looks
    have isE : ∀ (c h : Str) (p : Addr) (xs : List V) (H2 : Hp) (P : Bool → Hp → Prop), x = .ref p → H2 p = some (.tup (.str h :: xs)) → P (decide (V.str h = V.str c)) H2 → tTest (tOp rEq (tOp (rIxT K) (tVar 5) (tC (.int 0))) (tC (.str c))) [some (.ref a), some sv, some (.ref rl), some o, some (.ref st), some x, o6, o7, o8, o9] H2 P := by
      rintro c h p xs H2 P rfl hp hP
      exact ⟨_, rfl, p, _, 0, .str h, rfl, rfl, SqT.of hp, atI_nat (j := 0) rfl, rfl, _, rfl, hP⟩
    have isG : ∀ (h : Str) (p : Addr) (xs : List V) (H2 : Hp) (P : Bool → Hp → Prop), x = .ref p → H2 p = some (.tup (.str h :: xs)) → (∀ H3, Kp [] H2 H3 → P (inV (.str h) [.str "n", .str "a", .str "g", .str "l"]) H3) → tTest (tOp (rIn K false) (tOp (rIxT K) (tVar 5) (tC (.int 0))) (tTup (tCons (tC (.str "n")) (tCons (tC (.str "a")) (tCons (tC (.str "g")) (tCons (tC (.str "l")) tNil)))))) [some (.ref a), some sv, some (.ref rl), some o, some (.ref st), some x, o6, o7, o8, o9] H2 P := by
      rintro h p xs H2 P rfl hp hP
      exact ⟨_, rfl, p, _, 0, .str h, rfl, rfl, SqT.of hp, atI_nat (j := 0) rfl, by show 4 ≤ sizeLine; omega, fun p2 n2 => ⟨p2, _, rfl, .inr (SqT.of upd_same), rfl, rfl, _, rfl, hP _ (Kp.new n2)⟩⟩
    cases hE with
    | g hi hE =>
      rename_i m
      obtain ⟨p, rfl, hp⟩ := hI
      refine isE _ _ p _ _ _ rfl hp (iF (by decide +kernel) (isG _ p _ _ _ rfl hp fun H3 k3 => iT (by decide +kernel) ?_))
      have B3 := B.new k3
      refine ⟨_, rfl, .inl ⟨rfl, _, SqL.of B3.hp⟩, isE _ _ p _ _ _ rfl (k3.tup hp) (iF (by decide +kernel) ⟨_, rfl, _, rfl, _, rfl, sv, _, o, m, rfl, hs.kp B3.kp, ⟨p, rfl, k3.tup hp⟩, hi, by show 1 ≤ sizeLine; omega, fun y ny => ⟨by show 2 ≤ sizeLine; omega, fun z nz => ?_⟩⟩)⟩
      have k4 := Kp.new (D := []) (o := .lst [V.str (gn m)]) ny
      have k5 := Kp.new (D := []) (o := .tup [V.ref y, .int 4]) nz
      have B5 := B3.new (k4.trans k5)
      refine ⟨st, us, _, rfl, rfl, B5.hp, by omega, st, k, _, _, _, _, _, _, _, rfl, B5.push (t := .nam (gn m)) ⟨z, y, [gn m], rfl, upd_same, ?_, k5.lst upd_same (by simp), .nam (gn_ok m), by simp [Tr.sz]⟩, by omega, hE⟩
      simp only [List.mem_cons, List.not_mem_nil, or_false, not_or]
      exact ⟨(B3.dr.ne ny).symm, (ne_of_none B3.hp ny).symm⟩
    | n hm hE =>
      rename_i m
      obtain ⟨p, rfl, hp⟩ := hI
      refine isE _ _ p _ _ _ rfl hp (iF (by decide +kernel) (isG _ p _ _ _ rfl hp fun H3 k3 => iT (by decide +kernel) ?_))
      have B3 := B.new k3
      refine ⟨_, rfl, .inl ⟨rfl, _, SqL.of B3.hp⟩, isE _ _ p _ _ _ rfl (k3.tup hp) (iT (by decide +kernel) ⟨_, rfl, p, _, 1, .int (m : Nat), rfl, rfl, SqT.of (k3.tup hp), rfl, .inl ⟨_, rfl, small_log hm.2.2, by show 1 ≤ sizeLine; omega, fun y ny => ⟨by show 2 ≤ sizeLine; omega, fun z nz => ?_⟩⟩⟩)⟩
      have k4 := Kp.new (D := []) (o := .lst [V.str (numT m)]) ny
      have k5 := Kp.new (D := []) (o := .tup [V.ref y, .int 4]) nz
      have B5 := B3.new (k4.trans k5)
      refine ⟨st, us, _, rfl, rfl, B5.hp, by omega, st, k, _, _, _, _, _, _, _, rfl, B5.push (t := .val m) ⟨z, y, [numT m], rfl, upd_same, ?_, k5.lst upd_same (by simp), .val hm, by simp [Tr.sz]⟩, by omega, hE⟩
      simp only [List.mem_cons, List.not_mem_nil, or_false, not_or]
      exact ⟨(B3.dr.ne ny).symm, (ne_of_none B3.hp ny).symm⟩
    | minus hE =>
      rename_i ts t1
      obtain ⟨p, rfl, hp⟩ := hI
      obtain ⟨us0, u, rfl, _, _⟩ := B.ps.split
      simp only [List.length_append, List.length_cons, List.length_nil] at hul htl
      rw [sumSz_append] at hsz htl
      simp only [sumSz] at hsz htl
      refine isE _ _ p _ _ _ rfl hp (iF (by decide +kernel) (isG _ p _ _ _ rfl hp fun H3 k3 => iF (by decide +kernel) (isE _ _ p _ _ _ rfl (k3.tup hp) (iT (by decide +kernel) ?_))))
      have B3 := B.new k3
      refine ⟨_, rfl, .inl ⟨rfl, _, SqL.of B3.hp⟩, by show 1 ≤ sizeLine; omega, fun y ny => ?_⟩
      have ky := Kp.new (D := []) (o := .lst [V.str "-"]) ny
      have B4 := B3.new ky
      have hy4 : (upd H3 y (.lst [V.str "-"])) y = some (.lst [V.str "-"]) := upd_same
      have ya : y ≠ a := (B3.dr.ne ny).symm
      have yst : st ≠ y := ne_of_none B3.hp ny
      generalize upd H3 y (.lst [V.str "-"]) = H4 at ky B4 hy4 ⊢
      obtain ⟨B5, w5⟩ := B4.pop
      obtain ⟨pu, qu, ws, rfl, hpu, hqu, hqw, hder, hwl⟩ := w5
      simp only [List.mem_cons, List.not_mem_nil, or_false, not_or] at hqu
      refine ⟨_, rfl, _, rfl, .inl ⟨rfl, _, SqL.of B4.hp⟩, st, _, .ref pu, rfl, rfl, B4.hp, by simp, ?_⟩
      rw [List.dropLast_concat]
      have hy5 : (upd H4 st (.lst us0)) y = some (.lst [V.str "-"]) := by rw [upd_ne yst.symm]; exact hy4
      generalize upd H4 st (.lst us0) = H5 at B5 hpu hqw hy5 ⊢
      refine ⟨a, pu, qu, k, _, 2, ws, rfl, hpu, hqu.1, hqw, by omega, B5.dr, by omega, fun H6 r vs2 k' k6 hd6 hk6 hrx hr6 hx6 => ?_⟩
      obtain ⟨hder2, hl2⟩ := der_wrapped (l := 1) hder t1.ll_lv.1.mp (by decide) hx6
      have B6 := B5.go k6 hd6
      have hy6 := k6.lst hy5 (by simpa using ya)
      refine ⟨y, r, _, _, rfl, rfl, hy6, hr6, by simp only [List.length_cons, List.length_nil, List.length_map]; omega, fun z nz => ⟨by show 2 ≤ sizeLine; omega, fun z2 nz2 => ?_⟩⟩
      have k7 := Kp.new (D := []) (o := .lst ([V.str "-"] ++ vs2.map V.str)) nz
      have k8 := Kp.new (D := []) (o := .tup [V.ref z, .int 1]) nz2
      have B8 := B6.new (k7.trans k8)
      refine ⟨st, us0, _, rfl, rfl, B8.hp, by omega, st, k', _, _, _, _, _, _, _, rfl, B8.push (t := .minus t1) ⟨z2, z, ("-" : Str) :: vs2, rfl, upd_same, ?_, k8.lst upd_same (by simp), .minus hder2, by simp only [List.length_cons, Tr.sz]; omega⟩, by omega, hE⟩
      simp only [List.mem_cons, List.not_mem_nil, or_false, not_or]
      exact ⟨(B6.dr.ne nz).symm, (ne_of_none B6.hp nz).symm⟩
    | pow hk4 hko hE =>
      rename_i ts t1 kk
      obtain ⟨p, rfl, hp⟩ := hI
      obtain ⟨us0, u, rfl, _, _⟩ := B.ps.split
      simp only [List.length_append, List.length_cons, List.length_nil] at hul htl
      rw [sumSz_append] at hsz htl
      simp only [sumSz] at hsz htl
      refine isE _ _ p _ _ _ rfl hp (iF (by decide +kernel) (isG _ p _ _ _ rfl hp fun H3 k3 => iF (by decide +kernel) (isE _ _ p _ _ _ rfl (k3.tup hp) (iF (by decide +kernel) (isE _ _ p _ _ _ rfl (k3.tup hp) (iT (by decide +kernel) ?_))))))
      have B4 := B.new k3
      have hp4 := k3.tup hp
      obtain ⟨B5, w5⟩ := B4.pop
      obtain ⟨pu, qu, ws, rfl, hpu, hqu, hqw, hder, hwl⟩ := w5
      simp only [List.mem_cons, List.not_mem_nil, or_false, not_or] at hqu
      refine ⟨_, rfl, .inl ⟨rfl, _, SqL.of B4.hp⟩, _, rfl, _, rfl, .inl ⟨rfl, _, SqL.of B4.hp⟩, st, _, .ref pu, rfl, rfl, B4.hp, by simp, ?_⟩
      rw [List.dropLast_concat]
      have hp5 : (upd H3 st (.lst us0)) p = some (.tup [.str "^", .int (kk : Nat)]) := (Kp.put (D := [st]) B4.hp rfl (by simp)).tup hp4
      generalize upd H3 st (.lst us0) = H5 at B5 hpu hqw hp5 ⊢
      refine ⟨a, pu, qu, k, _, 4, ws, rfl, hpu, hqu.1, hqw, by omega, B5.dr, by omega, fun H6 r vs2 k' k6 hd6 hk6 hrx hr6 hx6 => ?_⟩
      obtain ⟨hder2, hl2⟩ := der_wrapped (l := 3) hder t1.ll_lv.2.2.mp (by decide) hx6
      have B6 := B5.go k6 hd6
      refine ⟨_, rfl, p, _, 1, .int (kk : Nat), rfl, rfl, SqT.of (k6.tup hp5), rfl, .inl ⟨_, rfl, small_log hko.2.2, by show 2 ≤ sizeLine; omega, fun y ny => ?_⟩⟩
      have ky := Kp.new (D := []) (o := .lst [V.str "^", .str (numT kk)]) ny
      refine ⟨r, y, _, _, rfl, rfl, ky.lst hr6 (by simp), upd_same, by simp only [List.length_cons, List.length_nil, List.length_map]; omega, fun z nz => ⟨by show 2 ≤ sizeLine; omega, fun z2 nz2 => ?_⟩⟩
      have k7 := Kp.new (D := []) (o := .lst (vs2.map V.str ++ [V.str "^", .str (numT kk)])) nz
      have k8 := Kp.new (D := []) (o := .tup [V.ref z, .int 3]) nz2
      have B7 := B6.new ky
      have B8 := B7.new (k7.trans k8)
      refine ⟨st, us0, _, rfl, rfl, B8.hp, by omega, st, k', _, _, _, _, _, _, _, rfl, B8.push (t := .pow t1 kk) ⟨z2, z, vs2 ++ [("^" : Str), numT kk], rfl, upd_same, ?_, ?_, .pow hder2 hk4 hko, by simp only [List.length_append, List.length_cons, List.length_nil, Tr.sz]; omega⟩, by omega, hE⟩
      · simp only [List.mem_cons, List.not_mem_nil, or_false, not_or]
        exact ⟨(B7.dr.ne nz).symm, (ne_of_none B7.hp nz).symm⟩
      · refine (k8.lst upd_same (by simp)).trans ?_
        rw [List.map_append]
        rfl
    | op hE =>
      rename_i ts t1 t2 op
      obtain ⟨p, rfl, hp⟩ := hI
      obtain ⟨cc, m, r, hcc, hm, hr2, hll, hma, hrb⟩ := op_least op
      refine isE _ _ p _ _ _ rfl hp (iF (op_ne op (by simp)) (isG _ p _ _ _ rfl hp fun H3 k3 => iF (op_nin op) (isE _ _ p _ _ _ rfl (k3.tup hp) (iF (op_ne op (by simp)) (isE _ _ p _ _ _ rfl (k3.tup hp) (iF (op_ne op (by simp)) ?_))))))
      have B3 := B.new k3
      have hp3 := k3.tup hp
      obtain ⟨us1, u2, rfl, hT1, hu2⟩ := RsAt.split (ts := ts ++ [t1]) (by simpa using B3.ps)
      obtain ⟨us0, u1, rfl, hT0, hu1⟩ := hT1.split
      rw [List.append_assoc] at B3 hul
      simp only [List.length_append, List.length_cons, List.length_nil] at hul htl
      rw [sumSz_append] at hsz htl
      simp only [sumSz] at hsz htl
      obtain ⟨p1, q1, ws1, rfl, hp1, hq1, hqw1, hder1, hwl1⟩ := hu1
      obtain ⟨p2, q2, ws2, rfl, hp2, hq2, hqw2, hder2, hwl2⟩ := hu2
      simp only [List.mem_cons, List.not_mem_nil, or_false, not_or] at hq1 hq2
      refine ⟨_, rfl, p, _, 0, .str op.s, rfl, rfl, SqT.of hp3, atI_nat (j := 0) rfl, cc, "*/", hcc, rfl, _, rfl, ite_int ?_⟩
      rw [hm]
      refine ⟨_, rfl, _, rfl, _, rfl, st, _, -2, .ref p1, rfl, rfl, SqL.of B3.hp, atI_2 _ _ _, _, rfl, a, p1, q1, k, _, m, ws1, rfl, hp1, hq1.1, hqw1, by omega, B3.dr, by omega, fun H4 r1 vs1 k1' k4 hd4 hk4 hr1a hr14 hx4 => ?_⟩
      obtain ⟨hd1, hl1⟩ := der_wrapped (l := op.lv) hder1 (hma t1).mp (by have := op.lv_le; omega) hx4
      have B4 := B3.go k4 hd4
      refine ⟨_, rfl, _, rfl, p, _, 0, .str op.s, rfl, rfl, SqT.of (k4.tup hp3), atI_nat (j := 0) rfl, by show 1 ≤ sizeLine; omega, fun y ny => ?_⟩
      have ky := Kp.new (D := []) (o := .lst [V.str op.s]) ny
      refine ⟨r1, y, _, _, rfl, rfl, ky.lst hr14 (by simp), upd_same, by simp only [List.length_cons, List.length_nil, List.length_map]; omega, fun z nz => ?_⟩
      have kz := Kp.new (D := []) (o := .lst (vs1.map V.str ++ [V.str op.s])) nz
      have B5 := B4.new (ky.trans kz)
      have hz5 : (upd (upd H4 y (.lst [V.str op.s])) z (.lst (vs1.map V.str ++ [V.str op.s]))) z = some (.lst (vs1.map V.str ++ [V.str op.s])) := upd_same
      have za : z ≠ a := ((B4.new ky).dr.ne nz).symm
      have k45 := k4.trans (ky.trans kz).of
      generalize upd (upd H4 y (.lst [V.str op.s])) z (.lst (vs1.map V.str ++ [V.str op.s])) = H5 at B5 hz5 k45 ⊢
      refine ⟨_, rfl, _, rfl, _, rfl, st, _, -1, .ref p2, rfl, rfl, SqL.of B5.hp, atI_1 _ _ _, _, rfl, rfl, _, rfl, ite_int ?_⟩
      rw [hr2]
      refine ⟨a, p2, q2, k1', _, r, ws2, rfl, k45.tup hp2, hq2.1, k45.lst hqw2 (by simpa using hq2.1), by omega, B5.dr, by omega, fun H6 r2 vs2 k2' k6 hd6 hk6 hr2a hr26 hx6 => ?_⟩
      obtain ⟨hd2, hl2⟩ := der_wrapped (l := op.lv + 1) hder2 (hrb t2).mp (by have := op.lv_le; omega) hx6
      have B6 := B5.go k6 hd6
      have hz6 := k6.lst hz5 (by simpa using za)
      refine ⟨z, r2, _, _, rfl, rfl, hz6, hr26, by simp only [List.length_cons, List.length_nil, List.length_map, List.length_append]; omega, fun w1 nw1 => ?_⟩
      have kw := Kp.new (D := []) (o := .lst (vs1.map V.str ++ [V.str op.s] ++ vs2.map V.str)) nw1
      have B7 := B6.new kw
      have wst := (ne_of_none B6.hp nw1).symm
      have wa := (B6.dr.ne nw1).symm
      have hw7 : (upd H6 w1 (.lst (vs1.map V.str ++ [V.str op.s] ++ vs2.map V.str))) w1 = some (.lst ((vs1 ++ op.s :: vs2).map V.str)) := by
        rw [upd_same]
        simp
      have hT7 := (((hT0.map fun _ _ h => h.kp k45 (by simp)).map fun _ _ h => h.kp k6 (by simp)).map fun _ _ h => h.kp kw (by simp))
      generalize upd H6 w1 (.lst (vs1.map V.str ++ [V.str op.s] ++ vs2.map V.str)) = H7 at B7 hw7 hT7 ⊢
      refine ⟨_, rfl, _, rfl, _, rfl, st, _, rfl, SqL.of B7.hp, fun c nc => ?_⟩
      have ec : cutV (us0 ++ ([V.ref p1] ++ [V.ref p2])) none (some (-(2 : Int))) = us0 := cut_end (k := 2) rfl (by decide)
      rw [ec] at *
      have k8 := Kp.new (D := []) (o := .lst us0) nc
      refine ⟨_, rfl, _, rfl, by show 2 ≤ sizeLine; omega, fun y2 ny2 => ⟨by show 1 ≤ sizeLine; omega, fun z2 nz2 => ?_⟩⟩
      have k9 := Kp.new (D := []) (o := .tup [V.ref w1, .int (m : Nat)]) ny2
      have k10 := Kp.new (D := []) (o := .lst [V.ref y2]) nz2
      have kall := (k8.trans k9).trans k10
      refine ⟨c, z2, us0, [.ref y2], rfl, rfl, (k9.trans k10).lst (a := c) upd_same (by simp), upd_same, by simp only [List.length_cons, List.length_nil]; omega, fun st' nst => ?_⟩
      refine ⟨st', k2', _, _, _, _, _, _, _, rfl, (B7.new kall).renew nst (hT7.map fun _ _ h => h.kp kall (by simp)) (t := .bin op t1 t2) ⟨y2, w1, vs1 ++ op.s :: vs2, rfl, ?_, by simp only [List.mem_cons, List.not_mem_nil, or_false, not_or]; exact ⟨wa, wst⟩, kall.lst hw7 (by simp), ?_, by simp only [List.length_append, List.length_cons, Tr.sz]; omega⟩, by omega, hE⟩
      · rw [hll]
        exact k10.tup upd_same
      · have ha := hd1.mono (show t1.ht + 1 ≤ max t1.ht t2.ht + 1 by omega)
        have hb := hd2.mono (show t2.ht + 1 ≤ max t1.ht t2.ht + 1 by omega)
        show Der op.lv (max t1.ht t2.ht + 1) _ _
        have := op.lv_le
        rcases (show op.lv = 0 ∨ op.lv = 1 by omega) with e | e
        · rw [e] at ha hb ⊢
          exact .bin0 e ha hb
        · rw [e] at ha hb ⊢
          exact .bin1 e ha hb
    | c1 hf hE =>
      rename_i ts t1 fn
      obtain ⟨p, rfl, hp⟩ := hI
      obtain ⟨us0, u, rfl, hT0, hu1⟩ := B.ps.split
      simp only [List.length_append, List.length_cons, List.length_nil] at hul htl
      rw [sumSz_append] at hsz htl
      simp only [sumSz] at hsz htl
      obtain ⟨p1, q1, ws1, rfl, hp1, hq1, hqw1, hder1, hwl1⟩ := hu1
      refine isE _ _ p _ _ _ rfl hp (iT (by decide +kernel) ?_)
      refine ⟨by show 0 ≤ sizeLine; omega, fun w0 nw0 => ?_⟩
      have kw0 := Kp.new (D := []) (o := .lst []) nw0
      have B1 := B.new kw0
      have hp1' := kw0.tup hp
      have hw0 : (upd H' w0 (.lst [])) w0 = some (.lst []) := upd_same
      have k1 : Kp [] H' (upd H' w0 (.lst [])) := kw0
      generalize upd H' w0 (.lst []) = H1 at B1 hp1' hw0 k1 ⊢
      refine ⟨_, rfl, _, rfl, p, _, 2, .int 1, rfl, rfl, SqT.of hp1', rfl, _, rfl, _, rfl, st, _, rfl, SqL.of B1.hp, fun c2 nc2 => ?_⟩
      have ek : cutV (us0 ++ [V.ref p1]) (some (-(1 : Int))) none = [V.ref p1] := keep_end (k := 1) rfl (by decide)
      rw [ek] at *
      have kc := Kp.new (D := []) (o := .lst [V.ref p1]) nc2
      have B2 := B1.new kc
      have hw2 := kc.lst hw0 (by simp)
      have hp2' := kc.tup hp1'
      have hc2 : (upd H1 c2 (.lst [V.ref p1])) c2 = some (.lst [V.ref p1]) := upd_same
      have k2 := k1.trans kc
      generalize upd H1 c2 (.lst [V.ref p1]) = H2 at B2 hw2 hp2' hc2 k2 ⊢
      have hel : ∀ (i : Nat) (x : V), ([V.ref p1] : List V)[i]? = some x → ∃ (p q : Addr) (l : Int) (ws : List Str), x = V.ref p ∧ H2 p = some (.tup [.ref q, .int l]) ∧ H2 q = some (.lst (ws.map V.str)) ∧ [ws1][i]? = some ws ∧ ws.length ≤ 200 := by
        intro i x hx
        rcases i with _ | i
        · cases hx
          exact ⟨p1, q1, _, ws1, rfl, k2.tup hp1, k2.lst hqw1 (by simp), rfl, by omega⟩
        · simp at hx
      refine ⟨c2, rfl, ⟨_, SqL.of hc2⟩, ?_⟩
      refine for_list (xs := [V.ref p1]) (fun i σ H'' => ∃ (wl : Addr) (o7 o8 : Option V), σ = [some (V.ref a), some sv, some (V.ref rl), some o, some (V.ref st), some (V.ref p), some (V.ref wl), o7, o8, o9] ∧ Kp [] H2 H'' ∧ H'' wl = some (.lst ((fl ([ws1].take i)).map V.str)))
        ⟨w0, _, _, rfl, Kp.refl, hw2⟩ (fun i σ H'' _ h => by obtain ⟨_, _, _, _, k, _⟩ := h; exact SqL.of (k.lst hc2 (by simp))) (fun j x σ H'' hx h => ?_) fun σ H'' h => ?_
      · obtain ⟨wl, o7, o8, rfl, kk, hwl⟩ := h
        obtain ⟨pj, qj, lj, ws, rfl, hpj, hqj, hws, hwsl⟩ := hel j x hx
        have hfl : (fl ([ws1].take j)).length ≤ 500 := by
          have hj := (List.getElem?_eq_some_iff.mp hws).1
          simp only [List.length_cons, List.length_nil] at hj
          obtain rfl : j = 0 := by omega
          simp [fl]
          
        refine ⟨pj, _, rfl, SqT.of (kk.tup hpj), rfl, _, _, rfl, _, _, rfl, rfl, ?_⟩
        refine ⟨_, rfl, by show 1 ≤ sizeLine; omega, fun y ny => ?_⟩
        have ky := Kp.new (D := []) (o := .lst [V.str ","]) ny
        refine ⟨wl, y, _, _, rfl, rfl, ky.lst hwl (by simp), upd_same, by simp only [List.length_cons, List.length_nil, List.length_map]; omega, fun z nz => ?_⟩
        have kz := Kp.new (D := []) (o := .lst ((fl ([ws1].take j)).map V.str ++ [V.str ","])) nz
        refine ⟨_, rfl, z, qj, _, _, rfl, rfl, upd_same, kz.lst (ky.lst (kk.lst hqj (by simp)) (by simp)) (by simp), by simp only [List.length_cons, List.length_nil, List.length_map, List.length_append]; omega, fun wl2 nwl2 => ?_⟩
        have kw := Kp.new (D := []) (o := .lst ((fl ([ws1].take j)).map V.str ++ [V.str ","] ++ ws.map V.str)) nwl2
        refine ⟨wl2, _, _, rfl, ((kk.trans ky).trans kz).trans kw, ?_⟩
        rw [upd_same, List.take_add_one, hws]
        simp [fl]
      obtain ⟨wl, o7, o8, rfl, kk, hwl⟩ := h
      have ewl : (fl ([ws1].take [V.ref p1].length)).map V.str = V.str "," :: (ws1).map V.str := by simp [fl]
      rw [ewl] at hwl
      have B4 := B2.new kk
      have hp4 := kk.tup hp2'
      have k4 := k2.trans kk
      refine ⟨_, rfl, _, rfl, p, _, 2, .int 1, rfl, rfl, SqT.of hp4, rfl, _, rfl, _, rfl, st, _, rfl, SqL.of B4.hp, fun c nc => ?_⟩
      have ec : cutV (us0 ++ [V.ref p1]) none (some (-(1 : Int))) = us0 := cut_end (k := 1) rfl (by decide)
      rw [ec] at *
      have k5 := Kp.new (D := []) (o := .lst us0) nc
      refine ⟨_, rfl, p, _, 1, .str fn, rfl, rfl, SqT.of (k5.tup hp4), rfl, by show 2 ≤ sizeLine; omega, fun y ny => ?_⟩
      have k6 := Kp.new (D := []) (o := .lst [V.str fn, .str "("]) ny
      have k56 := k5.trans k6
      have hwl6 := k56.lst hwl (by simp)
      have hc6 := k6.lst (a := c) (xs := us0) upd_same (by simp)
      have hy6 : (upd (upd H'' c (.lst us0)) y (.lst [V.str fn, .str "("])) y = some (.lst [V.str fn, .str "("]) := upd_same
      generalize upd (upd H'' c (.lst us0)) y (.lst [V.str fn, .str "("]) = H6 at k6 k56 hwl6 hc6 hy6 ⊢
      refine ⟨_, rfl, _, rfl, wl, _, rfl, SqL.of hwl6, fun z nz => ?_⟩
      have ed : cutV (V.str "," :: (ws1).map V.str) (some 1) none = (ws1).map V.str := cut_drop 1
      rw [ed] at *
      have k7 := Kp.new (D := []) (o := .lst ((ws1).map V.str)) nz
      refine ⟨y, z, _, _, rfl, rfl, k7.lst hy6 (by simp), upd_same, by simp only [List.length_cons, List.length_nil, List.length_map, List.length_append]; omega, fun v nv => ?_⟩
      have k8 := Kp.new (D := []) (o := .lst ([V.str fn, .str "("] ++ (ws1).map V.str)) nv
      refine ⟨by show 1 ≤ sizeLine; omega, fun v2 nv2 => ?_⟩
      have k9 := Kp.new (D := []) (o := .lst [V.str ")"]) nv2
      refine ⟨v, v2, _, _, rfl, rfl, k9.lst upd_same (by simp), upd_same, by simp only [List.length_cons, List.length_nil, List.length_map, List.length_append]; omega, fun ql nql => ?_⟩
      have k10 := Kp.new (D := []) (o := .lst ([V.str fn, .str "("] ++ (ws1).map V.str ++ [V.str ")"])) nql
      have k79 := (k7.trans k8).trans k9
      have B9 := (B4.new k56).new k79
      have qst := (ne_of_none B9.hp nql).symm
      have qa := (B9.dr.ne nql).symm
      have hql : (upd (upd (upd (upd H6 z (.lst ((ws1).map V.str))) v (.lst ([V.str fn, .str "("] ++ (ws1).map V.str))) v2 (.lst [V.str ")"])) ql (.lst ([V.str fn, .str "("] ++ (ws1).map V.str ++ [V.str ")"]))) ql = some (.lst (([fn, ("(" : Str)] ++ ws1 ++ [(")" : Str)]).map V.str)) := by
        rw [upd_same]
        simp
      have B10 := B9.new k10
      have hc10 := (k79.trans k10).lst hc6 (by simp)
      have k410 := (k4.trans k56).trans (k79.trans k10)
      generalize upd (upd (upd (upd H6 z (.lst ((ws1).map V.str))) v (.lst ([V.str fn, .str "("] ++ (ws1).map V.str))) v2 (.lst [V.str ")"])) ql (.lst ([V.str fn, .str "("] ++ (ws1).map V.str ++ [V.str ")"])) = H10 at B10 hql hc10 k410 ⊢
      refine ⟨by show 2 ≤ sizeLine; omega, fun y2 ny2 => ⟨by show 1 ≤ sizeLine; omega, fun z2 nz2 => ?_⟩⟩
      have k11 := Kp.new (D := []) (o := .tup [V.ref ql, .int 4]) ny2
      have k12 := Kp.new (D := []) (o := .lst [V.ref y2]) nz2
      have kall := k11.trans k12
      refine ⟨c, z2, us0, [.ref y2], rfl, rfl, kall.lst hc10 (by simp), upd_same, by simp only [List.length_cons, List.length_nil]; omega, fun st' nst => ?_⟩
      refine ⟨st', k, _, _, _, _, _, _, _, rfl, (B10.new kall).renew nst (hT0.map fun _ _ h => h.kp (k410.trans kall) (by simp)) (t := .call1 fn t1) ⟨y2, ql, [fn, ("(" : Str)] ++ ws1 ++ [(")" : Str)], rfl, k12.tup upd_same, by simp only [List.mem_cons, List.not_mem_nil, or_false, not_or]; exact ⟨qa, qst⟩, kall.lst hql (by simp), .call1 hf (hder1.down t1.lv_le (Nat.zero_le _)), by simp only [List.length_append, List.length_cons, List.length_nil, Tr.sz]; omega⟩, by omega, hE⟩
    | c2 hf hE =>
      rename_i ts t1 t2 fn
      obtain ⟨p, rfl, hp⟩ := hI
      obtain ⟨us1, u2, rfl, hT1, hu2⟩ := RsAt.split (ts := ts ++ [t1]) (by simpa using B.ps)
      obtain ⟨us0, u1, rfl, hT0, hu1⟩ := hT1.split
      rw [List.append_assoc] at B hul
      simp only [List.length_append, List.length_cons, List.length_nil] at hul htl
      rw [sumSz_append] at hsz htl
      simp only [sumSz] at hsz htl
      obtain ⟨p1, q1, ws1, rfl, hp1, hq1, hqw1, hder1, hwl1⟩ := hu1
      obtain ⟨p2, q2, ws2, rfl, hp2, hq2, hqw2, hder2, hwl2⟩ := hu2
      refine isE _ _ p _ _ _ rfl hp (iT (by decide +kernel) ?_)
      refine ⟨by show 0 ≤ sizeLine; omega, fun w0 nw0 => ?_⟩
      have kw0 := Kp.new (D := []) (o := .lst []) nw0
      have B1 := B.new kw0
      have hp1' := kw0.tup hp
      have hw0 : (upd H' w0 (.lst [])) w0 = some (.lst []) := upd_same
      have k1 : Kp [] H' (upd H' w0 (.lst [])) := kw0
      generalize upd H' w0 (.lst []) = H1 at B1 hp1' hw0 k1 ⊢
      refine ⟨_, rfl, _, rfl, p, _, 2, .int 2, rfl, rfl, SqT.of hp1', rfl, _, rfl, _, rfl, st, _, rfl, SqL.of B1.hp, fun c2 nc2 => ?_⟩
      have ek : cutV (us0 ++ ([V.ref p1] ++ [V.ref p2])) (some (-(2 : Int))) none = [V.ref p1, V.ref p2] := keep_end (k := 2) rfl (by decide)
      rw [ek] at *
      have kc := Kp.new (D := []) (o := .lst [V.ref p1, V.ref p2]) nc2
      have B2 := B1.new kc
      have hw2 := kc.lst hw0 (by simp)
      have hp2' := kc.tup hp1'
      have hc2 : (upd H1 c2 (.lst [V.ref p1, V.ref p2])) c2 = some (.lst [V.ref p1, V.ref p2]) := upd_same
      have k2 := k1.trans kc
      generalize upd H1 c2 (.lst [V.ref p1, V.ref p2]) = H2 at B2 hw2 hp2' hc2 k2 ⊢
      have hel : ∀ (i : Nat) (x : V), ([V.ref p1, V.ref p2] : List V)[i]? = some x → ∃ (p q : Addr) (l : Int) (ws : List Str), x = V.ref p ∧ H2 p = some (.tup [.ref q, .int l]) ∧ H2 q = some (.lst (ws.map V.str)) ∧ [ws1, ws2][i]? = some ws ∧ ws.length ≤ 200 := by
        intro i x hx
        rcases i with _ | i
        · cases hx
          exact ⟨p1, q1, _, ws1, rfl, k2.tup hp1, k2.lst hqw1 (by simp), rfl, by omega⟩
        · rcases i with _ | i
          · cases hx
            exact ⟨p2, q2, _, ws2, rfl, k2.tup hp2, k2.lst hqw2 (by simp), rfl, by omega⟩
          · simp at hx
      refine ⟨c2, rfl, ⟨_, SqL.of hc2⟩, ?_⟩
      refine for_list (xs := [V.ref p1, V.ref p2]) (fun i σ H'' => ∃ (wl : Addr) (o7 o8 : Option V), σ = [some (V.ref a), some sv, some (V.ref rl), some o, some (V.ref st), some (V.ref p), some (V.ref wl), o7, o8, o9] ∧ Kp [] H2 H'' ∧ H'' wl = some (.lst ((fl ([ws1, ws2].take i)).map V.str)))
        ⟨w0, _, _, rfl, Kp.refl, hw2⟩ (fun i σ H'' _ h => by obtain ⟨_, _, _, _, k, _⟩ := h; exact SqL.of (k.lst hc2 (by simp))) (fun j x σ H'' hx h => ?_) fun σ H'' h => ?_
      · obtain ⟨wl, o7, o8, rfl, kk, hwl⟩ := h
        obtain ⟨pj, qj, lj, ws, rfl, hpj, hqj, hws, hwsl⟩ := hel j x hx
        have hfl : (fl ([ws1, ws2].take j)).length ≤ 500 := by
          have hj := (List.getElem?_eq_some_iff.mp hws).1
          simp only [List.length_cons, List.length_nil] at hj
          rcases (show j = 0 ∨ j = 1 by omega) with rfl | rfl
          · simp [fl]
          · simp only [fl, List.take_succ_cons, List.take_zero, List.flatMap_cons, List.flatMap_nil, List.length_append, List.length_cons, List.length_nil]; omega
        refine ⟨pj, _, rfl, SqT.of (kk.tup hpj), rfl, _, _, rfl, _, _, rfl, rfl, ?_⟩
        refine ⟨_, rfl, by show 1 ≤ sizeLine; omega, fun y ny => ?_⟩
        have ky := Kp.new (D := []) (o := .lst [V.str ","]) ny
        refine ⟨wl, y, _, _, rfl, rfl, ky.lst hwl (by simp), upd_same, by simp only [List.length_cons, List.length_nil, List.length_map]; omega, fun z nz => ?_⟩
        have kz := Kp.new (D := []) (o := .lst ((fl ([ws1, ws2].take j)).map V.str ++ [V.str ","])) nz
        refine ⟨_, rfl, z, qj, _, _, rfl, rfl, upd_same, kz.lst (ky.lst (kk.lst hqj (by simp)) (by simp)) (by simp), by simp only [List.length_cons, List.length_nil, List.length_map, List.length_append]; omega, fun wl2 nwl2 => ?_⟩
        have kw := Kp.new (D := []) (o := .lst ((fl ([ws1, ws2].take j)).map V.str ++ [V.str ","] ++ ws.map V.str)) nwl2
        refine ⟨wl2, _, _, rfl, ((kk.trans ky).trans kz).trans kw, ?_⟩
        rw [upd_same, List.take_add_one, hws]
        simp [fl]
      obtain ⟨wl, o7, o8, rfl, kk, hwl⟩ := h
      have ewl : (fl ([ws1, ws2].take [V.ref p1, V.ref p2].length)).map V.str = V.str "," :: ((ws1 ++ ("," : Str) :: ws2)).map V.str := by simp [fl]
      rw [ewl] at hwl
      have B4 := B2.new kk
      have hp4 := kk.tup hp2'
      have k4 := k2.trans kk
      refine ⟨_, rfl, _, rfl, p, _, 2, .int 2, rfl, rfl, SqT.of hp4, rfl, _, rfl, _, rfl, st, _, rfl, SqL.of B4.hp, fun c nc => ?_⟩
      have ec : cutV (us0 ++ ([V.ref p1] ++ [V.ref p2])) none (some (-(2 : Int))) = us0 := cut_end (k := 2) rfl (by decide)
      rw [ec] at *
      have k5 := Kp.new (D := []) (o := .lst us0) nc
      refine ⟨_, rfl, p, _, 1, .str fn, rfl, rfl, SqT.of (k5.tup hp4), rfl, by show 2 ≤ sizeLine; omega, fun y ny => ?_⟩
      have k6 := Kp.new (D := []) (o := .lst [V.str fn, .str "("]) ny
      have k56 := k5.trans k6
      have hwl6 := k56.lst hwl (by simp)
      have hc6 := k6.lst (a := c) (xs := us0) upd_same (by simp)
      have hy6 : (upd (upd H'' c (.lst us0)) y (.lst [V.str fn, .str "("])) y = some (.lst [V.str fn, .str "("]) := upd_same
      generalize upd (upd H'' c (.lst us0)) y (.lst [V.str fn, .str "("]) = H6 at k6 k56 hwl6 hc6 hy6 ⊢
      refine ⟨_, rfl, _, rfl, wl, _, rfl, SqL.of hwl6, fun z nz => ?_⟩
      have ed : cutV (V.str "," :: ((ws1 ++ ("," : Str) :: ws2)).map V.str) (some 1) none = ((ws1 ++ ("," : Str) :: ws2)).map V.str := cut_drop 1
      rw [ed] at *
      have k7 := Kp.new (D := []) (o := .lst (((ws1 ++ ("," : Str) :: ws2)).map V.str)) nz
      refine ⟨y, z, _, _, rfl, rfl, k7.lst hy6 (by simp), upd_same, by simp only [List.length_cons, List.length_nil, List.length_map, List.length_append]; omega, fun v nv => ?_⟩
      have k8 := Kp.new (D := []) (o := .lst ([V.str fn, .str "("] ++ ((ws1 ++ ("," : Str) :: ws2)).map V.str)) nv
      refine ⟨by show 1 ≤ sizeLine; omega, fun v2 nv2 => ?_⟩
      have k9 := Kp.new (D := []) (o := .lst [V.str ")"]) nv2
      refine ⟨v, v2, _, _, rfl, rfl, k9.lst upd_same (by simp), upd_same, by simp only [List.length_cons, List.length_nil, List.length_map, List.length_append]; omega, fun ql nql => ?_⟩
      have k10 := Kp.new (D := []) (o := .lst ([V.str fn, .str "("] ++ ((ws1 ++ ("," : Str) :: ws2)).map V.str ++ [V.str ")"])) nql
      have k79 := (k7.trans k8).trans k9
      have B9 := (B4.new k56).new k79
      have qst := (ne_of_none B9.hp nql).symm
      have qa := (B9.dr.ne nql).symm
      have hql : (upd (upd (upd (upd H6 z (.lst (((ws1 ++ ("," : Str) :: ws2)).map V.str))) v (.lst ([V.str fn, .str "("] ++ ((ws1 ++ ("," : Str) :: ws2)).map V.str))) v2 (.lst [V.str ")"])) ql (.lst ([V.str fn, .str "("] ++ ((ws1 ++ ("," : Str) :: ws2)).map V.str ++ [V.str ")"]))) ql = some (.lst (([fn, ("(" : Str)] ++ (ws1 ++ ("," : Str) :: ws2) ++ [(")" : Str)]).map V.str)) := by
        rw [upd_same]
        simp
      have B10 := B9.new k10
      have hc10 := (k79.trans k10).lst hc6 (by simp)
      have k410 := (k4.trans k56).trans (k79.trans k10)
      generalize upd (upd (upd (upd H6 z (.lst (((ws1 ++ ("," : Str) :: ws2)).map V.str))) v (.lst ([V.str fn, .str "("] ++ ((ws1 ++ ("," : Str) :: ws2)).map V.str))) v2 (.lst [V.str ")"])) ql (.lst ([V.str fn, .str "("] ++ ((ws1 ++ ("," : Str) :: ws2)).map V.str ++ [V.str ")"])) = H10 at B10 hql hc10 k410 ⊢
      refine ⟨by show 2 ≤ sizeLine; omega, fun y2 ny2 => ⟨by show 1 ≤ sizeLine; omega, fun z2 nz2 => ?_⟩⟩
      have k11 := Kp.new (D := []) (o := .tup [V.ref ql, .int 4]) ny2
      have k12 := Kp.new (D := []) (o := .lst [V.ref y2]) nz2
      have kall := k11.trans k12
      refine ⟨c, z2, us0, [.ref y2], rfl, rfl, kall.lst hc10 (by simp), upd_same, by simp only [List.length_cons, List.length_nil]; omega, fun st' nst => ?_⟩
      refine ⟨st', k, _, _, _, _, _, _, _, rfl, (B10.new kall).renew nst (hT0.map fun _ _ h => h.kp (k410.trans kall) (by simp)) (t := .call2 fn t1 t2) ⟨y2, ql, [fn, ("(" : Str)] ++ (ws1 ++ ("," : Str) :: ws2) ++ [(")" : Str)], rfl, k12.tup upd_same, by simp only [List.mem_cons, List.not_mem_nil, or_false, not_or]; exact ⟨qa, qst⟩, kall.lst hql (by simp), (show Der 3 (max t1.ht t2.ht + 1) ([fn, ("(" : Str)] ++ (ws1 ++ ("," : Str) :: ws2) ++ [(")" : Str)]) (.call2 fn t1 t2) by
          have e := Der.call2 hf ((hder1.down t1.lv_le (Nat.zero_le _)).mono (Nat.le_max_left t1.ht t2.ht)) ((hder2.down t2.lv_le (Nat.zero_le _)).mono (Nat.le_max_right t1.ht t2.ht))
          simpa using e), by simp only [List.length_append, List.length_cons, List.length_nil, Tr.sz]; omega⟩, by omega, hE⟩
  · obtain ⟨st, k, us, ts, oi, o6, o7, o8, o9, rfl, B, hk, hE⟩ := h
    rw [hlen, List.drop_length] at hE
    rw [hlen] at hk
    have hps := B.ps
    cases hE
    cases hps with
    | cons c1 c2 =>
      cases c2
      obtain ⟨pu, qu, ws, rfl, hpu, hqu, hqw, hder, hwl⟩ := c1
      simp only [List.mem_cons, List.not_mem_nil, or_false, not_or] at hqu
      exact ⟨_, rfl, st, _, 0, _, rfl, rfl, SqL.of B.hp, rfl, pu, _, 0, _, rfl, rfl, SqT.of hpu, rfl, q H' qu ws k B.kp B.dr hk hqu.1 hqw hder hwl⟩
end
end K2
set_option maxHeartbeats 4000000
/-! P23: what is told, shown; a tree printed and read. -/
namespace K2
open PySem PySem.Spec L2 DL
open PySem.W (Frag keepIn findIn typeIn subIn kitOne kitAny excIn)
open PyProof.Rows hiding St wpAt wpAt_bind wpAt_stack wpAt_mono
/-- a list behind a list, its place known not to be sys.modules' -/
def rCatB : R2 := fun x y H Q => ∃ l b xs zs, x = .ref l ∧ y = .ref b ∧ H l = some (.lst xs) ∧ H b = some (.lst zs) ∧ xs.length + zs.length ≤ sizeLine ∧ ∀ p, H p = none → p ≠ sysModules → Q (.ref p) (upd H p (.lst (xs ++ zs)))
theorem op_catB {X : Cx} : OpR X (binaryOp .Add) rCatB := by
  intro pins s σ H x y v u Q I rx ry h
  obtain ⟨l, b, xs, zs, rfl, rfl, hH, hB, hz, q⟩ := h
  cases rx
  cases ry
  obtain ⟨z, its, n, r, hl, e⟩ := I.lstM hH
  obtain ⟨z2, its2, n2, r2, hl2, e2⟩ := I.lstM hB
  refine PySem.P.add_list e e2 ?_ (by rw [List.size_toArray, List.size_toArray]; omega)
  have ea : its.toArray ++ its2.toArray = (its ++ its2).toArray := by simp
  rw [ea]
  exact ⟨.ref _, _, I.lnew (t' := s.toks) (r.append r2) (by rw [List.length_append]; omega), rfl, q _ I.fresh (Nat.ne_of_gt I.big)⟩
/-! ### trees and rows as data -/
def Tr.py : Tr → PyData
  | .val n => .tuple [.str "value", .int (n : Nat)]
  | .nam x => .tuple [.str "name", .str x]
  | .call1 f a => .tuple [.str "call", .str f, .tuple [a.py]]
  | .call2 f a b => .tuple [.str "call", .str f, .tuple [a.py, b.py]]
  | .minus a => .tuple [.str "minus", a.py]
  | .pow a k => .tuple [.str "power", a.py, .int (k : Nat)]
  | .bin o a b => .tuple [.str o.s, a.py, b.py]
theorem TrAt.rz {H : Hp} : ∀ {t : Tr} {v : V}, TrAt H t v → Rz H v t.py
  | .val n, _, ⟨p, e, h⟩ => by subst e; exact .tup h (.cons (.str _) (.cons (.int _) .nil))
  | .nam x, _, ⟨p, e, h⟩ => by subst e; exact .tup h (.cons (.str _) (.cons (.str _) .nil))
  | .call1 _ _, _, ⟨p, q, u, e, h, h2, a⟩ => by subst e; exact .tup h (.cons (.str _) (.cons (.str _) (.cons (.tup h2 (.cons a.rz .nil)) .nil)))
  | .call2 _ _ _, _, ⟨p, q, u, u', e, h, h2, a, b⟩ => by subst e; exact .tup h (.cons (.str _) (.cons (.str _) (.cons (.tup h2 (.cons a.rz (.cons b.rz .nil))) .nil)))
  | .minus _, _, ⟨p, u, e, h, a⟩ => by subst e; exact .tup h (.cons (.str _) (.cons a.rz .nil))
  | .pow _ _, _, ⟨p, u, e, h, a⟩ => by subst e; exact .tup h (.cons (.str _) (.cons a.rz (.cons (.int _) .nil)))
  | .bin _ _ _, _, ⟨p, u, u', e, h, a, b⟩ => by subst e; exact .tup h (.cons (.str _) (.cons a.rz (.cons b.rz .nil)))
def Rw.py : Rw → PyData
  | .given h x => .tuple [.str h, .str x]
  | .tell t => .tuple [.str "tell", t.py]
  | .letr x t => .tuple [.str "let", .str x, t.py]
  | .rule x a b t => .tuple [.str "rule", .str x, .tuple [.str a, .str b], t.py]
theorem RwAt.rz {H : Hp} : ∀ {r : Rw} {v : V}, RwAt H r v → Rz H v r.py
  | .given _ _, _, ⟨p, e, h⟩ => by subst e; exact .tup h (.cons (.str _) (.cons (.str _) .nil))
  | .tell _, _, ⟨p, u, e, h, a⟩ => by subst e; exact .tup h (.cons (.str _) (.cons a.rz .nil))
  | .letr _ _, _, ⟨p, u, e, h, a⟩ => by subst e; exact .tup h (.cons (.str _) (.cons (.str _) (.cons a.rz .nil)))
  | .rule _ _ _ _, _, ⟨p, q, u, e, h, h2, a⟩ => by subst e; exact .tup h (.cons (.str _) (.cons (.str _) (.cons (.tup h2 (.cons (.str _) (.cons (.str _) .nil))) (.cons a.rz .nil))))
/-- what may be shown -/
structure Sh (d : PyData) : Prop where
  able : d.showable = true
  fits : d.shown.length ≤ sizeLine
  deep : d.depth ≤ 100
structure ShB (d : PyData) (b e : Nat) : Prop where
  able : d.showable = true
  leaf : d.leavesShort 8 = true
  bulk : d.bulk ≤ b
  deep : d.depth ≤ e
theorem ShB.sh {d : PyData} {b e : Nat} (h : ShB d b e) (hb : b ≤ 1000000) (he : e ≤ 100) : Sh d :=
  ⟨h.able, PyData.shown_fits_bulk (B := 8) (by decide) (by decide) h.leaf (by have := h.bulk; omega), by have := h.deep; omega⟩
theorem ShB.str {x : Str} (h : ∀ c ∈ x.cps.toList, okC c = true) : ShB (.str x) x.length 0 :=
  ⟨rfl, by
    have small : ∀ c ∈ (letters ++ figures ++ others ++ " ").cps.toList, c < 16 ^ 8 := by decide +kernel
    simp only [PyData.leavesShort, List.all_eq_true, decide_eq_true_eq]
    intro c m
    have := h c m
    unfold okC at this
    exact small c (of_decide_eq_true this), Nat.le_refl _, Nat.le_refl _⟩
theorem ShB.int {k : Nat} (h : NumOk k) : ShB (.int (k : Nat)) 0 0 :=
  ⟨decide_eq_true (small_log h.2.2), by
    have e := nu_len h.1
    simp only [PyData.leavesShort, decide_eq_true_eq]
    show (numT k).length ≤ 8
    omega, Nat.le_refl _, Nat.le_refl _⟩
theorem ShB.tup {l : List PyData} {b e : Nat} (h : ∀ d ∈ l, ∃ b', ShB d b' e) (hb : PyData.bulkAll l ≤ b) : ShB (.tuple l) b (e + 1) := by
  refine ⟨?_, ?_, hb, ?_⟩
  · show PyData.showableAll l = true
    clear hb
    induction l with
    | nil => rfl
    | cons d l ih => exact Bool.and_eq_true_iff.mpr ⟨(h d List.mem_cons_self).choose_spec.able, ih fun x m => h x (List.mem_cons_of_mem _ m)⟩
  · simp only [PyData.leavesShort]
    clear hb
    induction l with
    | nil => rfl
    | cons d l ih =>
      simp only [PyData.leavesShortAll, Bool.and_eq_true]
      exact ⟨(h d List.mem_cons_self).choose_spec.leaf, ih fun x m => h x (List.mem_cons_of_mem _ m)⟩
  · show PyData.depthAll l + 1 ≤ e + 1
    refine Nat.succ_le_succ ?_
    clear hb
    induction l with
    | nil => exact Nat.zero_le _
    | cons d l ih => exact Nat.max_le.mpr ⟨(h d List.mem_cons_self).choose_spec.deep, ih fun x m => h x (List.mem_cons_of_mem _ m)⟩
theorem ShB.lst {l : List PyData} {b e : Nat} (h : ∀ d ∈ l, ∃ b', ShB d b' e) (hb : PyData.bulkAll l ≤ b) : ShB (.list l) b (e + 1) :=
  have t := ShB.tup h hb
  ⟨t.able, t.leaf, t.bulk, t.deep⟩
theorem ShB.up {d : PyData} {b e b' e' : Nat} (h : ShB d b e) (hb : b ≤ b') (he : e ≤ e') : ShB d b' e' := ⟨h.able, h.leaf, Nat.le_trans h.bulk hb, Nat.le_trans h.deep he⟩
theorem ok_nm {x : Str} (h : nmOk x = true) : ∀ c ∈ x.cps.toList, okC c = true := fun c m => by
  have := (alt_nm h).chr
  rw [cat_one] at this
  exact this c m
theorem okW (x : Str) (h : (x.cps.toList.all fun c => okC c) = true) : ShB (.str x) x.length 0 := .str fun c m => List.all_eq_true.mp h c m
theorem op_okC (o : Op) : ShB (.str o.s) o.s.length 0 := by cases o <;> exact okW _ (by decide +kernel)
theorem bulk3 {a b c : PyData} {x y z : Nat} {n : Nat} (h1 : a.bulk ≤ x) (h2 : b.bulk ≤ y) (h3 : c.bulk ≤ z) (h : x + y + z + 3 ≤ n) : PyData.bulkAll [a, b, c] ≤ n := by
  simp only [PyData.bulkAll]
  omega
theorem bulk2 {a b : PyData} {x y : Nat} {n : Nat} (h1 : a.bulk ≤ x) (h2 : b.bulk ≤ y) (h : x + y + 2 ≤ n) : PyData.bulkAll [a, b] ≤ n := by
  simp only [PyData.bulkAll]
  omega
theorem bulk1 {a : PyData} {x : Nat} {n : Nat} (h1 : a.bulk ≤ x) (h : x + 1 ≤ n) : PyData.bulkAll [a] ≤ n := by
  simp only [PyData.bulkAll]
  omega
theorem all1 {P : PyData → Prop} {a : PyData} (h1 : P a) : ∀ d ∈ [a], P d := fun d m => by
  rw [List.mem_singleton] at m
  rw [m]
  exact h1
theorem all2 {P : PyData → Prop} {a b : PyData} (h1 : P a) (h2 : P b) : ∀ d ∈ [a, b], P d := fun d m => by
  simp only [List.mem_cons, List.not_mem_nil, or_false] at m
  rcases m with rfl | rfl
  · exact h1
  · exact h2
theorem all3 {P : PyData → Prop} {a b c : PyData} (h1 : P a) (h2 : P b) (h3 : P c) : ∀ d ∈ [a, b, c], P d := fun d m => by
  simp only [List.mem_cons, List.not_mem_nil, or_false] at m
  rcases m with rfl | rfl | rfl
  · exact h1
  · exact h2
  · exact h3
theorem all4 {P : PyData → Prop} {a b c e : PyData} (h1 : P a) (h2 : P b) (h3 : P c) (h4 : P e) : ∀ d ∈ [a, b, c, e], P d := fun d m => by
  simp only [List.mem_cons, List.not_mem_nil, or_false] at m
  rcases m with rfl | rfl | rfl | rfl
  · exact h1
  · exact h2
  · exact h3
  · exact h4
theorem Tr.shb {t : Tr} (h : t.ok) : ShB t.py (40 * t.sz) (2 * t.ht + 1) := by
  have w1 : ShB (.str "value") 10 0 := (okW _ (by decide +kernel)).up (by decide +kernel) (Nat.le_refl _)
  have w2 : ShB (.str "name") 10 0 := (okW _ (by decide +kernel)).up (by decide +kernel) (Nat.le_refl _)
  have w3 : ShB (.str "call") 10 0 := (okW _ (by decide +kernel)).up (by decide +kernel) (Nat.le_refl _)
  have w4 : ShB (.str "minus") 10 0 := (okW _ (by decide +kernel)).up (by decide +kernel) (Nat.le_refl _)
  have w5 : ShB (.str "power") 10 0 := (okW _ (by decide +kernel)).up (by decide +kernel) (Nat.le_refl _)
  have nm : ∀ {x : Str}, nmOk x = true → ShB (.str x) 10 0 := fun h => (ShB.str (ok_nm h)).up (by have := nm_len h; omega) (Nat.le_refl _)
  induction t with
  | val n =>
    have w := ShB.int h
    exact (ShB.tup (e := 0) (all2 ⟨_, w1⟩ ⟨_, w⟩) (bulk2 w1.bulk w.bulk (Nat.le_refl _))).up (by simp only [Tr.sz]; omega) (by simp only [Tr.ht]; omega)
  | nam x =>
    exact (ShB.tup (e := 0) (all2 ⟨_, w2⟩ ⟨_, nm h⟩) (bulk2 w2.bulk (nm h).bulk (Nat.le_refl _))).up (by simp only [Tr.sz]; omega) (by simp only [Tr.ht]; omega)
  | call1 f a ih =>
    have i1 := ih h.2
    have j1 := ShB.tup (all1 ⟨_, i1⟩) (bulk1 i1.bulk (Nat.le_refl _))
    exact (ShB.tup (e := 2 * a.ht + 1 + 1) (all3 ⟨_, w3.up (Nat.le_refl _) (Nat.zero_le _)⟩ ⟨_, (nm h.1).up (Nat.le_refl _) (Nat.zero_le _)⟩ ⟨_, j1⟩) (bulk3 w3.bulk (nm h.1).bulk j1.bulk (Nat.le_refl _))).up (by simp only [Tr.sz]; omega) (by simp only [Tr.ht]; omega)
  | call2 f a b ih ih2 =>
    have i1 := (ih h.2.1).up (Nat.le_refl _) (show 2 * a.ht + 1 ≤ 2 * max a.ht b.ht + 1 by omega)
    have i2 := (ih2 h.2.2).up (Nat.le_refl _) (show 2 * b.ht + 1 ≤ 2 * max a.ht b.ht + 1 by omega)
    have j1 := ShB.tup (all2 ⟨_, i1⟩ ⟨_, i2⟩) (bulk2 i1.bulk i2.bulk (Nat.le_refl _))
    exact (ShB.tup (e := 2 * max a.ht b.ht + 1 + 1) (all3 ⟨_, w3.up (Nat.le_refl _) (Nat.zero_le _)⟩ ⟨_, (nm h.1).up (Nat.le_refl _) (Nat.zero_le _)⟩ ⟨_, j1⟩) (bulk3 w3.bulk (nm h.1).bulk j1.bulk (Nat.le_refl _))).up (by simp only [Tr.sz]; omega) (by simp only [Tr.ht]; omega)
  | minus a ih =>
    have i1 := ih h
    exact (ShB.tup (e := 2 * a.ht + 1) (all2 ⟨_, w4.up (Nat.le_refl _) (Nat.zero_le _)⟩ ⟨_, i1⟩) (bulk2 w4.bulk i1.bulk (Nat.le_refl _))).up (by simp only [Tr.sz]; omega) (by simp only [Tr.ht]; omega)
  | pow a k ih =>
    have i1 := ih h.1
    have w := ShB.int h.2.2
    exact (ShB.tup (e := 2 * a.ht + 1) (all3 ⟨_, w5.up (Nat.le_refl _) (Nat.zero_le _)⟩ ⟨_, i1⟩ ⟨_, w.up (Nat.le_refl _) (Nat.zero_le _)⟩) (bulk3 w5.bulk i1.bulk w.bulk (Nat.le_refl _))).up (by simp only [Tr.sz]; omega) (by simp only [Tr.ht]; omega)
  | bin o a b ih ih2 =>
    have i1 := (ih h.1).up (Nat.le_refl _) (show 2 * a.ht + 1 ≤ 2 * max a.ht b.ht + 1 by omega)
    have i2 := (ih2 h.2).up (Nat.le_refl _) (show 2 * b.ht + 1 ≤ 2 * max a.ht b.ht + 1 by omega)
    have w := (op_okC o).up (show o.s.length ≤ 10 by rw [o.s_len]; decide) (Nat.zero_le (2 * max a.ht b.ht + 1))
    exact (ShB.tup (e := 2 * max a.ht b.ht + 1) (all3 ⟨_, w⟩ ⟨_, i1⟩ ⟨_, i2⟩) (bulk3 w.bulk i1.bulk i2.bulk (Nat.le_refl _))).up (by simp only [Tr.sz]; omega) (by simp only [Tr.ht]; omega)
def spLawSame : Sp := fun vs H Q _ => ∃ (x y : V) (d : PyData), vs = [x, y] ∧ Rz H x d ∧ Rz H y d ∧ Sh d ∧ Q (.bl true) H
/-! ### the texts that are read -/
theorem txts_of {ps ws : List Str} {x : Str} {wh : Wh} {dd : Nat} (hx : x = cat ps) (ha : Alt ps) (hl : (cat ps).length ≤ 50000) (e : wds ps = ws) (hw : WhW dd ws wh) (hd : dd ≤ 12) : Txts x wh := by
  subst hx e
  exact ⟨hl, ha.chr, _, dd, ha.spd, hw, hd⟩
theorem ne_nm_bl {ps : List Str} : ∀ y, ((" " : Str) :: ps).head? = some y → isNm y = false := fun y hy => by cases hy; exact nm_blank
theorem tx_tell {t : Tr} (g : Good t) : Txts ("tell " ++ cat t.pr) (.row (.tell t)) := by
  have hn : nmOk "tell" = true := by decide +kernel
  have hl := Tr.pr_len g.ok
  have hz := g.sz
  refine txts_of (ps := ("tell" : Str) :: (" " : Str) :: t.pr) (ws := ("tell" : Str) :: wds t.pr) (dd := t.ht) ?_ (.name (nm_nm hn) ne_nm_bl (.blank (Tr.alt g.ok))) ?_ ?_ ?_ (by have := g.ht; omega)
  · rw [cat_cons, cat_cons, ← app_assoc]
    exact congrArg (· ++ cat t.pr) (show ("tell " : Str) = "tell" ++ " " by decide +kernel)
  · rw [cat_cons, cat_cons, app_length, app_length]
    have := nm_len hn
    have e4 : (" " : Str).length = 1 := by decide +kernel
    omega
  · rw [wds_nm hn, wds_blank]
  · exact .tell ((Tr.der g.ok).down t.lv_le (Nat.zero_le _)) hz
theorem tx_let {t : Tr} (g : Good t) : Txts ("let m = " ++ cat t.pr) (.row (.letr "m" t)) := by
  have hn : nmOk "let" = true := by decide +kernel
  have hm : nmOk "m" = true := by decide +kernel
  have hl := Tr.pr_len g.ok
  have hz := g.sz
  refine txts_of (ps := ("let" : Str) :: (" " : Str) :: ("m" : Str) :: (" " : Str) :: ("=" : Str) :: (" " : Str) :: t.pr) (ws := ("let" : Str) :: ("m" : Str) :: ("=" : Str) :: wds t.pr) (dd := t.ht) ?_ (.name (nm_nm hn) ne_nm_bl (.blank (.name (nm_nm hm) ne_nm_bl (.blank (.sign (by decide +kernel) (.blank (Tr.alt g.ok))))))) ?_ ?_ ?_ (by have := g.ht; omega)
  · rw [cat_cons, cat_cons, cat_cons, cat_cons, cat_cons, cat_cons]
    simp only [← app_assoc]
    exact congrArg (· ++ cat t.pr) (show ("let m = " : Str) = "let" ++ " " ++ "m" ++ " " ++ "=" ++ " " by decide +kernel)
  · simp only [cat_cons, app_length]
    have := nm_len hn
    have := nm_len hm
    have e4 : (" " : Str).length = 1 := by decide +kernel
    have e5 : ("=" : Str).length = 1 := by decide +kernel
    omega
  · rw [wds_nm hn, wds_blank, wds_nm hm, wds_blank, wds_sg (by decide +kernel), wds_blank]
  · exact .letr hm ((Tr.der g.ok).down t.lv_le (Nat.zero_le _)) hz
theorem tx_rule {t : Tr} (g : Good t) : Txts ("rule q(p, n)=" ++ cat t.pr) (.row (.rule "q" "p" "n" t)) := by
  have hn : nmOk "rule" = true := by decide +kernel
  have hq : nmOk "q" = true := by decide +kernel
  have hp : nmOk "p" = true := by decide +kernel
  have hk : nmOk "n" = true := by decide +kernel
  have hl := Tr.pr_len g.ok
  have hz := g.sz
  have hs : ∀ {x : Str} {ps : List Str}, x ∈ signs → ∀ y, (x :: ps).head? = some y → isNm y = false := fun hx y hy => by
    cases hy
    exact (Sep.nm (.inl hx))
  refine txts_of (ps := ("rule" : Str) :: (" " : Str) :: ("q" : Str) :: ("(" : Str) :: ("p" : Str) :: ("," : Str) :: (" " : Str) :: ("n" : Str) :: (")" : Str) :: ("=" : Str) :: t.pr) (ws := ("rule" : Str) :: ("q" : Str) :: ("(" : Str) :: ("p" : Str) :: ("," : Str) :: ("n" : Str) :: (")" : Str) :: ("=" : Str) :: wds t.pr) (dd := t.ht) ?_ (.name (nm_nm hn) ne_nm_bl (.blank (.name (nm_nm hq) (hs (by decide +kernel)) (.sign (by decide +kernel) (.name (nm_nm hp) (hs (by decide +kernel)) (.sign (by decide +kernel) (.blank (.name (nm_nm hk) (hs (by decide +kernel)) (.sign (by decide +kernel) (.sign (by decide +kernel) (Tr.alt g.ok))))))))))) ?_ ?_ ?_ (by have := g.ht; omega)
  · rw [cat_cons, cat_cons, cat_cons, cat_cons, cat_cons, cat_cons, cat_cons, cat_cons, cat_cons, cat_cons]
    simp only [← app_assoc]
    exact congrArg (· ++ cat t.pr) (show ("rule q(p, n)=" : Str) = "rule" ++ " " ++ "q" ++ "(" ++ "p" ++ "," ++ " " ++ "n" ++ ")" ++ "=" by decide +kernel)
  · simp only [cat_cons, app_length]
    have := nm_len hn
    have := nm_len hq
    have := nm_len hp
    have := nm_len hk
    have e1 : ("(" : Str).length = 1 := by decide +kernel
    have e2 : (")" : Str).length = 1 := by decide +kernel
    have e3 : ("," : Str).length = 1 := by decide +kernel
    have e4 : (" " : Str).length = 1 := by decide +kernel
    have e5 : ("=" : Str).length = 1 := by decide +kernel
    omega
  · rw [wds_nm hn, wds_blank, wds_nm hq, wds_sg (show ("(" : Str) ∈ signs by decide +kernel), wds_nm hp, wds_sg (show ("," : Str) ∈ signs by decide +kernel), wds_blank, wds_nm hk, wds_sg (show (")" : Str) ∈ signs by decide +kernel), wds_sg (show ("=" : Str) ∈ signs by decide +kernel)]
  · exact .rule hq hp hk ((Tr.der g.ok).down t.lv_le (Nat.zero_le _)) hz
def spIsRead : Sp := fun vs H Q _ => ∃ (a rl : Addr) (s : V) (n : Nat) (ivs : List V) (is : List It) (t : Tr), vs = [.ref a, s, .ref rl] ∧ Dr H a n ∧ n ≤ 80000 ∧ rl ≠ a ∧ SpecAt H s ∧ H rl = some (.lst ivs) ∧ ItsAt H ivs is ∧ Po is t ∧ t.ht ≤ 11 ∧ t.sz ≤ 22 ∧
  ∀ (H' : Hp) (m : Nat), Kp [a] H H' → Dr H' a m → m ≤ n + 1000 → Q (.bl true) H'
section
variable {w : World} {K : Frag} {mg : Str → Option Value} {base : Heap} {f : Addr} {fd : FuncData} {dD dG dS : Addr}
theorem ok_law_same (F : L2.Fun K "_law_same" "_law_same" s_law_same f fd) (T : K2.Nms mg) : FnG prg w K mg base 1 f fd ["told", "due"] spLawSame := by
  have S := fs_law_same
  refine fnG_mk F S (fun vs H Q E h => by obtain ⟨x, y, d, rfl, _⟩ := h; rfl) fun cdv A outer s H vs Q E hr gd hsp => ?_
  obtain ⟨x, y, d, rfl, r1, r2, h1, hQ⟩ := hsp
  have hu : (A.deeper (envOfC "_law_same" (defScope s_law_same) s.heap.objs.size f cdv)).units + 200 < cLine := by have := hr.un; omega
  refine ⟨_, (pss_one (ps_ret (pe_cmpR op_eq (pe_callB (call_reprZ gd hu) (by rfl) T.n_repr (by decide +kernel) (pa_cons (pv 0) pa_nil)) (pe_callB (call_reprZ gd hu) (by rfl) T.n_repr (by decide +kernel) (pa_cons (pv 1) pa_nil)) (nomark _)))), ?_⟩
  refine ⟨_, rfl, x, d, rfl, r1, h1.able, h1.fits, h1.deep, _, rfl, y, d, rfl, r2, h1.able, h1.fits, h1.deep, rfl, ?_⟩
  rw [decide_eq_true rfl]
  exact hQ
theorem ok_law_is_read (F : L2.Fun K "_law_is_read" "_law_is_read" s_law_is_read f fd) (T : K2.Nms mg) (c_law_tree : Clb prg w K mg base 2 "_law_tree" spTree []) (c_law_row_text : Clb prg w K mg base 2 "_law_row_text" spRowText []) (c_law_same : Clb prg w K mg base 1 "_law_same" spLawSame [])
    (c_law_glued : Clb prg w K mg base 3 "_law_glued" spGlued []) (c_law_loose_words : Clb prg w K mg base 3 "_law_loose_words" spLoose [])
    (c_tree_text : ClO prg w K mg base CX0 124 "tree_text" spTreeT []) (c_tree_text_k : ClK prg w K mg base 124 "tree_text" "tree" spTreeT) (c_read_tree : ClO prg w K mg base CX0 123 "read_tree" (spRead true) []) (c_read_tree_k : ClK prg w K mg base 123 "read_tree" "text" (spRead true))
    (c_read_row : ClO prg w K mg base CX0 123 "read_row" (spRead false) []) (c_read_row_k : ClK prg w K mg base 123 "read_row" "text" (spRead false)) : FnG prg w K mg base 125 f fd ["draws", "spec", "row"] spIsRead := by
  have S := fs_law_is_read
  refine fnG_mk F S (fun vs H Q E h => by obtain ⟨_, _, _, _, _, _, _, rfl, _⟩ := h; rfl) fun cdv A outer s H vs Q E hr gd hsp => ?_
  obtain ⟨a, rl, sv, n, ivs, is, t, rfl, hd0, hn, hra, hs, hrl, his, hpo, hh, hz, q⟩ := hsp
  refine ⟨_, (pss_cons (ps_par (i := 3) (j := 4) (by rfl) S.nd rfl rfl (by decide) rfl rfl (pa_cons (pe_clb c_law_tree hr (by decide) gd rfl (pa_cons (pv 1) (pa_cons (pv 2) (pa_cons (pe_tup pa_nil) pa_nil)))) (pa_cons (pe_clb c_law_row_text hr (by decide) gd rfl (pa_cons (pv 1) (pa_cons (pv 2) (pa_cons (pe_tup pa_nil) pa_nil)))) pa_nil)) (by rfl))
    (pss_cons (ps_set (i := 5) S.nd rfl (Or.inl rfl) (pe_lstB (pa_cons (pe_clo c_tree_text hr (by decide) rfl (pa_cons (pv 3) pa_nil)) (pa_cons (pe_cloK0 c_tree_text_k hr (by decide) rfl (pk_cons (pv 3) pk_nil)) (pa_cons (pe_clo c_read_tree hr (by decide) rfl (pa_cons (pv 4) pa_nil)) (pa_cons (pe_cloK0 c_read_tree_k hr (by decide) rfl (pk_cons (pv 4) pk_nil)) pa_nil))))))
    (pss_cons (ps_if (pt_not (pt_val (pe_clb c_law_same hr (by decide) gd rfl (pa_cons (pv 5) (pa_cons (pe_lstB (pa_cons (pv 4) (pa_cons (pv 4) (pa_cons (pv 3) (pa_cons (pv 3) pa_nil))))) pa_nil))))) (pss_one (ps_ret pe_bl)) pss_nil)
    (pss_cons (ps_for PassesOwn.never rfl (pi_range1 rfl T.n_range (pa_cons pe_int pa_nil)) (pg_name (i := 6) S.nd rfl (Or.inl rfl)) (pss_one (ps_if (pt_not (pt_val (pe_clb c_law_same hr (by decide) gd rfl (pa_cons (pe_clo c_read_tree hr (by decide) rfl (pa_cons (pe_clb c_law_glued hr (by decide) gd rfl (pa_cons (pv 0) (pa_cons (pe_clb c_law_loose_words hr (by decide) gd rfl (pa_cons (pv 0) (pa_cons (pv 1) (pa_cons (pv 2) (pa_cons (pe_tup pa_nil) pa_nil))))) pa_nil))) pa_nil)) (pa_cons (pv 3) pa_nil))))) (pss_one (ps_ret pe_bl)) pss_nil)))
    (pss_cons (ps_set (i := 7) S.nd rfl (Or.inl rfl) (pe_lstB (pa_cons (pe_clo c_read_row hr (by decide) rfl (pa_cons (pe_op op_add_str pe_str (pv 4)) pa_nil)) (pa_cons (pe_cloK0 c_read_row_k hr (by decide) rfl (pk_cons (pe_op op_add_str pe_str (pv 4)) pk_nil)) (pa_cons (pe_clo c_read_row hr (by decide) rfl (pa_cons (pe_op op_add_str pe_str (pv 4)) pa_nil)) pa_nil)))))
    (pss_one (ps_ret (pe_clb c_law_same hr (by decide) gd rfl (pa_cons (pv 7) (pa_cons (pe_lstB (pa_cons (pe_tup (pa_cons pe_str (pa_cons (pv 3) pa_nil))) (pa_cons (pe_tup (pa_cons pe_str (pa_cons pe_str (pa_cons (pv 3) pa_nil)))) (pa_cons (pe_tup (pa_cons pe_str (pa_cons pe_str (pa_cons (pe_tup (pa_cons pe_str (pa_cons pe_str pa_nil))) (pa_cons (pv 3) pa_nil))))) pa_nil)))) pa_nil)))))))))), ?_⟩
  have sl : sizeLine = 16777216 := sizeLine_eq
  have hev := hpo.whole
  have g := good_of hpo.ok hh (by omega)
  have hpl := Tr.pr_len g.ok
  have sht := Tr.shb g.ok
  have hil := hpo.len
  refine ⟨_, rfl, _, rfl, by show 0 ≤ sizeLine; omega, fun e0 ne0 => ?_⟩
  have k1 := Kp.new (D := []) (o := .tup []) ne0
  refine ⟨sv, _, rl, ivs, is, t, rfl, hs.kp k1, k1.lst hrl (by simp), his.kp k1, hev, by omega, fun H1 v k2 hv => ?_⟩
  have k12 := k1.trans k2
  refine ⟨_, rfl, _, rfl, by show 0 ≤ sizeLine; omega, fun e1 ne1 => ?_⟩
  have k3 := Kp.new (D := []) (o := .tup []) ne1
  have k13 := k12.trans k3
  refine ⟨sv, _, rl, ivs, is, t, rfl, hs.kp k13, k13.lst hrl (by simp), his.kp k13, hev, by omega, g.ok, fun H2 k4 => ⟨_, _, rfl, ?_⟩⟩
  have k04 := k13.trans k4
  have hv2 := (hv.kp k3).kp k4
  clear k13 k12 k1 k2 k3 k4 hv ne0 ne1
  refine ⟨_, rfl, v, t, rfl, hv2, g, fun H3 k5 => ⟨_, rfl, _, rfl, v, t, rfl, hv2.kp k5, g, fun H4 k6 => ⟨_, rfl, cat t.pr, .sum t, rfl, rfl, g.tx, fun H5 u1 k7 hu1 => ⟨_, rfl, _, rfl, cat t.pr, .sum t, rfl, rfl, g.tx, fun H6 u2 k8 hu2 => ⟨by show 4 ≤ sizeLine; omega, fun bt nbt zbt => ?_⟩⟩⟩⟩⟩
  have k9 := Kp.new (D := []) (o := .lst [V.str (cat t.pr), .str (cat t.pr), u1, u2]) nbt
  have hbt : (upd H6 bt (.lst [V.str (cat t.pr), .str (cat t.pr), u1, u2])) bt = some (.lst [V.str (cat t.pr), .str (cat t.pr), u1, u2]) := upd_same
  have k29 := (((k5.trans k6).trans k7).trans k8).trans k9
  have hv9 := hv2.kp k29
  have hu19 := (TrAt.kp k8 hu1).kp k9
  have hu29 := TrAt.kp k9 hu2
  generalize upd H6 bt (.lst [V.str (cat t.pr), .str (cat t.pr), u1, u2]) = H7 at k9 hbt k29 hv9 hu19 hu29 ⊢
  refine ⟨_, rfl, _, rfl, _, rfl, _, rfl, _, rfl, by show 4 ≤ sizeLine; omega, fun dl ndl zdl => ?_⟩
  have k10 := Kp.new (D := []) (o := .lst [V.str (cat t.pr), .str (cat t.pr), v, v]) ndl
  have hx : ShB (.str (cat t.pr)) 880 0 := (ShB.str (Tr.alt g.ok).chr).up (by omega) (Nat.le_refl _)
  have st1 := sht.up (show 40 * t.sz ≤ 880 by omega) (show 2 * t.ht + 1 ≤ 30 by omega)
  have hx30 := hx.up (Nat.le_refl _) (Nat.zero_le 30)
  have sh1 : Sh (.list [.str (cat t.pr), .str (cat t.pr), t.py, t.py]) := (ShB.lst (e := 30) (b := 4000) (all4 ⟨_, hx30⟩ ⟨_, hx30⟩ ⟨_, st1⟩ ⟨_, st1⟩) (by
    have b1 := hx.bulk
    have b2 := st1.bulk
    simp only [PyData.bulkAll]
    omega)).sh (by decide) (by decide)
  refine ⟨_, _, .list [.str (cat t.pr), .str (cat t.pr), t.py, t.py], rfl, .lst (k10.lst hbt (by simp)) zbt (.cons (.str _) (.cons (.str _) (.cons (hu19.kp k10).rz (.cons (hu29.kp k10).rz .nil)))), .lst upd_same zdl (.cons (.str _) (.cons (.str _) (.cons (hv9.kp k10).rz (.cons (hv9.kp k10).rz .nil)))), sh1, true, rfl, iteF ?_⟩
  have kall := (k04.trans k29).trans k10
  have hv10 := hv9.kp k10
  generalize upd H7 dl (.lst [V.str (cat t.pr), .str (cat t.pr), v, v]) = H8 at k10 kall hv10 ⊢
  refine ⟨2, rfl, by decide, by decide, for_range (n := 2) (fun i σ H' => ∃ (k : Nat) (o6 : Option V), σ = [some (.ref a), some sv, some (.ref rl), some v, some (.str (cat t.pr)), some (.ref bt), o6, none] ∧ Kp [a] H H' ∧ Dr H' a k ∧ k ≤ n + 400 * i ∧ TrAt H' t v)
    ⟨n, none, rfl, kall.of, hd0.kp kall (by simp), by omega, hv10⟩ (fun i σ H' hi h => ?_) fun σ H' h => ?_⟩
  · obtain ⟨k, o6, rfl, kk, hdk, hk, hvk⟩ := h
    refine ⟨_, rfl, _, rfl, _, rfl, _, rfl, by show 0 ≤ sizeLine; omega, fun e0 ne0 => ?_⟩
    have k1 := Kp.new (D := []) (o := .tup []) ne0
    have kk1 := kk.trans k1.of
    refine ⟨a, rl, sv, _, k, ivs, is, t, rfl, hdk.kp k1 (by simp), by omega, hra, hs.kp kk1, kk1.lst hrl (by simpa using hra), his.kp kk1, hev, by omega, fun H2 ql ws m k2 hd2 hm hqa hq hder hwl => ?_⟩
    have hws := hder.no_blank
    have hsm := hder.small
    have halt := hder.alt
    refine ⟨a, ql, m, ws, rfl, hd2, by omega, hqa, hq, halt, hws, by omega, hsm, fun H3 ps m2 k3 hd3 hm2 halt2 hwd hlen => ?_⟩
    refine ⟨cat ps, .sum t, rfl, rfl, txts_of rfl halt2 (by omega) hwd (dd := t.ht) ⟨hder.down t.lv_le (Nat.zero_le _), g.sz⟩ (by omega), fun H4 u k4 hu => ?_⟩
    have hv4 := (((hvk.kp k1).kp k2).kp k3).kp k4
    exact ⟨_, rfl, u, v, t.py, rfl, TrAt.rz hu, hv4.rz, st1.sh (by decide) (by decide), true, rfl, iteF ⟨m2, _, rfl, ((kk1.trans k2).trans k3).trans k4.of, hd3.kp k4 (by simp), by omega, hv4⟩⟩
  · obtain ⟨k, o6, rfl, kk, hdk, hk, hvk⟩ := h
    have e1 : ("tell " : Str).length ≤ 13 := by decide +kernel
    have e2 : ("let m = " : Str).length ≤ 13 := by decide +kernel
    have e3 : ("rule q(p, n)=" : Str).length ≤ 13 := by decide +kernel
    refine ⟨_, rfl, _, _, rfl, rfl, by omega, _, .row (.tell t), rfl, rfl, tx_tell g, fun H1 r1 k1 hr1 => ⟨_, rfl, _, _, rfl, rfl, by omega, _, rfl, _, .row (.letr "m" t), rfl, rfl, tx_let g, fun H2 r2 k2 hr2 => ⟨_, rfl, _, _, rfl, rfl, by omega, _, .row (.rule "q" "p" "n" t), rfl, rfl, tx_rule g, fun H3 r3 k3 hr3 => ⟨by show 3 ≤ sizeLine; omega, fun tl ntl ztl => ?_⟩⟩⟩⟩
    have k4 := Kp.new (D := []) (o := .lst [r1, r2, r3]) ntl
    have htl : (upd H3 tl (.lst [r1, r2, r3])) tl = some (.lst [r1, r2, r3]) := upd_same
    have hr14 := (((show RwAt H1 (.tell t) r1 from hr1).kp k2).kp k3).kp k4
    have hr24 := ((show RwAt H2 (.letr "m" t) r2 from hr2).kp k3).kp k4
    have hr34 := (show RwAt H3 (.rule "q" "p" "n" t) r3 from hr3).kp k4
    have hv4 := (((hvk.kp k1).kp k2).kp k3).kp k4
    have k14 := ((k1.trans k2).trans k3).trans k4
    generalize upd H3 tl (.lst [r1, r2, r3]) = H4 at k4 htl hr14 hr24 hr34 hv4 k14 ⊢
    refine ⟨_, rfl, _, rfl, by show 2 ≤ sizeLine; omega, fun p1 np1 => ⟨_, rfl, by show 3 ≤ sizeLine; omega, fun p2 np2 => ⟨by show 2 ≤ sizeLine; omega, fun p3 np3 => ⟨_, rfl, by show 4 ≤ sizeLine; omega, fun p4 np4 => ⟨by show 3 ≤ sizeLine; omega, fun dl2 ndl2 zdl2 => ?_⟩⟩⟩⟩⟩
    have j1 := Kp.new (D := []) (o := .tup [.str "tell", v]) np1
    have j2 := Kp.new (D := []) (o := .tup [.str "let", .str "m", v]) np2
    have j3 := Kp.new (D := []) (o := .tup [.str "p", .str "n"]) np3
    have j4 := Kp.new (D := []) (o := .tup [.str "rule", .str "q", .ref p3, v]) np4
    have j5 := Kp.new (D := []) (o := .lst [.ref p1, .ref p2, .ref p4]) ndl2
    have j15 := (((j1.trans j2).trans j3).trans j4).trans j5
    have hv5 := hv4.kp j15
    have s1 : RwAt _ (.tell t) (.ref p1) := ⟨p1, v, rfl, (((j2.trans j3).trans j4).trans j5).tup upd_same, hv5⟩
    have s2 : RwAt _ (.letr "m" t) (.ref p2) := ⟨p2, v, rfl, ((j3.trans j4).trans j5).tup upd_same, hv5⟩
    have s3 : RwAt _ (.rule "q" "p" "n" t) (.ref p4) := ⟨p4, p3, v, rfl, j5.tup upd_same, (j4.trans j5).tup upd_same, hv5⟩
    have w1 : ShB (.str "tell") 10 30 := (okW _ (by decide +kernel)).up (by decide +kernel) (Nat.zero_le _)
    have w2 : ShB (.str "let") 10 30 := (okW _ (by decide +kernel)).up (by decide +kernel) (Nat.zero_le _)
    have w3 : ShB (.str "rule") 10 30 := (okW _ (by decide +kernel)).up (by decide +kernel) (Nat.zero_le _)
    have w4 : ShB (.str "m") 10 30 := (okW _ (by decide +kernel)).up (by decide +kernel) (Nat.zero_le _)
    have w5 : ShB (.str "q") 10 30 := (okW _ (by decide +kernel)).up (by decide +kernel) (Nat.zero_le _)
    have w6 : ShB (.str "p") 10 0 := (okW _ (by decide +kernel)).up (by decide +kernel) (Nat.zero_le _)
    have w7 : ShB (.str "n") 10 0 := (okW _ (by decide +kernel)).up (by decide +kernel) (Nat.zero_le _)
    have x1 := ShB.tup (all2 ⟨_, w1⟩ ⟨_, st1⟩) (bulk2 w1.bulk st1.bulk (Nat.le_refl _))
    have x2 := ShB.tup (all3 ⟨_, w2⟩ ⟨_, w4⟩ ⟨_, st1⟩) (bulk3 w2.bulk w4.bulk st1.bulk (Nat.le_refl _))
    have x3 := (ShB.tup (all2 ⟨_, w6⟩ ⟨_, w7⟩) (bulk2 w6.bulk w7.bulk (Nat.le_refl _))).up (Nat.le_refl _) (show 0 + 1 ≤ 30 by decide)
    have x4 : ShB (Rw.py (.rule "q" "p" "n" t)) 2000 31 := ShB.tup (all4 ⟨_, w3⟩ ⟨_, w5⟩ ⟨_, x3⟩ ⟨_, st1⟩) (by
      have b1 := w3.bulk
      have b2 := w5.bulk
      have b3 := x3.bulk
      have b4 := st1.bulk
      simp only [PyData.bulkAll]
      omega)
    have sh2 : Sh (.list [Rw.py (.tell t), Rw.py (.letr "m" t), Rw.py (.rule "q" "p" "n" t)]) := (ShB.lst (all3 ⟨_, x1⟩ ⟨_, x2⟩ ⟨_, x4⟩) (bulk3 x1.bulk x2.bulk x4.bulk (Nat.le_refl _))).sh (by decide) (by decide)
    refine ⟨_, _, .list [Rw.py (.tell t), Rw.py (.letr "m" t), Rw.py (.rule "q" "p" "n" t)], rfl, .lst (j15.lst htl (by simp)) ztl (.cons (hr14.kp j15).rz (.cons (hr24.kp j15).rz (.cons (hr34.kp j15).rz .nil))), .lst upd_same zdl2 (.cons s1.rz (.cons s2.rz (.cons s3.rz .nil))), sh2, ?_⟩
    exact q _ k (kk.trans (k14.trans j15).of) (hdk.kp (k14.trans j15) (by simp)) (by omega)
end
end K2
set_option maxHeartbeats 4000000
/-! P24: the law's whole. -/
namespace K2
open PySem PySem.Spec L2 DL
open PySem.W (Frag keepIn findIn typeIn subIn kitOne kitAny excIn)
open PyProof.Rows hiding St wpAt wpAt_bind wpAt_stack wpAt_mono
def altB : List Str → Bool
  | [] => true
  | x :: ps => altB ps && (decide (x = " ") || decide (x ∈ signs) || (isNm x && match ps with | [] => true | y :: _ => !isNm y) || (isNu x && match ps with | [] => true | y :: _ => !isNu y))
theorem alt_of : ∀ {ps : List Str}, altB ps = true → Alt ps
  | [], _ => .nil
  | x :: ps, h => by
    unfold altB at h
    obtain ⟨h1, h2⟩ := Bool.and_eq_true_iff.mp h
    have ih := alt_of h1
    rcases Bool.or_eq_true_iff.mp h2 with h2 | h2
    · rcases Bool.or_eq_true_iff.mp h2 with h2 | h2
      · rcases Bool.or_eq_true_iff.mp h2 with h2 | h2
        · rw [of_decide_eq_true h2]
          exact .blank ih
        · exact .sign (of_decide_eq_true h2) ih
      · obtain ⟨h3, h4⟩ := Bool.and_eq_true_iff.mp h2
        refine .name h3 (fun y hy => ?_) ih
        cases ps with
        | nil => cases hy
        | cons z ps =>
          cases hy
          simpa using h4
    · obtain ⟨h3, h4⟩ := Bool.and_eq_true_iff.mp h2
      refine .num h3 (fun y hy => ?_) ih
      cases ps with
      | nil => cases hy
      | cons z ps =>
        cases hy
        simpa using h4
def Wh.py : Wh → PyData
  | .sum t => t.py
  | .row r => r.py
inductive WsAt (H : Hp) : List V → List Wh → Prop
  | nil : WsAt H [] []
  | cons {v : V} {x : Wh} {vs : List V} {xs : List Wh} : WhAt H x v → WsAt H vs xs → WsAt H (v :: vs) (x :: xs)
theorem WsAt.kp {H H' : Hp} {D : List Addr} (k : Kp D H H') : ∀ {vs : List V} {xs : List Wh}, WsAt H vs xs → WsAt H' vs xs
  | _, _, .nil => .nil
  | _, _, .cons a r => .cons (a.kp k) (r.kp k)
theorem WsAt.append {H : Hp} {us : List V} {rs : List Wh} (h : WsAt H us rs) : ∀ {vs : List V} {xs : List Wh}, WsAt H vs xs → WsAt H (vs ++ us) (xs ++ rs)
  | _, _, .nil => h
  | _, _, .cons a r => .cons a (WsAt.append h r)
theorem WsAt.length {H : Hp} : ∀ {vs : List V} {xs : List Wh}, WsAt H vs xs → vs.length = xs.length
  | _, _, .nil => rfl
  | _, _, .cons _ r => congrArg (· + 1) r.length
theorem WhAt.rz {H : Hp} {x : Wh} {v : V} (h : WhAt H x v) : Rz H v x.py := by
  cases x with
  | sum t => exact TrAt.rz h
  | row r => exact RwAt.rz h
theorem WsAt.rz {H : Hp} : ∀ {vs : List V} {xs : List Wh}, WsAt H vs xs → RzAll H vs (xs.map Wh.py)
  | _, _, .nil => .nil
  | _, _, .cons a r => .cons a.rz r.rz
abbrev d1 : Wh := .row (.given "point" "a")
abbrev d2 : Wh := .row (.given "arrow" "v")
abbrev d3 : Wh := .row (.given "number" "n")
abbrev d4 : Wh := .row (.rule "f" "p" "n" (.bin .div (.nam "p") (.nam "n")))
abbrev d5 : Wh := .sum (.minus (.bin .mul (.nam "a") (.nam "b")))
abbrev d6 : Wh := .sum (.bin .mul (.minus (.nam "a")) (.nam "b"))
abbrev d7 : Wh := .sum (.pow (.nam "a") 0)
theorem tx1 : Txts "point a" d1 := txts_of (ps := ["point", " ", "a"]) (ws := ["point", "a"]) (dd := 0) (by decide +kernel) (alt_of (by decide +kernel)) (by decide +kernel) (by decide +kernel) (RowW.given (.inl rfl) (by decide +kernel)) (by decide)
theorem tx2 : Txts "  arrow   v " d2 := txts_of (ps := [" ", " ", "arrow", " ", " ", " ", "v", " "]) (ws := ["arrow", "v"]) (dd := 0) (by decide +kernel) (alt_of (by decide +kernel)) (by decide +kernel) (by decide +kernel) (RowW.given (.inr (.inl rfl)) (by decide +kernel)) (by decide)
theorem tx3 : Txts "number n" d3 := txts_of (ps := ["number", " ", "n"]) (ws := ["number", "n"]) (dd := 0) (by decide +kernel) (alt_of (by decide +kernel)) (by decide +kernel) (by decide +kernel) (RowW.given (.inr (.inr rfl)) (by decide +kernel)) (by decide)
theorem tx4 : Txts "rule f ( p,n )=p/n" d4 := txts_of (ps := ["rule", " ", "f", " ", "(", " ", "p", ",", "n", " ", ")", "=", "p", "/", "n"]) (ws := ["rule", "f", "(", "p", ",", "n", ")", "=", "p", "/", "n"]) (dd := 0) (by decide +kernel) (alt_of (by decide +kernel)) (by decide +kernel) (by decide +kernel)
  (RowW.rule (us := [("p" : Str)] ++ Op.div.s :: [("n" : Str)]) (by decide +kernel) (by decide +kernel) (by decide +kernel) (.up0 (.bin1 rfl (.up1 (.up2 (.nam (by decide +kernel)))) (.up2 (.nam (by decide +kernel))))) (by decide)) (by decide)
theorem tx5 : Txts "-a*b" d5 := txts_of (ps := ["-", "a", "*", "b"]) (ws := ("-" : Str) :: ([("a" : Str)] ++ Op.mul.s :: [("b" : Str)])) (dd := 0) (by decide +kernel) (alt_of (by decide +kernel)) (by decide +kernel) (by decide +kernel)
  ⟨.minus (.bin1 rfl (.up1 (.up2 (.nam (by decide +kernel)))) (.up2 (.nam (by decide +kernel)))), by decide⟩ (by decide)
theorem tx6 : Txts "(-a)*b" d6 := txts_of (ps := ["(", "-", "a", ")", "*", "b"]) (ws := ([("(" : Str)] ++ ("-" : Str) :: [("a" : Str)] ++ [(")" : Str)]) ++ Op.mul.s :: [("b" : Str)]) (dd := 1) (by decide +kernel) (alt_of (by decide +kernel)) (by decide +kernel) (by decide +kernel)
  ⟨.up0 (.bin1 rfl (.up1 (.up2 (.par (.minus (.up1 (.up2 (.nam (by decide +kernel)))))))) (.up2 (.nam (by decide +kernel)))), by decide⟩ (by decide)
theorem tx7 : Txts "a^0" d7 := txts_of (ps := ["a", "^", "0"]) (ws := [("a" : Str)] ++ [("^" : Str), numT 0]) (dd := 0) (by decide +kernel) (alt_of (by decide +kernel)) (by decide +kernel) (by decide +kernel)
  ⟨.up0 (.up1 (.pow (.nam (by decide +kernel)) (by decide) n0)), by decide⟩ (by decide)
theorem sh7 : Sh (.list ([d1, d2, d3, d4, d5, d6, d7].map Wh.py)) := ⟨by decide +kernel, by decide +kernel, by decide +kernel⟩
def spRight : Sp := fun vs H Q _ => ∃ (a : Addr), vs = [.ref a] ∧ Dr H a 0 ∧ ∀ (H' : Hp), Kp [a] H H' → Q (.bl true) H'
def spLaw (K : Frag) : Sp := fun vs H Q _ => ∃ (a : Addr) (ns : List Int), vs = [.ref a] ∧ SqL K H a (ns.map V.int) ∧ ns.length ≤ 63 ∧ ∀ H', Q (.bl true) H'
section
variable {w : World} {K : Frag} {mg : Str → Option Value} {base : Heap} {f : Addr} {fd : FuncData} {dD dG dS : Addr}
theorem ok_law_right (F : L2.Fun K "_law_right" "_law_right" s_law_right f fd) (T : K2.Nms mg) (c_law_is_read : Clb prg w K mg base 125 "_law_is_read" spIsRead []) (c_law_any : Clb prg w K mg base 3 "_law_any" spAny []) (c_law_same : Clb prg w K mg base 1 "_law_same" spLawSame [])
    (c_read_tree : ClO prg w K mg base CX0 123 "read_tree" (spRead true) []) (c_read_row : ClO prg w K mg base CX0 123 "read_row" (spRead false) []) : FnG prg w K mg base 126 f fd ["draws"] spRight := by
  have S := fs_law_right
  refine fnG_mk F S (fun vs H Q E h => by obtain ⟨_, rfl, _⟩ := h; rfl) fun cdv A outer s H vs Q E hr gd hsp => ?_
  obtain ⟨a, rfl, hd0, q⟩ := hsp
  refine ⟨_, (pss_cons (ps_set (i := 1) S.nd rfl (Or.inl rfl) (pe_tup (pa_cons (pe_tup (pa_cons (pe_tup (pa_cons pe_str (pa_cons pe_str pa_nil))) (pa_cons (pe_tup (pa_cons pe_str (pa_cons pe_str pa_nil))) (pa_cons (pe_tup (pa_cons pe_str (pa_cons pe_str pa_nil))) pa_nil)))) (pa_cons (pe_tup pa_nil) (pa_cons (pe_tup pa_nil) (pa_cons (pe_tup pa_nil) pa_nil))))))
    (pss_cons (ps_for PassesOwn.never rfl (pi_range1 rfl T.n_range (pa_cons pe_int pa_nil)) (pg_name (i := 2) S.nd rfl (Or.inl rfl)) (pss_one (ps_if (pt_not (pt_val (pe_clb c_law_is_read hr (by decide) gd rfl (pa_cons (pv 0) (pa_cons (pv 1) (pa_cons (pe_clb c_law_any hr (by decide) gd rfl (pa_cons (pv 0) (pa_cons (pv 1) pa_nil))) pa_nil)))))) (pss_one (ps_ret pe_bl)) pss_nil)))
    (pss_cons (ps_set (i := 3) S.nd rfl (Or.inl rfl) (pe_lstB (pa_cons (pe_clo c_read_row hr (by decide) rfl (pa_cons pe_str pa_nil)) (pa_cons (pe_clo c_read_row hr (by decide) rfl (pa_cons pe_str pa_nil)) (pa_cons (pe_clo c_read_row hr (by decide) rfl (pa_cons pe_str pa_nil)) (pa_cons (pe_clo c_read_row hr (by decide) rfl (pa_cons pe_str pa_nil)) pa_nil))))))
    (pss_cons (ps_set (i := 3) S.nd rfl (Or.inl rfl) (pe_op op_catB (pv 3) (pe_lstB (pa_cons (pe_clo c_read_tree hr (by decide) rfl (pa_cons pe_str pa_nil)) (pa_cons (pe_clo c_read_tree hr (by decide) rfl (pa_cons pe_str pa_nil)) (pa_cons (pe_clo c_read_tree hr (by decide) rfl (pa_cons pe_str pa_nil)) pa_nil))))))
    (pss_cons (ps_set (i := 4) S.nd rfl (Or.inl rfl) (pe_lstB (pa_cons (pe_tup (pa_cons pe_str (pa_cons pe_str pa_nil))) (pa_cons (pe_tup (pa_cons pe_str (pa_cons pe_str pa_nil))) (pa_cons (pe_tup (pa_cons pe_str (pa_cons pe_str pa_nil))) pa_nil)))))
    (pss_cons (ps_set (i := 4) S.nd rfl (Or.inl rfl) (pe_op op_catB (pv 4) (pe_lstB (pa_cons (pe_tup (pa_cons pe_str (pa_cons pe_str (pa_cons (pe_tup (pa_cons pe_str (pa_cons pe_str pa_nil))) (pa_cons (pe_tup (pa_cons pe_str (pa_cons (pe_tup (pa_cons pe_str (pa_cons pe_str pa_nil))) (pa_cons (pe_tup (pa_cons pe_str (pa_cons pe_str pa_nil))) pa_nil)))) pa_nil))))) pa_nil))))
    (pss_cons (ps_set (i := 4) S.nd rfl (Or.inl rfl) (pe_op op_catB (pv 4) (pe_lstB (pa_cons (pe_tup (pa_cons pe_str (pa_cons (pe_tup (pa_cons pe_str (pa_cons (pe_tup (pa_cons pe_str (pa_cons pe_str pa_nil))) (pa_cons (pe_tup (pa_cons pe_str (pa_cons pe_str pa_nil))) pa_nil)))) pa_nil))) (pa_cons (pe_tup (pa_cons pe_str (pa_cons (pe_tup (pa_cons pe_str (pa_cons (pe_tup (pa_cons pe_str (pa_cons pe_str pa_nil))) pa_nil))) (pa_cons (pe_tup (pa_cons pe_str (pa_cons pe_str pa_nil))) pa_nil)))) pa_nil)))))
    (pss_cons (ps_set (i := 4) S.nd rfl (Or.inl rfl) (pe_op op_catB (pv 4) (pe_lstB (pa_cons (pe_tup (pa_cons pe_str (pa_cons (pe_tup (pa_cons pe_str (pa_cons pe_str pa_nil))) (pa_cons pe_int pa_nil)))) pa_nil))))
    (pss_one (ps_ret (pe_clb c_law_same hr (by decide) gd rfl (pa_cons (pv 3) (pa_cons (pv 4) pa_nil))))))))))))), ?_⟩
  have sl : sizeLine = 16777216 := sizeLine_eq
  refine ⟨by show 2 ≤ sizeLine; omega, fun r1 n1 => ⟨by show 2 ≤ sizeLine; omega, fun r2 n2 => ⟨by show 2 ≤ sizeLine; omega, fun r3 n3 => ⟨by show 3 ≤ sizeLine; omega, fun sq nsq => ⟨by show 0 ≤ sizeLine; omega, fun e1 ne1 => ⟨by show 0 ≤ sizeLine; omega, fun e2 ne2 => ⟨by show 0 ≤ sizeLine; omega, fun e3 ne3 => ⟨by show 4 ≤ sizeLine; omega, fun sp nsp => ?_⟩⟩⟩⟩⟩⟩⟩⟩
  have j1 := Kp.new (D := []) (o := .tup [.str "a", .str "point"]) n1
  have j2 := Kp.new (D := []) (o := .tup [.str "abcdefgh", .str "arrow"]) n2
  have j3 := Kp.new (D := []) (o := .tup [.str "k", .str "number"]) n3
  have j4 := Kp.new (D := []) (o := .tup [.ref r1, .ref r2, .ref r3]) nsq
  have j5 := Kp.new (D := []) (o := .tup []) ne1
  have j6 := Kp.new (D := []) (o := .tup []) ne2
  have j7 := Kp.new (D := []) (o := .tup []) ne3
  have j8 := Kp.new (D := []) (o := .tup [.ref sq, .ref e1, .ref e2, .ref e3]) nsp
  have j48 := (((j4.trans j5).trans j6).trans j7).trans j8
  have hs : SpecAt _ (.ref sp) := ⟨sp, sq, r1, r2, r3, e1, e2, e3, rfl, upd_same, (((j5.trans j6).trans j7).trans j8).tup upd_same, ((j2.trans j3).trans j48).tup upd_same, (j3.trans j48).tup upd_same, j48.tup upd_same⟩
  have jall := ((j1.trans j2).trans j3).trans j48
  have hd1 := hd0.kp jall (by simp)
  generalize upd (upd (upd (upd (upd (upd (upd (upd H r1 (.tup [.str "a", .str "point"])) r2 (.tup [.str "abcdefgh", .str "arrow"])) r3 (.tup [.str "k", .str "number"])) sq (.tup [.ref r1, .ref r2, .ref r3])) e1 (.tup [])) e2 (.tup [])) e3 (.tup [])) sp (.tup [.ref sq, .ref e1, .ref e2, .ref e3]) = H0 at hs jall hd1 ⊢
  clear j1 j2 j3 j4 j5 j6 j7 j8 j48 n1 n2 n3 nsq ne1 ne2 ne3 nsp
  refine ⟨20, rfl, by decide, by decide, for_range (n := 20) (fun i σ H' => ∃ (k : Nat) (o2 : Option V), σ = [some (.ref a), some (.ref sp), o2, none, none] ∧ Kp [a] H H' ∧ Dr H' a k ∧ k ≤ 1100 * i ∧ SpecAt H' (.ref sp))
    ⟨0, none, rfl, jall.of, hd1, by omega, hs⟩ (fun i σ H' hi h => ?_) fun σ H' h => ?_⟩
  · obtain ⟨k, o2, rfl, kk, hdk, hk, hsk⟩ := h
    refine ⟨_, rfl, _, rfl, _, rfl, _, rfl, a, _, k, rfl, hsk, hdk, by omega, fun H2 r ivs is t m k2 hra hr2 his hpo hh hz hd2 hm => ?_⟩
    exact ⟨a, r, _, m, ivs, is, t, rfl, hd2, by omega, hra, hsk.kp k2, hr2, his, hpo, hh, hz, fun H3 m3 k3 hd3 hm3 => ⟨true, rfl, iteF ⟨m3, _, rfl, (kk.trans k2).trans k3, hd3, by omega, (hsk.kp k2).kp k3⟩⟩⟩
  obtain ⟨k, o2, rfl, kk, _, _, _⟩ := h
  refine ⟨"point a", d1, rfl, rfl, tx1, fun H1 v1 k1 w1 => ⟨"  arrow   v ", d2, rfl, rfl, tx2, fun H2 v2 k2 w2 => ⟨"number n", d3, rfl, rfl, tx3, fun H3 v3 k3 w3 => ⟨"rule f ( p,n )=p/n", d4, rfl, rfl, tx4, fun H4 v4 k4 w4 => ⟨by show 4 ≤ sizeLine; omega, fun l1 nl1 _ => ?_⟩⟩⟩⟩⟩
  have k5 := Kp.new (D := []) (o := .lst [v1, v2, v3, v4]) nl1
  have W1 : WsAt (upd H4 l1 (.lst [v1, v2, v3, v4])) [v1, v2, v3, v4] [d1, d2, d3, d4] := .cons ((((w1.kp k2).kp k3).kp k4).kp k5) (.cons (((w2.kp k3).kp k4).kp k5) (.cons ((w3.kp k4).kp k5) (.cons (w4.kp k5) .nil)))
  have hl1 : (upd H4 l1 (.lst [v1, v2, v3, v4])) l1 = some (.lst [v1, v2, v3, v4]) := upd_same
  have kk5 := kk.trans ((((k1.trans k2).trans k3).trans k4).trans k5).of
  generalize upd H4 l1 (.lst [v1, v2, v3, v4]) = H5 at W1 hl1 kk5 ⊢
  clear k1 k2 k3 k4 k5 w1 w2 w3 w4 nl1
  refine ⟨_, rfl, "-a*b", d5, rfl, rfl, tx5, fun H6 v5 k6 w5 => ⟨"(-a)*b", d6, rfl, rfl, tx6, fun H7 v6 k7 w6 => ⟨"a^0", d7, rfl, rfl, tx7, fun H8 v7 k8 w7 => ⟨by show 3 ≤ sizeLine; omega, fun l2 nl2 _ => ?_⟩⟩⟩⟩
  have k9 := Kp.new (D := []) (o := .lst [v5, v6, v7]) nl2
  have k68 := (k6.trans k7).trans k8
  refine ⟨l1, l2, _, _, rfl, rfl, k9.lst (k68.lst hl1 (by simp)) (by simp), upd_same, by show 4 + 3 ≤ sizeLine; omega, fun tl ntl ztl => ?_⟩
  have k10 := Kp.new (D := []) (o := .lst ([v1, v2, v3, v4] ++ [v5, v6, v7])) ntl
  have W2 : WsAt (upd (upd H8 l2 (.lst [v5, v6, v7])) tl (.lst ([v1, v2, v3, v4] ++ [v5, v6, v7]))) ([v1, v2, v3, v4] ++ [v5, v6, v7]) [d1, d2, d3, d4, d5, d6, d7] := ((WsAt.cons ((((w5.kp k7).kp k8).kp k9).kp k10) (.cons (((w6.kp k8).kp k9).kp k10) (.cons ((w7.kp k9).kp k10) .nil))).append (W1.kp ((k68.trans k9).trans k10)))
  have htl : (upd (upd H8 l2 (.lst [v5, v6, v7])) tl (.lst ([v1, v2, v3, v4] ++ [v5, v6, v7]))) tl = some (.lst ([v1, v2, v3, v4] ++ [v5, v6, v7])) := upd_same
  have kk10 := kk5.trans ((k68.trans k9).trans k10).of
  generalize upd (upd H8 l2 (.lst [v5, v6, v7])) tl (.lst ([v1, v2, v3, v4] ++ [v5, v6, v7])) = H10 at W2 htl kk10 ⊢
  clear k6 k7 k8 k9 k10 k68 w5 w6 w7 nl2 ntl W1 hl1 kk5 kk
  -- what is due
  refine ⟨by show 2 ≤ sizeLine; omega, fun p1 np1 => ⟨by show 2 ≤ sizeLine; omega, fun p2 np2 => ⟨by show 2 ≤ sizeLine; omega, fun p3 np3 => ⟨by show 3 ≤ sizeLine; omega, fun q1 nq1 _ => ?_⟩⟩⟩⟩
  have m1 := Kp.new (D := []) (o := .tup [.str "point", .str "a"]) np1
  have m2 := Kp.new (D := []) (o := .tup [.str "arrow", .str "v"]) np2
  have m3 := Kp.new (D := []) (o := .tup [.str "number", .str "n"]) np3
  have m4 := Kp.new (D := []) (o := .lst [.ref p1, .ref p2, .ref p3]) nq1
  have U1 : WsAt _ [.ref p1, .ref p2, .ref p3] [d1, d2, d3] := .cons ⟨p1, rfl, ((m2.trans m3).trans m4).tup upd_same⟩ (.cons ⟨p2, rfl, (m3.trans m4).tup upd_same⟩ (.cons ⟨p3, rfl, m4.tup upd_same⟩ .nil))
  have hq1 : (upd (upd (upd (upd H10 p1 (.tup [.str "point", .str "a"])) p2 (.tup [.str "arrow", .str "v"])) p3 (.tup [.str "number", .str "n"])) q1 (.lst [.ref p1, .ref p2, .ref p3])) q1 = some (.lst [.ref p1, .ref p2, .ref p3]) := upd_same
  have M1 := ((m1.trans m2).trans m3).trans m4
  generalize upd (upd (upd (upd H10 p1 (.tup [.str "point", .str "a"])) p2 (.tup [.str "arrow", .str "v"])) p3 (.tup [.str "number", .str "n"])) q1 (.lst [.ref p1, .ref p2, .ref p3]) = H11 at U1 hq1 M1 ⊢
  clear m1 m2 m3 m4 np1 np2 np3 nq1
  refine ⟨_, rfl, by show 2 ≤ sizeLine; omega, fun c1 nc1 => ⟨by show 2 ≤ sizeLine; omega, fun c2 nc2 => ⟨by show 2 ≤ sizeLine; omega, fun c3 nc3 => ⟨by show 3 ≤ sizeLine; omega, fun c4 nc4 => ⟨by show 4 ≤ sizeLine; omega, fun c5 nc5 => ⟨by show 1 ≤ sizeLine; omega, fun q2 nq2 _ => ?_⟩⟩⟩⟩⟩⟩
  have m1 := Kp.new (D := []) (o := .tup [.str "p", .str "n"]) nc1
  have m2 := Kp.new (D := []) (o := .tup [.str "name", .str "p"]) nc2
  have m3 := Kp.new (D := []) (o := .tup [.str "name", .str "n"]) nc3
  have m4 := Kp.new (D := []) (o := .tup [.str "/", .ref c2, .ref c3]) nc4
  have m5 := Kp.new (D := []) (o := .tup [.str "rule", .str "f", .ref c1, .ref c4]) nc5
  have m6 := Kp.new (D := []) (o := .lst [.ref c5]) nq2
  have m16 := ((((m1.trans m2).trans m3).trans m4).trans m5).trans m6
  refine ⟨q1, q2, _, _, rfl, rfl, m16.lst hq1 (by simp), upd_same, by show 3 + 1 ≤ sizeLine; omega, fun q3 nq3 _ => ?_⟩
  have m7 := Kp.new (D := []) (o := .lst ([.ref p1, .ref p2, .ref p3] ++ [.ref c5])) nq3
  have m57 := (m5.trans m6).trans m7
  have U2 : WsAt _ ([.ref p1, .ref p2, .ref p3] ++ [.ref c5]) [d1, d2, d3, d4] := (WsAt.cons (show WhAt _ d4 (.ref c5) from ⟨c5, c1, .ref c4, rfl, (m6.trans m7).tup upd_same, (((m2.trans m3).trans m4).trans m57).tup upd_same, c4, .ref c2, .ref c3, rfl, m57.tup upd_same, ⟨c2, rfl, ((m3.trans m4).trans m57).tup upd_same⟩, ⟨c3, rfl, (m4.trans m57).tup upd_same⟩⟩) .nil).append (U1.kp (m16.trans m7))
  have M2 := M1.trans (m16.trans m7)
  have hq3 : (upd (upd (upd (upd (upd (upd (upd H11 c1 (.tup [.str "p", .str "n"])) c2 (.tup [.str "name", .str "p"])) c3 (.tup [.str "name", .str "n"])) c4 (.tup [.str "/", .ref c2, .ref c3])) c5 (.tup [.str "rule", .str "f", .ref c1, .ref c4])) q2 (.lst [.ref c5])) q3 (.lst ([.ref p1, .ref p2, .ref p3] ++ [.ref c5]))) q3 = some (.lst ([.ref p1, .ref p2, .ref p3] ++ [.ref c5])) := upd_same
  generalize upd (upd (upd (upd (upd (upd (upd H11 c1 (.tup [.str "p", .str "n"])) c2 (.tup [.str "name", .str "p"])) c3 (.tup [.str "name", .str "n"])) c4 (.tup [.str "/", .ref c2, .ref c3])) c5 (.tup [.str "rule", .str "f", .ref c1, .ref c4])) q2 (.lst [.ref c5])) q3 (.lst ([.ref p1, .ref p2, .ref p3] ++ [.ref c5])) = H12 at U2 M2 hq3 ⊢
  clear m1 m2 m3 m4 m5 m6 m7 m16 m57 nc1 nc2 nc3 nc4 nc5 nq2 nq3 hq1 U1
  refine ⟨_, rfl, by show 2 ≤ sizeLine; omega, fun a1 na1 => ⟨by show 2 ≤ sizeLine; omega, fun a2 na2 => ⟨by show 3 ≤ sizeLine; omega, fun a3 na3 => ⟨by show 2 ≤ sizeLine; omega, fun a4 na4 => ⟨by show 2 ≤ sizeLine; omega, fun b1 nb1 => ⟨by show 2 ≤ sizeLine; omega, fun b2 nb2 => ⟨by show 2 ≤ sizeLine; omega, fun b3 nb3 => ⟨by show 3 ≤ sizeLine; omega, fun b4 nb4 => ⟨by show 2 ≤ sizeLine; omega, fun q4 nq4 _ => ?_⟩⟩⟩⟩⟩⟩⟩⟩⟩
  have m1 := Kp.new (D := []) (o := .tup [.str "name", .str "a"]) na1
  have m2 := Kp.new (D := []) (o := .tup [.str "name", .str "b"]) na2
  have m3 := Kp.new (D := []) (o := .tup [.str "*", .ref a1, .ref a2]) na3
  have m4 := Kp.new (D := []) (o := .tup [.str "minus", .ref a3]) na4
  have m5 := Kp.new (D := []) (o := .tup [.str "name", .str "a"]) nb1
  have m6 := Kp.new (D := []) (o := .tup [.str "minus", .ref b1]) nb2
  have m7 := Kp.new (D := []) (o := .tup [.str "name", .str "b"]) nb3
  have m8 := Kp.new (D := []) (o := .tup [.str "*", .ref b2, .ref b3]) nb4
  have m9 := Kp.new (D := []) (o := .lst [.ref a4, .ref b4]) nq4
  have m59 := (((m5.trans m6).trans m7).trans m8).trans m9
  have m19 := (((m1.trans m2).trans m3).trans m4).trans m59
  refine ⟨q3, q4, _, _, rfl, rfl, m19.lst hq3 (by simp), upd_same, by show 4 + 2 ≤ sizeLine; omega, fun q5 nq5 _ => ?_⟩
  have m10 := Kp.new (D := []) (o := .lst ([.ref p1, .ref p2, .ref p3] ++ [.ref c5] ++ [.ref a4, .ref b4])) nq5
  have U3 : WsAt _ ([.ref p1, .ref p2, .ref p3] ++ [.ref c5] ++ [.ref a4, .ref b4]) [d1, d2, d3, d4, d5, d6] := (WsAt.cons (show WhAt _ d5 (.ref a4) from ⟨a4, .ref a3, rfl, (m59.trans m10).tup upd_same, a3, .ref a1, .ref a2, rfl, ((m4.trans m59).trans m10).tup upd_same, ⟨a1, rfl, ((((m2.trans m3).trans m4).trans m59).trans m10).tup upd_same⟩, ⟨a2, rfl, (((m3.trans m4).trans m59).trans m10).tup upd_same⟩⟩)
    (.cons (show WhAt _ d6 (.ref b4) from ⟨b4, .ref b2, .ref b3, rfl, (m9.trans m10).tup upd_same, ⟨b2, .ref b1, rfl, (((m7.trans m8).trans m9).trans m10).tup upd_same, ⟨b1, rfl, ((((m6.trans m7).trans m8).trans m9).trans m10).tup upd_same⟩⟩, ⟨b3, rfl, ((m8.trans m9).trans m10).tup upd_same⟩⟩) .nil)).append (U2.kp (m19.trans m10))
  have M3 := M2.trans (m19.trans m10)
  have hq5 : (upd (upd (upd (upd (upd (upd (upd (upd (upd (upd H12 a1 (.tup [.str "name", .str "a"])) a2 (.tup [.str "name", .str "b"])) a3 (.tup [.str "*", .ref a1, .ref a2])) a4 (.tup [.str "minus", .ref a3])) b1 (.tup [.str "name", .str "a"])) b2 (.tup [.str "minus", .ref b1])) b3 (.tup [.str "name", .str "b"])) b4 (.tup [.str "*", .ref b2, .ref b3])) q4 (.lst [.ref a4, .ref b4])) q5 (.lst ([.ref p1, .ref p2, .ref p3] ++ [.ref c5] ++ [.ref a4, .ref b4]))) q5 = some (.lst ([.ref p1, .ref p2, .ref p3] ++ [.ref c5] ++ [.ref a4, .ref b4])) := upd_same
  generalize upd (upd (upd (upd (upd (upd (upd (upd (upd (upd H12 a1 (.tup [.str "name", .str "a"])) a2 (.tup [.str "name", .str "b"])) a3 (.tup [.str "*", .ref a1, .ref a2])) a4 (.tup [.str "minus", .ref a3])) b1 (.tup [.str "name", .str "a"])) b2 (.tup [.str "minus", .ref b1])) b3 (.tup [.str "name", .str "b"])) b4 (.tup [.str "*", .ref b2, .ref b3])) q4 (.lst [.ref a4, .ref b4])) q5 (.lst ([.ref p1, .ref p2, .ref p3] ++ [.ref c5] ++ [.ref a4, .ref b4])) = H13 at U3 M3 hq5 ⊢
  clear m1 m2 m3 m4 m5 m6 m7 m8 m9 m10 m59 m19 na1 na2 na3 na4 nb1 nb2 nb3 nb4 nq4 nq5 hq3 U2
  refine ⟨_, rfl, by show 2 ≤ sizeLine; omega, fun g1 ng1 => ⟨by show 3 ≤ sizeLine; omega, fun g2 ng2 => ⟨by show 1 ≤ sizeLine; omega, fun q6 nq6 _ => ?_⟩⟩⟩
  have m1 := Kp.new (D := []) (o := .tup [.str "name", .str "a"]) ng1
  have m2 := Kp.new (D := []) (o := .tup [.str "power", .ref g1, .int 0]) ng2
  have m3 := Kp.new (D := []) (o := .lst [.ref g2]) nq6
  have m13 := (m1.trans m2).trans m3
  refine ⟨q5, q6, _, _, rfl, rfl, m13.lst hq5 (by simp), upd_same, by show 6 + 1 ≤ sizeLine; omega, fun q7 nq7 zq7 => ?_⟩
  have m4 := Kp.new (D := []) (o := .lst ([.ref p1, .ref p2, .ref p3] ++ [.ref c5] ++ [.ref a4, .ref b4] ++ [.ref g2])) nq7
  have U4 := (WsAt.cons (show WhAt _ d7 (.ref g2) from ⟨g2, .ref g1, rfl, (m3.trans m4).tup upd_same, ⟨g1, rfl, ((m2.trans m3).trans m4).tup upd_same⟩⟩) .nil).append (U3.kp (m13.trans m4))
  have M4 := M3.trans (m13.trans m4)
  exact ⟨_, rfl, _, rfl, _, _, .list ([d1, d2, d3, d4, d5, d6, d7].map Wh.py), rfl, .lst (M4.lst htl (by simp)) ztl (W2.kp M4).rz, .lst upd_same zq7 U4.rz, sh7, q _ (kk10.trans M4.of)⟩
theorem ok_law (F : L2.Fun K "law" "law" s_law f fd) (T : K2.Nms mg) (c_law_purse : Clb prg w K mg base 1 "_law_purse" (spPurse K) []) (c_law_right : Clb prg w K mg base 126 "_law_right" spRight []) : FnG prg w K mg base 127 f fd ["cells"] (spLaw K) := by
  have S := fs_law
  refine fnG_mk F S (fun vs H Q E h => by obtain ⟨a, ns, rfl, _⟩ := h; rfl) fun cdv A outer s H vs Q E hr gd hsp => ?_
  obtain ⟨a, ns, rfl, hL, hl, hq⟩ := hsp
  refine ⟨_, (pss_one (ps_ret (pe_callB (cr_all rfl) (by rfl) T.n_all (by decide +kernel) (pa_cons (pe_lc (own := [("at", 1)]) (g := gName 1) (tt := tYes) (by rfl) S.nd (pi_range1 rfl T.n_range (pa_cons (pe_callB (call_max2 rfl) (by rfl) T.n_max (by decide +kernel) (pa_cons pe_int (pa_cons (pe_callB (call_min2 rfl) (by rfl) T.n_min (by decide +kernel) (pa_cons (pe_callB call_len_seq (by rfl) T.n_len (by decide +kernel) (pa_cons (pv 0) pa_nil)) (pa_cons pe_int pa_nil))) pa_nil))) pa_nil)) (blkOk_by (own := [("at", 1)]) (N := n_law) (sc := defScope s_law) (by decide +kernel)) (fun _ _ _ _ _ => (pg_name (i := 1) S.nd rfl (Or.inl rfl))) (fun _ _ _ _ _ => pts_nil) (fun _ _ _ _ _ => (pe_clb c_law_right hr (by decide) gd rfl (pa_cons (pe_clb c_law_purse hr (by decide) gd rfl (pa_cons (pv 0) (pa_cons (pv 1) pa_nil))) pa_nil)))) pa_nil)))), ?_⟩
  refine ⟨_, rfl, _, _, rfl, .inl hL, ?_⟩
  have low : ∀ m : Int, 0 ≤ m → m ≤ 3 → ∃ j : Int, (if m > 2 then m else 2) = j ∧ 0 ≤ j ∧ j ≤ 3 := fun m h0 h3 => by
    by_cases h : m > 2
    · exact ⟨m, if_pos h, h0, h3⟩
    · exact ⟨2, if_neg h, by omega, by omega⟩
  have mn : ∃ m : Int, (if (3 : Int) < ((ns.map V.int).length : Nat) then (3 : Int) else ((ns.map V.int).length : Nat)) = m ∧ 0 ≤ m ∧ m ≤ 3 := by
    by_cases h : (3 : Int) < ((ns.map V.int).length : Nat)
    · exact ⟨3, if_pos h, by omega, by omega⟩
    · exact ⟨_, if_neg h, by omega, by omega⟩
  obtain ⟨m, em, m0, m3⟩ := mn
  obtain ⟨j, ej, j0, j3⟩ := low m m0 m3
  refine ⟨_, _, rfl, _, _, rfl, j, ?_, by omega, by omega, fun D hD => ?_⟩
  · show [V.int (if (if (3 : Int) < ((ns.map V.int).length : Nat) then (3 : Int) else ((ns.map V.int).length : Nat)) > 2 then (if (3 : Int) < ((ns.map V.int).length : Nat) then (3 : Int) else ((ns.map V.int).length : Nat)) else 2)] = [V.int j]
    rw [em, ej]
  have naD : ∀ Hx, Kp [D] H Hx → SqL K Hx a (ns.map V.int) := fun Hx k => by
    have e : ∀ {o}, H a = some o → a ∉ [D] := fun {o} e => by simpa using ne_of_none e hD
    rcases hL with (h | ⟨o, h⟩) | h
    · exact .inl (.inl (k.lst h (e h)))
    · exact .inl (.inr ⟨o, k.at_ h rfl⟩)
    · exact .inr h
  refine lc_range (lo := 0) (n := j.toNat) (fun k Hb => Kp [D] H Hb ∧ Hb D = some (.lst ((List.replicate k true).map V.bl))) ⟨Kp.new hD, upd_same⟩ (fun k Hb hk h => ?_) fun Hb h => ?_
  · refine ⟨rfl, _, rfl, _, rfl, a, ns, k, (by show [V.ref a, V.int (0 + (k : Int))] = _; rw [Int.zero_add]), naD _ h.1, hl, by omega, fun H' p s1 n1 dr => ⟨p, rfl, dr, fun H'' kp => ⟨_, kp.lst (s1 _ _ h.2) (by simpa using ne_of_none h.2 n1), ?_, ?_, ?_⟩⟩⟩
    · rw [List.length_map, List.length_replicate]
      have : k < 3 := by omega
      exact Nat.lt_trans this (by decide)
    · have k2 : Kp [p] Hb H'' := (Kp.same s1).trans kp
      exact (h.1.trans ((k2.drop n1).of)).trans (Kp.put (kp.lst (s1 _ _ h.2) (by simpa using ne_of_none h.2 n1)) rfl (by simp))
    · rw [upd_same, List.replicate_succ', List.map_append]
      rfl
  · refine ⟨D, _, rfl, SqL.of h.2, ?_⟩
    have e : (List.replicate j.toNat true).all id = true := by simp
    rw [e]
    exact hq Hb
end
end K2
set_option maxHeartbeats 4000000
/-! Q0: the states of the top, printed by gen/states.lean. -/
namespace K2H
open PySem PySem.W PySem.Calls PyProof.Rows L2
abbrev prg : Program := PySem.Challenge.pw_frametongue_k02_whole_trees_told_and_rea
abbrev topS (j : Nat) : Stmt := prg.main.body.getD j (.Pass ⟨0, 0, 0, 0⟩)
/-- a function's record, by its statement -/
abbrev fQ (s : Stmt) (name qual : Str) (g : Addr) (cl : List (Str × Addr)) (dv kw doc pm : Value) (an : Option Addr) (cd ct : Value) (bl : Addr) : FuncData :=
  { name, qualname := qual, params := defArgs s, body := .stmts (defBody s), scope := defScope s, globals := g, closure := cl, defaults := dv, kwdefaults := kw, doc, pyModule := pm, annotations := an, code := cd, closureTuple := ct, builtins := bl }
noncomputable def o0_0 (P : Params) : Obj := ⟨.type "dict", none, (.dict ⟨[⟨PyData.keyHash P "__name__", .str "__name__" 1, .str "builtins" 160⟩, ⟨PyData.keyHash P "__doc__", .str "__doc__" 2, .builtin "builtins.__doc__:str#opaque"⟩, ⟨PyData.keyHash P "__package__", .str "__package__" 3, .builtin "builtins.__package__:str#opaque"⟩, ⟨PyData.keyHash P "__loader__", .str "__loader__" 4, .builtin "builtins.__loader__:shared#opaque"⟩, ⟨PyData.keyHash P "__spec__", .str "__spec__" 5, .builtin "builtins.__spec__#opaque"⟩, ⟨PyData.keyHash P "__build_class__", .str "__build_class__" 6, .builtin "__build_class__"⟩, ⟨PyData.keyHash P "__import__", .str "__import__" 7, .builtin "__import__"⟩, ⟨PyData.keyHash P "abs", .str "abs" 8, .builtin "abs"⟩, ⟨PyData.keyHash P "all", .str "all" 9, .builtin "all"⟩, ⟨PyData.keyHash P "any", .str "any" 10, .builtin "any"⟩, ⟨PyData.keyHash P "ascii", .str "ascii" 11, .builtin "ascii"⟩, ⟨PyData.keyHash P "bin", .str "bin" 12, .builtin "bin"⟩, ⟨PyData.keyHash P "breakpoint", .str "breakpoint" 13, .builtin "breakpoint"⟩, ⟨PyData.keyHash P "callable", .str "callable" 14, .builtin "callable"⟩, ⟨PyData.keyHash P "chr", .str "chr" 15, .builtin "chr"⟩, ⟨PyData.keyHash P "compile", .str "compile" 16, .builtin "compile"⟩, ⟨PyData.keyHash P "delattr", .str "delattr" 17, .builtin "delattr"⟩, ⟨PyData.keyHash P "dir", .str "dir" 18, .builtin "dir"⟩, ⟨PyData.keyHash P "divmod", .str "divmod" 19, .builtin "divmod"⟩, ⟨PyData.keyHash P "eval", .str "eval" 20, .builtin "eval"⟩, ⟨PyData.keyHash P "exec", .str "exec" 21, .builtin "exec"⟩, ⟨PyData.keyHash P "format", .str "format" 22, .builtin "format"⟩, ⟨PyData.keyHash P "getattr", .str "getattr" 23, .builtin "getattr"⟩, ⟨PyData.keyHash P "globals", .str "globals" 24, .builtin "globals"⟩, ⟨PyData.keyHash P "hasattr", .str "hasattr" 25, .builtin "hasattr"⟩, ⟨PyData.keyHash P "hash", .str "hash" 26, .builtin "hash"⟩, ⟨PyData.keyHash P "hex", .str "hex" 27, .builtin "hex"⟩, ⟨PyData.keyHash P "id", .str "id" 28, .builtin "id"⟩, ⟨PyData.keyHash P "input", .str "input" 29, .builtin "input"⟩, ⟨PyData.keyHash P "isinstance", .str "isinstance" 30, .builtin "isinstance"⟩, ⟨PyData.keyHash P "issubclass", .str "issubclass" 31, .builtin "issubclass"⟩, ⟨PyData.keyHash P "iter", .str "iter" 32, .builtin "iter"⟩, ⟨PyData.keyHash P "aiter", .str "aiter" 33, .builtin "aiter"⟩, ⟨PyData.keyHash P "len", .str "len" 34, .builtin "len"⟩, ⟨PyData.keyHash P "locals", .str "locals" 35, .builtin "locals"⟩, ⟨PyData.keyHash P "max", .str "max" 36, .builtin "max"⟩, ⟨PyData.keyHash P "min", .str "min" 37, .builtin "min"⟩, ⟨PyData.keyHash P "next", .str "next" 38, .builtin "next"⟩, ⟨PyData.keyHash P "anext", .str "anext" 39, .builtin "anext"⟩, ⟨PyData.keyHash P "oct", .str "oct" 40, .builtin "oct"⟩, ⟨PyData.keyHash P "ord", .str "ord" 41, .builtin "ord"⟩, ⟨PyData.keyHash P "pow", .str "pow" 42, .builtin "pow"⟩, ⟨PyData.keyHash P "print", .str "print" 43, .builtin "print"⟩, ⟨PyData.keyHash P "repr", .str "repr" 44, .builtin "repr"⟩, ⟨PyData.keyHash P "round", .str "round" 45, .builtin "round"⟩, ⟨PyData.keyHash P "setattr", .str "setattr" 46, .builtin "setattr"⟩, ⟨PyData.keyHash P "sorted", .str "sorted" 47, .builtin "sorted"⟩, ⟨PyData.keyHash P "sum", .str "sum" 48, .builtin "sum"⟩, ⟨PyData.keyHash P "vars", .str "vars" 49, .builtin "vars"⟩, ⟨PyData.keyHash P "None", .str "None" 50, .none⟩, ⟨PyData.keyHash P "Ellipsis", .str "Ellipsis" 51, .ellipsis⟩, ⟨PyData.keyHash P "NotImplemented", .str "NotImplemented" 52, .notImplemented⟩, ⟨PyData.keyHash P "False", .str "False" 53, .bool false⟩, ⟨PyData.keyHash P "True", .str "True" 54, .bool true⟩, ⟨PyData.keyHash P "bool", .str "bool" 55, .type "bool"⟩, ⟨PyData.keyHash P "memoryview", .str "memoryview" 56, .type "memoryview"⟩, ⟨PyData.keyHash P "bytearray", .str "bytearray" 57, .type "bytearray"⟩, ⟨PyData.keyHash P "bytes", .str "bytes" 58, .type "bytes"⟩, ⟨PyData.keyHash P "classmethod", .str "classmethod" 59, .type "classmethod"⟩, ⟨PyData.keyHash P "complex", .str "complex" 60, .type "complex"⟩, ⟨PyData.keyHash P "dict", .str "dict" 61, .type "dict"⟩, ⟨PyData.keyHash P "enumerate", .str "enumerate" 62, .type "enumerate"⟩, ⟨PyData.keyHash P "filter", .str "filter" 63, .type "filter"⟩, ⟨PyData.keyHash P "float", .str "float" 64, .type "float"⟩, ⟨PyData.keyHash P "frozenset", .str "frozenset" 65, .type "frozenset"⟩, ⟨PyData.keyHash P "property", .str "property" 66, .type "property"⟩, ⟨PyData.keyHash P "int", .str "int" 67, .type "int"⟩, ⟨PyData.keyHash P "list", .str "list" 68, .type "list"⟩, ⟨PyData.keyHash P "map", .str "map" 69, .type "map"⟩, ⟨PyData.keyHash P "object", .str "object" 70, .type "object"⟩, ⟨PyData.keyHash P "range", .str "range" 71, .type "range"⟩, ⟨PyData.keyHash P "reversed", .str "reversed" 72, .type "reversed"⟩, ⟨PyData.keyHash P "set", .str "set" 73, .type "set"⟩, ⟨PyData.keyHash P "slice", .str "slice" 74, .type "slice"⟩, ⟨PyData.keyHash P "staticmethod", .str "staticmethod" 75, .type "staticmethod"⟩, ⟨PyData.keyHash P "str", .str "str" 76, .type "str"⟩, ⟨PyData.keyHash P "super", .str "super" 77, .type "super"⟩, ⟨PyData.keyHash P "tuple", .str "tuple" 78, .type "tuple"⟩, ⟨PyData.keyHash P "type", .str "type" 79, .type "type"⟩, ⟨PyData.keyHash P "zip", .str "zip" 80, .type "zip"⟩, ⟨PyData.keyHash P "__debug__", .str "__debug__" 81, .bool true⟩, ⟨PyData.keyHash P "BaseException", .str "BaseException" 82, .type "BaseException"⟩, ⟨PyData.keyHash P "BaseExceptionGroup", .str "BaseExceptionGroup" 83, .type "BaseExceptionGroup"⟩, ⟨PyData.keyHash P "Exception", .str "Exception" 84, .type "Exception"⟩, ⟨PyData.keyHash P "GeneratorExit", .str "GeneratorExit" 85, .type "GeneratorExit"⟩, ⟨PyData.keyHash P "KeyboardInterrupt", .str "KeyboardInterrupt" 86, .type "KeyboardInterrupt"⟩, ⟨PyData.keyHash P "SystemExit", .str "SystemExit" 87, .type "SystemExit"⟩, ⟨PyData.keyHash P "ArithmeticError", .str "ArithmeticError" 88, .type "ArithmeticError"⟩, ⟨PyData.keyHash P "AssertionError", .str "AssertionError" 89, .type "AssertionError"⟩, ⟨PyData.keyHash P "AttributeError", .str "AttributeError" 90, .type "AttributeError"⟩, ⟨PyData.keyHash P "BufferError", .str "BufferError" 91, .type "BufferError"⟩, ⟨PyData.keyHash P "EOFError", .str "EOFError" 92, .type "EOFError"⟩, ⟨PyData.keyHash P "ImportError", .str "ImportError" 93, .type "ImportError"⟩, ⟨PyData.keyHash P "LookupError", .str "LookupError" 94, .type "LookupError"⟩, ⟨PyData.keyHash P "MemoryError", .str "MemoryError" 95, .type "MemoryError"⟩, ⟨PyData.keyHash P "NameError", .str "NameError" 96, .type "NameError"⟩, ⟨PyData.keyHash P "OSError", .str "OSError" 97, .type "OSError"⟩, ⟨PyData.keyHash P "ReferenceError", .str "ReferenceError" 98, .type "ReferenceError"⟩, ⟨PyData.keyHash P "RuntimeError", .str "RuntimeError" 99, .type "RuntimeError"⟩, ⟨PyData.keyHash P "StopAsyncIteration", .str "StopAsyncIteration" 100, .type "StopAsyncIteration"⟩, ⟨PyData.keyHash P "StopIteration", .str "StopIteration" 101, .type "StopIteration"⟩, ⟨PyData.keyHash P "SyntaxError", .str "SyntaxError" 102, .type "SyntaxError"⟩, ⟨PyData.keyHash P "SystemError", .str "SystemError" 103, .type "SystemError"⟩, ⟨PyData.keyHash P "TypeError", .str "TypeError" 104, .type "TypeError"⟩, ⟨PyData.keyHash P "ValueError", .str "ValueError" 105, .type "ValueError"⟩, ⟨PyData.keyHash P "Warning", .str "Warning" 106, .type "Warning"⟩, ⟨PyData.keyHash P "FloatingPointError", .str "FloatingPointError" 107, .type "FloatingPointError"⟩, ⟨PyData.keyHash P "OverflowError", .str "OverflowError" 108, .type "OverflowError"⟩, ⟨PyData.keyHash P "ZeroDivisionError", .str "ZeroDivisionError" 109, .type "ZeroDivisionError"⟩, ⟨PyData.keyHash P "BytesWarning", .str "BytesWarning" 110, .type "BytesWarning"⟩, ⟨PyData.keyHash P "DeprecationWarning", .str "DeprecationWarning" 111, .type "DeprecationWarning"⟩, ⟨PyData.keyHash P "EncodingWarning", .str "EncodingWarning" 112, .type "EncodingWarning"⟩, ⟨PyData.keyHash P "FutureWarning", .str "FutureWarning" 113, .type "FutureWarning"⟩, ⟨PyData.keyHash P "ImportWarning", .str "ImportWarning" 114, .type "ImportWarning"⟩, ⟨PyData.keyHash P "PendingDeprecationWarning", .str "PendingDeprecationWarning" 115, .type "PendingDeprecationWarning"⟩, ⟨PyData.keyHash P "ResourceWarning", .str "ResourceWarning" 116, .type "ResourceWarning"⟩, ⟨PyData.keyHash P "RuntimeWarning", .str "RuntimeWarning" 117, .type "RuntimeWarning"⟩, ⟨PyData.keyHash P "SyntaxWarning", .str "SyntaxWarning" 118, .type "SyntaxWarning"⟩, ⟨PyData.keyHash P "UnicodeWarning", .str "UnicodeWarning" 119, .type "UnicodeWarning"⟩, ⟨PyData.keyHash P "UserWarning", .str "UserWarning" 120, .type "UserWarning"⟩, ⟨PyData.keyHash P "BlockingIOError", .str "BlockingIOError" 121, .type "BlockingIOError"⟩, ⟨PyData.keyHash P "ChildProcessError", .str "ChildProcessError" 122, .type "ChildProcessError"⟩, ⟨PyData.keyHash P "ConnectionError", .str "ConnectionError" 123, .type "ConnectionError"⟩, ⟨PyData.keyHash P "FileExistsError", .str "FileExistsError" 124, .type "FileExistsError"⟩, ⟨PyData.keyHash P "FileNotFoundError", .str "FileNotFoundError" 125, .type "FileNotFoundError"⟩, ⟨PyData.keyHash P "InterruptedError", .str "InterruptedError" 126, .type "InterruptedError"⟩, ⟨PyData.keyHash P "IsADirectoryError", .str "IsADirectoryError" 127, .type "IsADirectoryError"⟩, ⟨PyData.keyHash P "NotADirectoryError", .str "NotADirectoryError" 128, .type "NotADirectoryError"⟩, ⟨PyData.keyHash P "PermissionError", .str "PermissionError" 129, .type "PermissionError"⟩, ⟨PyData.keyHash P "ProcessLookupError", .str "ProcessLookupError" 130, .type "ProcessLookupError"⟩, ⟨PyData.keyHash P "TimeoutError", .str "TimeoutError" 131, .type "TimeoutError"⟩, ⟨PyData.keyHash P "IndentationError", .str "IndentationError" 132, .type "IndentationError"⟩, ⟨PyData.keyHash P "_IncompleteInputError", .str "_IncompleteInputError" 133, .type "_IncompleteInputError"⟩, ⟨PyData.keyHash P "IndexError", .str "IndexError" 134, .type "IndexError"⟩, ⟨PyData.keyHash P "KeyError", .str "KeyError" 135, .type "KeyError"⟩, ⟨PyData.keyHash P "ModuleNotFoundError", .str "ModuleNotFoundError" 136, .type "ModuleNotFoundError"⟩, ⟨PyData.keyHash P "NotImplementedError", .str "NotImplementedError" 137, .type "NotImplementedError"⟩, ⟨PyData.keyHash P "PythonFinalizationError", .str "PythonFinalizationError" 138, .type "PythonFinalizationError"⟩, ⟨PyData.keyHash P "RecursionError", .str "RecursionError" 139, .type "RecursionError"⟩, ⟨PyData.keyHash P "UnboundLocalError", .str "UnboundLocalError" 140, .type "UnboundLocalError"⟩, ⟨PyData.keyHash P "UnicodeError", .str "UnicodeError" 141, .type "UnicodeError"⟩, ⟨PyData.keyHash P "BrokenPipeError", .str "BrokenPipeError" 142, .type "BrokenPipeError"⟩, ⟨PyData.keyHash P "ConnectionAbortedError", .str "ConnectionAbortedError" 143, .type "ConnectionAbortedError"⟩, ⟨PyData.keyHash P "ConnectionRefusedError", .str "ConnectionRefusedError" 144, .type "ConnectionRefusedError"⟩, ⟨PyData.keyHash P "ConnectionResetError", .str "ConnectionResetError" 145, .type "ConnectionResetError"⟩, ⟨PyData.keyHash P "TabError", .str "TabError" 146, .type "TabError"⟩, ⟨PyData.keyHash P "UnicodeDecodeError", .str "UnicodeDecodeError" 147, .type "UnicodeDecodeError"⟩, ⟨PyData.keyHash P "UnicodeEncodeError", .str "UnicodeEncodeError" 148, .type "UnicodeEncodeError"⟩, ⟨PyData.keyHash P "UnicodeTranslateError", .str "UnicodeTranslateError" 149, .type "UnicodeTranslateError"⟩, ⟨PyData.keyHash P "ExceptionGroup", .str "ExceptionGroup" 150, .type "ExceptionGroup"⟩, ⟨PyData.keyHash P "EnvironmentError", .str "EnvironmentError" 151, .type "OSError"⟩, ⟨PyData.keyHash P "IOError", .str "IOError" 152, .type "OSError"⟩, ⟨PyData.keyHash P "open", .str "open" 153, .builtin "open"⟩, ⟨PyData.keyHash P "quit", .str "quit" 154, .builtin "builtins.quit#opaque"⟩, ⟨PyData.keyHash P "exit", .str "exit" 155, .builtin "builtins.exit#opaque"⟩, ⟨PyData.keyHash P "copyright", .str "copyright" 156, .builtin "builtins.copyright#opaque"⟩, ⟨PyData.keyHash P "credits", .str "credits" 157, .builtin "builtins.credits#opaque"⟩, ⟨PyData.keyHash P "license", .str "license" 158, .builtin "builtins.license#opaque"⟩, ⟨PyData.keyHash P "help", .str "help" 159, .builtin "builtins.help#opaque"⟩]⟩ 159), ⟨[]⟩⟩
noncomputable def o1_0 (P : Params) : Obj := ⟨.type "dict", none, (.dict ⟨[⟨PyData.keyHash P "builtins", .str "builtins" 162, .ref 4⟩, ⟨PyData.keyHash P "__main__", .str "__main__" 163, .ref 5⟩]⟩ 2), ⟨[]⟩⟩
noncomputable def o2_0 : Obj := ⟨.none, none, (.dict ⟨[]⟩ 0), ⟨[]⟩⟩
noncomputable def o3_0 (P : Params) : Obj := ⟨.type "dict", none, (.dict ⟨[⟨PyData.keyHash P "__name__", .str "__name__" 165, .str "__main__" 164⟩, ⟨PyData.keyHash P "__doc__", .str "__doc__" 166, .none⟩, ⟨PyData.keyHash P "__package__", .str "__package__" 167, .none⟩, ⟨PyData.keyHash P "__loader__", .str "__loader__" 168, .builtin "__main__.__loader__#opaque"⟩, ⟨PyData.keyHash P "__spec__", .str "__spec__" 169, .none⟩, ⟨PyData.keyHash P "__annotations__", .str "__annotations__" 170, .ref 6⟩, ⟨PyData.keyHash P "__builtins__", .str "__builtins__" 171, .ref 4⟩, ⟨PyData.keyHash P "__file__", .str "__file__" 173, .str "/claim/cut.py" 172⟩, ⟨PyData.keyHash P "__cached__", .str "__cached__" 174, .none⟩]⟩ 9), ⟨[]⟩⟩
noncomputable def o4_0 : Obj := ⟨.type "module", (some 0), .plain, ⟨[]⟩⟩
noncomputable def o5_0 : Obj := ⟨.type "module", (some 3), .plain, ⟨[]⟩⟩
noncomputable def o6_0 : Obj := ⟨.type "dict", none, (.dict ⟨[]⟩ 0), ⟨[]⟩⟩
noncomputable def o7_0 : Obj := ⟨.type "tuple", none, (.seq ⟨[]⟩ 0), ⟨[]⟩⟩
noncomputable def o8_0 : Obj := ⟨.none, none, (.fields ⟨[]⟩), ⟨[]⟩⟩
noncomputable def o9_0 : Obj := ⟨.type "code", none, (.fields ⟨[.str "<module>" 176, .str "<module>" 177, .str "/claim/cut.py" 178, .int 1 0, .int 0 0, .int 0 0, .int 0 0, .int 0 0, .ref 7, .bool false, .int 175 0, .ref 8, .none, .none, .none, .none, .int 179 0, .int 1 0, .str "/claim/cut.py" 180]⟩), ⟨[]⟩⟩
noncomputable def o10_0 : Obj := ⟨.type "frame", none, .plain, ⟨[(some (.ref 9)), (some (.ref 3)), (some (.ref 3)), none, (some (.str "__main__" 164)), none, (some (.ref 0))]⟩⟩
noncomputable def t0 (P : Params) : BT := (.node (o0_0 P) (.node (o1_0 P) (.node (o3_0 P) (.node o7_0 .nil .nil) .nil) (.node o5_0 (.node o9_0 .nil .nil) .nil)) (.node o2_0 (.node o4_0 (.node o8_0 .nil .nil) .nil) (.node o6_0 (.node o10_0 .nil .nil) .nil)))
noncomputable def o11_1 : Obj := ⟨.type "tuple", none, (.seq ⟨[]⟩ 0), ⟨[]⟩⟩
noncomputable def o12_1 : Obj := ⟨.none, none, (.fields ⟨[]⟩), ⟨[]⟩⟩
noncomputable def o13_1 : Obj := ⟨.type "code", none, (.fields ⟨[.str "<module>" 182, .str "<module>" 183, .str "/claim/cut.py" 184, .int 1 0, .int 0 0, .int 0 0, .int 0 0, .int 0 0, .ref 11, .bool false, .int 181 0, .ref 12, .none, .none, .none, .none, .int 185 0, .int 1 0, .str "/claim/cut.py" 186]⟩), ⟨[]⟩⟩
noncomputable def o14_1 : Obj := ⟨.type "frame", none, .plain, ⟨[(some (.ref 13)), (some (.ref 3)), (some (.ref 3)), none, (some (.str "__main__" 164)), none, (some (.ref 0))]⟩⟩
noncomputable def t1 (P : Params) : BT := (.node (o0_0 P) (.node (o1_0 P) (.node (o3_0 P) (.node o7_0 .nil .nil) (.node o11_1 .nil .nil)) (.node o5_0 (.node o9_0 .nil .nil) (.node o13_1 .nil .nil))) (.node o2_0 (.node o4_0 (.node o8_0 .nil .nil) (.node o12_1 .nil .nil)) (.node o6_0 (.node o10_0 .nil .nil) (.node o14_1 .nil .nil))))
noncomputable def o3_2 (P : Params) : Obj := ⟨.type "dict", none, (.dict ⟨[⟨PyData.keyHash P "__name__", .str "__name__" 165, .str "frametongue.parsing" 502⟩, ⟨PyData.keyHash P "__doc__", .str "__doc__" 166, .none⟩, ⟨PyData.keyHash P "__package__", .str "__package__" 167, .none⟩, ⟨PyData.keyHash P "__loader__", .str "__loader__" 168, .builtin "__main__.__loader__#opaque"⟩, ⟨PyData.keyHash P "__spec__", .str "__spec__" 169, .none⟩, ⟨PyData.keyHash P "__annotations__", .str "__annotations__" 170, .ref 6⟩, ⟨PyData.keyHash P "__builtins__", .str "__builtins__" 171, .ref 4⟩, ⟨PyData.keyHash P "__file__", .str "__file__" 173, .str "/claim/cut.py" 172⟩, ⟨PyData.keyHash P "__cached__", .str "__cached__" 174, .none⟩, ⟨PyData.keyHash P "FrameError", .str "FrameError" 206, .ref 24⟩, ⟨PyData.keyHash P "InvalidText", .str "InvalidText" 233, .ref 46⟩, ⟨PyData.keyHash P "InvalidTree", .str "InvalidTree" 260, .ref 67⟩, ⟨PyData.keyHash P "NotWellRead", .str "NotWellRead" 289, .ref 88⟩, ⟨PyData.keyHash P "is_whole", .str "is_whole" 298, .ref 97⟩, ⟨PyData.keyHash P "is_between", .str "is_between" 307, .ref 104⟩, ⟨PyData.keyHash P "is_string", .str "is_string" 314, .ref 111⟩, ⟨PyData.keyHash P "is_row", .str "is_row" 323, .ref 118⟩, ⟨PyData.keyHash P "are_same", .str "are_same" 329, .ref 123⟩, ⟨PyData.keyHash P "is_simple", .str "is_simple" 336, .ref 130⟩, ⟨PyData.keyHash P "LETTERS", .str "LETTERS" 340, .str "abcdefghijklmnopqrstuvwxyz" 339⟩, ⟨PyData.keyHash P "FIGURES", .str "FIGURES" 342, .str "0123456789" 341⟩, ⟨PyData.keyHash P "OTHERS", .str "OTHERS" 344, .str "+-*/^(),=" 343⟩, ⟨PyData.keyHash P "BLANK", .str "BLANK" 346, .str " " 345⟩, ⟨PyData.keyHash P "MOST_LETTERS", .str "MOST_LETTERS" 348, .int 8 347⟩, ⟨PyData.keyHash P "MOST_FIGURES", .str "MOST_FIGURES" 350, .int 6 349⟩, ⟨PyData.keyHash P "wrong_sign", .str "wrong_sign" 356, .ref 135⟩, ⟨PyData.keyHash P "sort_of", .str "sort_of" 363, .ref 142⟩, ⟨PyData.keyHash P "row_words", .str "row_words" 374, .ref 149⟩, ⟨PyData.keyHash P "is_run_of", .str "is_run_of" 380, .ref 154⟩, ⟨PyData.keyHash P "is_any_name", .str "is_any_name" 387, .ref 161⟩, ⟨PyData.keyHash P "is_name_word", .str "is_name_word" 394, .ref 168⟩, ⟨PyData.keyHash P "is_any_number", .str "is_any_number" 401, .ref 175⟩, ⟨PyData.keyHash P "is_number_word", .str "is_number_word" 408, .ref 182⟩, ⟨PyData.keyHash P "DEEDS", .str "DEEDS" 415, .ref 183⟩, ⟨PyData.keyHash P "MOST_PLACES", .str "MOST_PLACES" 417, .int 40 416⟩, ⟨PyData.keyHash P "MOST_NUMBER", .str "MOST_NUMBER" 419, .int 999999 418⟩, ⟨PyData.keyHash P "MOST_POWER", .str "MOST_POWER" 421, .int 4 420⟩, ⟨PyData.keyHash P "MOST_OWN", .str "MOST_OWN" 423, .int 3 422⟩, ⟨PyData.keyHash P "SIZES", .str "SIZES" 451, .ref 184⟩, ⟨PyData.keyHash P "GIVEN_HEADS", .str "GIVEN_HEADS" 455, .ref 185⟩, ⟨PyData.keyHash P "is_name", .str "is_name" 462, .ref 192⟩, ⟨PyData.keyHash P "is_headed", .str "is_headed" 470, .ref 199⟩, ⟨PyData.keyHash P "is_leaf", .str "is_leaf" 477, .ref 206⟩, ⟨PyData.keyHash P "is_branch", .str "is_branch" 484, .ref 213⟩, ⟨PyData.keyHash P "has_tree_form", .str "has_tree_form" 494, .ref 220⟩, ⟨PyData.keyHash P "parts_of", .str "parts_of" 501, .ref 227⟩, ⟨PyData.keyHash P "MOST_DEEP", .str "MOST_DEEP" 505, .int 12 504⟩, ⟨PyData.keyHash P "SIGN", .str "SIGN" 507, .str "sign" 506⟩, ⟨PyData.keyHash P "FORM", .str "FORM" 509, .str "form" 508⟩]⟩ 49), ⟨[]⟩⟩
noncomputable def o12_2 : Obj := ⟨.none, none, (.fields ⟨[.int 2 0, .int 0 0, .ref 20, .int 4 0, .int 0 0, .ref 34, .int 9 0, .int 0 0, .ref 55, .int 14 0, .int 0 0, .ref 76, .int 21 0, .int 0 0, .ref 96, .int 23 0, .int 0 0, .ref 103, .int 25 0, .int 0 0, .ref 110, .int 27 0, .int 0 0, .ref 117, .int 29 0, .int 0 0, .ref 122, .int 37 0, .int 0 0, .ref 129, .int 46 0, .int 0 0, .ref 134, .int 49 0, .int 0 0, .ref 141, .int 53 0, .int 0 0, .ref 148, .int 63 0, .int 0 0, .ref 153, .int 65 0, .int 0 0, .ref 160, .int 67 0, .int 0 0, .ref 167, .int 69 0, .int 0 0, .ref 174, .int 71 0, .int 0 0, .ref 181, .int 81 0, .int 0 0, .ref 191, .int 83 0, .int 0 0, .ref 198, .int 87 0, .int 0 0, .ref 205, .int 91 0, .int 0 0, .ref 212, .int 97 0, .int 0 0, .ref 219, .int 108 0, .int 0 0, .ref 226]⟩), ⟨[]⟩⟩
noncomputable def o15_2 : Obj := ⟨.type "tuple", none, (.seq ⟨[.type "ValueError"]⟩ 0), ⟨[]⟩⟩
noncomputable def o16_2 : Obj := ⟨.type "builtin_function_or_method", none, (.fields ⟨[.builtin "type.__prepare__", .type "type"]⟩), ⟨[]⟩⟩
noncomputable def o17_2 (P : Params) : Obj := ⟨.type "dict", none, (.dict ⟨[⟨PyData.keyHash P "__module__", .str "__module__" 196, .str "frametongue.errors" 187⟩, ⟨PyData.keyHash P "__qualname__", .str "__qualname__" 198, .str "FrameError" 197⟩, ⟨PyData.keyHash P "__firstlineno__", .str "__firstlineno__" 200, .int 2 199⟩, ⟨PyData.keyHash P "__static_attributes__", .str "__static_attributes__" 201, .ref 22⟩]⟩ 4), ⟨[]⟩⟩
noncomputable def o18_2 : Obj := ⟨.type "tuple", none, (.seq ⟨[]⟩ 0), ⟨[]⟩⟩
noncomputable def o19_2 : Obj := ⟨.none, none, (.fields ⟨[]⟩), ⟨[]⟩⟩
noncomputable def o20_2 : Obj := ⟨.type "code", none, (.fields ⟨[.str "FrameError" 191, .str "FrameError" 192, .str "/claim/cut.py" 193, .int 2 0, .int 0 0, .int 0 0, .int 0 0, .int 0 0, .ref 18, .bool false, .int 181 0, .ref 19, .none, .none, .none, .none, .int 194 0, .int 2 0, .str "/claim/cut.py" 195]⟩), ⟨[]⟩⟩
noncomputable def o21_2 : Obj := ⟨.type "frame", none, .plain, ⟨[(some (.ref 20)), (some (.ref 3)), (some (.ref 17)), none, (some (.str "frametongue.errors" 187)), none, (some (.ref 0))]⟩⟩
noncomputable def o22_2 : Obj := ⟨.type "tuple", none, (.seq ⟨[]⟩ 0), ⟨[]⟩⟩
noncomputable def o23_2 (P : Params) : Obj := ⟨.type "dict", none, (.dict ⟨[⟨PyData.keyHash P "__module__", .str "__module__" 196, .str "frametongue.errors" 187⟩, ⟨PyData.keyHash P "__firstlineno__", .str "__firstlineno__" 200, .int 2 199⟩, ⟨PyData.keyHash P "__static_attributes__", .str "__static_attributes__" 201, .ref 22⟩, ⟨PyData.keyHash P "__weakref__", .str "__weakref__" 203, .ref 25⟩, ⟨PyData.keyHash P "__doc__", .str "__doc__" 204, .none⟩]⟩ 3), ⟨[]⟩⟩
noncomputable def o24_2 : Obj := ⟨.type "type", none, (.cls ⟨"FrameError", [.type "ValueError"], [.ref 24, .type "ValueError", .type "Exception", .type "BaseException", .type "object"], 23, "FrameError", true, [], [.ref 46, .ref 67, .ref 88], false, none, false⟩), ⟨[(some (.ref 15)), none, (some (.str "FrameError" 189)), (some (.str "FrameError" 197)), (some (.builtin "ValueError.__new__")), (some (.bool true))]⟩⟩
noncomputable def o25_2 : Obj := ⟨.type "getset_descriptor", none, (.fields ⟨[.str "__weakref__" 202, .ref 24, .builtin "ExceptionGroup.__weakref__", .none]⟩), ⟨[]⟩⟩
noncomputable def o26_2 : Obj := ⟨.type "super", none, (.fields ⟨[.ref 24, .ref 24, .ref 24]⟩), ⟨[]⟩⟩
noncomputable def o27_2 : Obj := ⟨.type "builtin_function_or_method", none, (.fields ⟨[.builtin "object.__init_subclass__", .ref 24]⟩), ⟨[]⟩⟩
noncomputable def o28_2 : Obj := ⟨.type "tuple", none, (.seq ⟨[.ref 24]⟩ 0), ⟨[]⟩⟩
noncomputable def o29_2 : Obj := ⟨.type "builtin_function_or_method", none, (.fields ⟨[.builtin "type.__prepare__", .type "type"]⟩), ⟨[]⟩⟩
noncomputable def o30_2 (P : Params) : Obj := ⟨.type "dict", none, (.dict ⟨[⟨PyData.keyHash P "__module__", .str "__module__" 214, .str "frametongue.errors" 187⟩, ⟨PyData.keyHash P "__qualname__", .str "__qualname__" 216, .str "InvalidText" 215⟩, ⟨PyData.keyHash P "__firstlineno__", .str "__firstlineno__" 218, .int 4 217⟩, ⟨PyData.keyHash P "__init__", .str "__init__" 227, .ref 43⟩, ⟨PyData.keyHash P "__static_attributes__", .str "__static_attributes__" 229, .ref 44⟩, ⟨PyData.keyHash P "__classcell__", .str "__classcell__" 230, .ref 31⟩]⟩ 6), ⟨[]⟩⟩
noncomputable def o31_2 : Obj := ⟨.type "cell", none, (.cell (some (.ref 46))), ⟨[]⟩⟩
noncomputable def o32_2 : Obj := ⟨.type "tuple", none, (.seq ⟨[]⟩ 0), ⟨[]⟩⟩
noncomputable def o33_2 : Obj := ⟨.none, none, (.fields ⟨[.int 6 0, .int 4 0, .ref 42]⟩), ⟨[]⟩⟩
noncomputable def o34_2 : Obj := ⟨.type "code", none, (.fields ⟨[.str "InvalidText" 209, .str "InvalidText" 210, .str "/claim/cut.py" 211, .int 4 0, .int 0 0, .int 0 0, .int 0 0, .int 0 0, .ref 32, .bool false, .int 181 0, .ref 33, .none, .none, .none, .none, .int 212 0, .int 4 0, .str "/claim/cut.py" 213]⟩), ⟨[]⟩⟩
noncomputable def o35_2 : Obj := ⟨.type "frame", none, .plain, ⟨[(some (.ref 34)), (some (.ref 3)), (some (.ref 30)), none, (some (.str "frametongue.errors" 187)), none, (some (.ref 0))]⟩⟩
noncomputable def o36_2 : Obj := ⟨.type "tuple", none, (.seq ⟨[.ref 31]⟩ 0), ⟨[]⟩⟩
noncomputable def o37_2 : Obj := ⟨.type "tuple", none, (.seq ⟨[.str "__class__" 222]⟩ 0), ⟨[]⟩⟩
noncomputable def o38_2 : Obj := ⟨.none, none, (.fields ⟨[]⟩), ⟨[]⟩⟩
noncomputable def o39_2 : Obj := ⟨.type "tuple", none, (.seq ⟨[.str "self" 223, .str "given" 224]⟩ 0), ⟨[]⟩⟩
noncomputable def o40_2 : Obj := ⟨.type "tuple", none, (.seq ⟨[]⟩ 0), ⟨[]⟩⟩
noncomputable def o41_2 : Obj := ⟨.none, none, (.func (fQ (inClass (topS 2) 0) "__init__" "InvalidText.__init__" 0 [] (.none) (.none) (.none) (.none) none (.none) (.none) 0)), ⟨[]⟩⟩
noncomputable def o42_2 : Obj := ⟨.type "code", none, (.fields ⟨[.str "__init__" 219, .str "InvalidText.__init__" 220, .str "/claim/cut.py" 221, .int 6 0, .int 2 0, .int 0 0, .int 0 0, .int 3 0, .ref 37, .bool true, .int 181 0, .ref 38, .none, .ref 39, .ref 40, .ref 41, .int 225 0, .int 6 0, .str "/claim/cut.py" 226]⟩), ⟨[]⟩⟩
noncomputable def o43_2 : Obj := ⟨.type "function", none, (.func (fQ (inClass (topS 2) 0) "__init__" "InvalidText.__init__" 3 [("__class__", 31)] (.none) (.none) (.none) (.str "frametongue.errors" 187) none (.ref 42) (.ref 36) 0)), ⟨[]⟩⟩
noncomputable def o44_2 : Obj := ⟨.type "tuple", none, (.seq ⟨[.str "given" 228]⟩ 0), ⟨[]⟩⟩
noncomputable def o45_2 (P : Params) : Obj := ⟨.type "dict", none, (.dict ⟨[⟨PyData.keyHash P "__module__", .str "__module__" 214, .str "frametongue.errors" 187⟩, ⟨PyData.keyHash P "__firstlineno__", .str "__firstlineno__" 218, .int 4 217⟩, ⟨PyData.keyHash P "__init__", .str "__init__" 227, .ref 43⟩, ⟨PyData.keyHash P "__static_attributes__", .str "__static_attributes__" 229, .ref 44⟩, ⟨PyData.keyHash P "__doc__", .str "__doc__" 231, .none⟩]⟩ 3), ⟨[]⟩⟩
noncomputable def o46_2 : Obj := ⟨.type "type", none, (.cls ⟨"InvalidText", [.ref 24], [.ref 46, .ref 24, .type "ValueError", .type "Exception", .type "BaseException", .type "object"], 45, "InvalidText", true, [], [], false, none, false⟩), ⟨[(some (.ref 28)), none, (some (.str "InvalidText" 207)), (some (.str "InvalidText" 215)), (some (.builtin "ValueError.__new__")), (some (.bool true))]⟩⟩
noncomputable def o47_2 : Obj := ⟨.type "super", none, (.fields ⟨[.ref 46, .ref 46, .ref 46]⟩), ⟨[]⟩⟩
noncomputable def o48_2 : Obj := ⟨.type "builtin_function_or_method", none, (.fields ⟨[.builtin "object.__init_subclass__", .ref 46]⟩), ⟨[]⟩⟩
noncomputable def o49_2 : Obj := ⟨.type "tuple", none, (.seq ⟨[.ref 24]⟩ 0), ⟨[]⟩⟩
noncomputable def o50_2 : Obj := ⟨.type "builtin_function_or_method", none, (.fields ⟨[.builtin "type.__prepare__", .type "type"]⟩), ⟨[]⟩⟩
noncomputable def o51_2 (P : Params) : Obj := ⟨.type "dict", none, (.dict ⟨[⟨PyData.keyHash P "__module__", .str "__module__" 241, .str "frametongue.errors" 187⟩, ⟨PyData.keyHash P "__qualname__", .str "__qualname__" 243, .str "InvalidTree" 242⟩, ⟨PyData.keyHash P "__firstlineno__", .str "__firstlineno__" 245, .int 9 244⟩, ⟨PyData.keyHash P "__init__", .str "__init__" 254, .ref 64⟩, ⟨PyData.keyHash P "__static_attributes__", .str "__static_attributes__" 256, .ref 65⟩, ⟨PyData.keyHash P "__classcell__", .str "__classcell__" 257, .ref 52⟩]⟩ 6), ⟨[]⟩⟩
noncomputable def o52_2 : Obj := ⟨.type "cell", none, (.cell (some (.ref 67))), ⟨[]⟩⟩
noncomputable def o53_2 : Obj := ⟨.type "tuple", none, (.seq ⟨[]⟩ 0), ⟨[]⟩⟩
noncomputable def o54_2 : Obj := ⟨.none, none, (.fields ⟨[.int 11 0, .int 4 0, .ref 63]⟩), ⟨[]⟩⟩
noncomputable def o55_2 : Obj := ⟨.type "code", none, (.fields ⟨[.str "InvalidTree" 236, .str "InvalidTree" 237, .str "/claim/cut.py" 238, .int 9 0, .int 0 0, .int 0 0, .int 0 0, .int 0 0, .ref 53, .bool false, .int 181 0, .ref 54, .none, .none, .none, .none, .int 239 0, .int 9 0, .str "/claim/cut.py" 240]⟩), ⟨[]⟩⟩
noncomputable def o56_2 : Obj := ⟨.type "frame", none, .plain, ⟨[(some (.ref 55)), (some (.ref 3)), (some (.ref 51)), none, (some (.str "frametongue.errors" 187)), none, (some (.ref 0))]⟩⟩
noncomputable def o57_2 : Obj := ⟨.type "tuple", none, (.seq ⟨[.ref 52]⟩ 0), ⟨[]⟩⟩
noncomputable def o58_2 : Obj := ⟨.type "tuple", none, (.seq ⟨[.str "__class__" 249]⟩ 0), ⟨[]⟩⟩
noncomputable def o59_2 : Obj := ⟨.none, none, (.fields ⟨[]⟩), ⟨[]⟩⟩
noncomputable def o60_2 : Obj := ⟨.type "tuple", none, (.seq ⟨[.str "self" 250, .str "given" 251]⟩ 0), ⟨[]⟩⟩
noncomputable def o61_2 : Obj := ⟨.type "tuple", none, (.seq ⟨[]⟩ 0), ⟨[]⟩⟩
noncomputable def o62_2 : Obj := ⟨.none, none, (.func (fQ (inClass (topS 3) 0) "__init__" "InvalidTree.__init__" 0 [] (.none) (.none) (.none) (.none) none (.none) (.none) 0)), ⟨[]⟩⟩
noncomputable def o63_2 : Obj := ⟨.type "code", none, (.fields ⟨[.str "__init__" 246, .str "InvalidTree.__init__" 247, .str "/claim/cut.py" 248, .int 11 0, .int 2 0, .int 0 0, .int 0 0, .int 3 0, .ref 58, .bool true, .int 181 0, .ref 59, .none, .ref 60, .ref 61, .ref 62, .int 252 0, .int 11 0, .str "/claim/cut.py" 253]⟩), ⟨[]⟩⟩
noncomputable def o64_2 : Obj := ⟨.type "function", none, (.func (fQ (inClass (topS 3) 0) "__init__" "InvalidTree.__init__" 3 [("__class__", 52)] (.none) (.none) (.none) (.str "frametongue.errors" 187) none (.ref 63) (.ref 57) 0)), ⟨[]⟩⟩
noncomputable def o65_2 : Obj := ⟨.type "tuple", none, (.seq ⟨[.str "given" 255]⟩ 0), ⟨[]⟩⟩
noncomputable def o66_2 (P : Params) : Obj := ⟨.type "dict", none, (.dict ⟨[⟨PyData.keyHash P "__module__", .str "__module__" 241, .str "frametongue.errors" 187⟩, ⟨PyData.keyHash P "__firstlineno__", .str "__firstlineno__" 245, .int 9 244⟩, ⟨PyData.keyHash P "__init__", .str "__init__" 254, .ref 64⟩, ⟨PyData.keyHash P "__static_attributes__", .str "__static_attributes__" 256, .ref 65⟩, ⟨PyData.keyHash P "__doc__", .str "__doc__" 258, .none⟩]⟩ 3), ⟨[]⟩⟩
noncomputable def o67_2 : Obj := ⟨.type "type", none, (.cls ⟨"InvalidTree", [.ref 24], [.ref 67, .ref 24, .type "ValueError", .type "Exception", .type "BaseException", .type "object"], 66, "InvalidTree", true, [], [], false, none, false⟩), ⟨[(some (.ref 49)), none, (some (.str "InvalidTree" 234)), (some (.str "InvalidTree" 242)), (some (.builtin "ValueError.__new__")), (some (.bool true))]⟩⟩
noncomputable def o68_2 : Obj := ⟨.type "super", none, (.fields ⟨[.ref 67, .ref 67, .ref 67]⟩), ⟨[]⟩⟩
noncomputable def o69_2 : Obj := ⟨.type "builtin_function_or_method", none, (.fields ⟨[.builtin "object.__init_subclass__", .ref 67]⟩), ⟨[]⟩⟩
noncomputable def o70_2 : Obj := ⟨.type "tuple", none, (.seq ⟨[.ref 24]⟩ 0), ⟨[]⟩⟩
noncomputable def o71_2 : Obj := ⟨.type "builtin_function_or_method", none, (.fields ⟨[.builtin "type.__prepare__", .type "type"]⟩), ⟨[]⟩⟩
noncomputable def o72_2 (P : Params) : Obj := ⟨.type "dict", none, (.dict ⟨[⟨PyData.keyHash P "__module__", .str "__module__" 268, .str "frametongue.errors" 187⟩, ⟨PyData.keyHash P "__qualname__", .str "__qualname__" 270, .str "NotWellRead" 269⟩, ⟨PyData.keyHash P "__firstlineno__", .str "__firstlineno__" 272, .int 14 271⟩, ⟨PyData.keyHash P "__init__", .str "__init__" 282, .ref 85⟩, ⟨PyData.keyHash P "__static_attributes__", .str "__static_attributes__" 285, .ref 86⟩, ⟨PyData.keyHash P "__classcell__", .str "__classcell__" 286, .ref 73⟩]⟩ 6), ⟨[]⟩⟩
noncomputable def o73_2 : Obj := ⟨.type "cell", none, (.cell (some (.ref 88))), ⟨[]⟩⟩
noncomputable def o74_2 : Obj := ⟨.type "tuple", none, (.seq ⟨[]⟩ 0), ⟨[]⟩⟩
noncomputable def o75_2 : Obj := ⟨.none, none, (.fields ⟨[.int 16 0, .int 4 0, .ref 84]⟩), ⟨[]⟩⟩
noncomputable def o76_2 : Obj := ⟨.type "code", none, (.fields ⟨[.str "NotWellRead" 263, .str "NotWellRead" 264, .str "/claim/cut.py" 265, .int 14 0, .int 0 0, .int 0 0, .int 0 0, .int 0 0, .ref 74, .bool false, .int 181 0, .ref 75, .none, .none, .none, .none, .int 266 0, .int 14 0, .str "/claim/cut.py" 267]⟩), ⟨[]⟩⟩
noncomputable def o77_2 : Obj := ⟨.type "frame", none, .plain, ⟨[(some (.ref 76)), (some (.ref 3)), (some (.ref 72)), none, (some (.str "frametongue.errors" 187)), none, (some (.ref 0))]⟩⟩
noncomputable def o78_2 : Obj := ⟨.type "tuple", none, (.seq ⟨[.ref 73]⟩ 0), ⟨[]⟩⟩
noncomputable def o79_2 : Obj := ⟨.type "tuple", none, (.seq ⟨[.str "__class__" 276]⟩ 0), ⟨[]⟩⟩
noncomputable def o80_2 : Obj := ⟨.none, none, (.fields ⟨[]⟩), ⟨[]⟩⟩
noncomputable def o81_2 : Obj := ⟨.type "tuple", none, (.seq ⟨[.str "self" 277, .str "row" 278, .str "word" 279]⟩ 0), ⟨[]⟩⟩
noncomputable def o82_2 : Obj := ⟨.type "tuple", none, (.seq ⟨[]⟩ 0), ⟨[]⟩⟩
noncomputable def o83_2 : Obj := ⟨.none, none, (.func (fQ (inClass (topS 4) 0) "__init__" "NotWellRead.__init__" 0 [] (.none) (.none) (.none) (.none) none (.none) (.none) 0)), ⟨[]⟩⟩
noncomputable def o84_2 : Obj := ⟨.type "code", none, (.fields ⟨[.str "__init__" 273, .str "NotWellRead.__init__" 274, .str "/claim/cut.py" 275, .int 16 0, .int 3 0, .int 0 0, .int 0 0, .int 3 0, .ref 79, .bool true, .int 181 0, .ref 80, .none, .ref 81, .ref 82, .ref 83, .int 280 0, .int 16 0, .str "/claim/cut.py" 281]⟩), ⟨[]⟩⟩
noncomputable def o85_2 : Obj := ⟨.type "function", none, (.func (fQ (inClass (topS 4) 0) "__init__" "NotWellRead.__init__" 3 [("__class__", 73)] (.none) (.none) (.none) (.str "frametongue.errors" 187) none (.ref 84) (.ref 78) 0)), ⟨[]⟩⟩
noncomputable def o86_2 : Obj := ⟨.type "tuple", none, (.seq ⟨[.str "row" 283, .str "word" 284]⟩ 0), ⟨[]⟩⟩
noncomputable def o87_2 (P : Params) : Obj := ⟨.type "dict", none, (.dict ⟨[⟨PyData.keyHash P "__module__", .str "__module__" 268, .str "frametongue.errors" 187⟩, ⟨PyData.keyHash P "__firstlineno__", .str "__firstlineno__" 272, .int 14 271⟩, ⟨PyData.keyHash P "__init__", .str "__init__" 282, .ref 85⟩, ⟨PyData.keyHash P "__static_attributes__", .str "__static_attributes__" 285, .ref 86⟩, ⟨PyData.keyHash P "__doc__", .str "__doc__" 287, .none⟩]⟩ 3), ⟨[]⟩⟩
noncomputable def o88_2 : Obj := ⟨.type "type", none, (.cls ⟨"NotWellRead", [.ref 24], [.ref 88, .ref 24, .type "ValueError", .type "Exception", .type "BaseException", .type "object"], 87, "NotWellRead", true, [], [], false, none, false⟩), ⟨[(some (.ref 70)), none, (some (.str "NotWellRead" 261)), (some (.str "NotWellRead" 269)), (some (.builtin "ValueError.__new__")), (some (.bool true))]⟩⟩
noncomputable def o89_2 : Obj := ⟨.type "super", none, (.fields ⟨[.ref 88, .ref 88, .ref 88]⟩), ⟨[]⟩⟩
noncomputable def o90_2 : Obj := ⟨.type "builtin_function_or_method", none, (.fields ⟨[.builtin "object.__init_subclass__", .ref 88]⟩), ⟨[]⟩⟩
noncomputable def o91_2 : Obj := ⟨.type "tuple", none, (.seq ⟨[]⟩ 0), ⟨[]⟩⟩
noncomputable def o92_2 : Obj := ⟨.none, none, (.fields ⟨[]⟩), ⟨[]⟩⟩
noncomputable def o93_2 : Obj := ⟨.type "tuple", none, (.seq ⟨[.str "value" 295]⟩ 0), ⟨[]⟩⟩
noncomputable def o94_2 : Obj := ⟨.type "tuple", none, (.seq ⟨[]⟩ 0), ⟨[]⟩⟩
noncomputable def o95_2 : Obj := ⟨.none, none, (.func (fQ (topS 6) "is_whole" "is_whole" 0 [] (.none) (.none) (.none) (.none) none (.none) (.none) 0)), ⟨[]⟩⟩
noncomputable def o96_2 : Obj := ⟨.type "code", none, (.fields ⟨[.str "is_whole" 292, .str "is_whole" 293, .str "/claim/cut.py" 294, .int 21 0, .int 1 0, .int 0 0, .int 0 0, .int 3 0, .ref 91, .bool true, .int 181 0, .ref 92, .none, .ref 93, .ref 94, .ref 95, .int 296 0, .int 21 0, .str "/claim/cut.py" 297]⟩), ⟨[]⟩⟩
noncomputable def o97_2 : Obj := ⟨.type "function", none, (.func (fQ (topS 6) "is_whole" "is_whole" 3 [] (.none) (.none) (.none) (.str "frametongue.values" 290) none (.ref 96) (.none) 0)), ⟨[]⟩⟩
noncomputable def o98_2 : Obj := ⟨.type "tuple", none, (.seq ⟨[]⟩ 0), ⟨[]⟩⟩
noncomputable def o99_2 : Obj := ⟨.none, none, (.fields ⟨[]⟩), ⟨[]⟩⟩
noncomputable def o100_2 : Obj := ⟨.type "tuple", none, (.seq ⟨[.str "value" 302, .str "least" 303, .str "most" 304]⟩ 0), ⟨[]⟩⟩
noncomputable def o101_2 : Obj := ⟨.type "tuple", none, (.seq ⟨[]⟩ 0), ⟨[]⟩⟩
noncomputable def o102_2 : Obj := ⟨.none, none, (.func (fQ (topS 7) "is_between" "is_between" 0 [] (.none) (.none) (.none) (.none) none (.none) (.none) 0)), ⟨[]⟩⟩
noncomputable def o103_2 : Obj := ⟨.type "code", none, (.fields ⟨[.str "is_between" 299, .str "is_between" 300, .str "/claim/cut.py" 301, .int 23 0, .int 3 0, .int 0 0, .int 0 0, .int 3 0, .ref 98, .bool true, .int 181 0, .ref 99, .none, .ref 100, .ref 101, .ref 102, .int 305 0, .int 23 0, .str "/claim/cut.py" 306]⟩), ⟨[]⟩⟩
noncomputable def o104_2 : Obj := ⟨.type "function", none, (.func (fQ (topS 7) "is_between" "is_between" 3 [] (.none) (.none) (.none) (.str "frametongue.values" 290) none (.ref 103) (.none) 0)), ⟨[]⟩⟩
noncomputable def o105_2 : Obj := ⟨.type "tuple", none, (.seq ⟨[]⟩ 0), ⟨[]⟩⟩
noncomputable def o106_2 : Obj := ⟨.none, none, (.fields ⟨[]⟩), ⟨[]⟩⟩
noncomputable def o107_2 : Obj := ⟨.type "tuple", none, (.seq ⟨[.str "value" 311]⟩ 0), ⟨[]⟩⟩
noncomputable def o108_2 : Obj := ⟨.type "tuple", none, (.seq ⟨[]⟩ 0), ⟨[]⟩⟩
noncomputable def o109_2 : Obj := ⟨.none, none, (.func (fQ (topS 8) "is_string" "is_string" 0 [] (.none) (.none) (.none) (.none) none (.none) (.none) 0)), ⟨[]⟩⟩
noncomputable def o110_2 : Obj := ⟨.type "code", none, (.fields ⟨[.str "is_string" 308, .str "is_string" 309, .str "/claim/cut.py" 310, .int 25 0, .int 1 0, .int 0 0, .int 0 0, .int 3 0, .ref 105, .bool true, .int 181 0, .ref 106, .none, .ref 107, .ref 108, .ref 109, .int 312 0, .int 25 0, .str "/claim/cut.py" 313]⟩), ⟨[]⟩⟩
noncomputable def o111_2 : Obj := ⟨.type "function", none, (.func (fQ (topS 8) "is_string" "is_string" 3 [] (.none) (.none) (.none) (.str "frametongue.values" 290) none (.ref 110) (.none) 0)), ⟨[]⟩⟩
noncomputable def o112_2 : Obj := ⟨.type "tuple", none, (.seq ⟨[]⟩ 0), ⟨[]⟩⟩
noncomputable def o113_2 : Obj := ⟨.none, none, (.fields ⟨[]⟩), ⟨[]⟩⟩
noncomputable def o114_2 : Obj := ⟨.type "tuple", none, (.seq ⟨[.str "value" 318, .str "least" 319, .str "most" 320]⟩ 0), ⟨[]⟩⟩
noncomputable def o115_2 : Obj := ⟨.type "tuple", none, (.seq ⟨[]⟩ 0), ⟨[]⟩⟩
noncomputable def o116_2 : Obj := ⟨.none, none, (.func (fQ (topS 9) "is_row" "is_row" 0 [] (.none) (.none) (.none) (.none) none (.none) (.none) 0)), ⟨[]⟩⟩
noncomputable def o117_2 : Obj := ⟨.type "code", none, (.fields ⟨[.str "is_row" 315, .str "is_row" 316, .str "/claim/cut.py" 317, .int 27 0, .int 3 0, .int 0 0, .int 0 0, .int 3 0, .ref 112, .bool true, .int 181 0, .ref 113, .none, .ref 114, .ref 115, .ref 116, .int 321 0, .int 27 0, .str "/claim/cut.py" 322]⟩), ⟨[]⟩⟩
noncomputable def o118_2 : Obj := ⟨.type "function", none, (.func (fQ (topS 9) "is_row" "is_row" 3 [] (.none) (.none) (.none) (.str "frametongue.values" 290) none (.ref 117) (.none) 0)), ⟨[]⟩⟩
noncomputable def o119_2 : Obj := ⟨.type "tuple", none, (.seq ⟨[]⟩ 0), ⟨[]⟩⟩
noncomputable def o120_2 : Obj := ⟨.none, none, (.fields ⟨[]⟩), ⟨[]⟩⟩
noncomputable def o121_2 : Obj := ⟨.none, none, (.func (fQ (topS 10) "are_same" "are_same" 0 [] (.none) (.none) (.none) (.none) none (.none) (.none) 0)), ⟨[]⟩⟩
noncomputable def o122_2 : Obj := ⟨.type "code", none, (.fields ⟨[.str "are_same" 324, .str "are_same" 325, .str "/claim/cut.py" 326, .int 29 0, .int 2 0, .int 0 0, .int 0 0, .int 3 0, .ref 119, .bool true, .int 181 0, .ref 120, .none, .none, .none, .ref 121, .int 327 0, .int 29 0, .str "/claim/cut.py" 328]⟩), ⟨[]⟩⟩
noncomputable def o123_2 : Obj := ⟨.type "function", none, (.func (fQ (topS 10) "are_same" "are_same" 3 [] (.none) (.none) (.none) (.str "frametongue.values" 290) none (.ref 122) (.none) 0)), ⟨[]⟩⟩
noncomputable def o124_2 : Obj := ⟨.type "tuple", none, (.seq ⟨[]⟩ 0), ⟨[]⟩⟩
noncomputable def o125_2 : Obj := ⟨.none, none, (.fields ⟨[]⟩), ⟨[]⟩⟩
noncomputable def o126_2 : Obj := ⟨.type "tuple", none, (.seq ⟨[.str "value" 333]⟩ 0), ⟨[]⟩⟩
noncomputable def o127_2 : Obj := ⟨.type "tuple", none, (.seq ⟨[]⟩ 0), ⟨[]⟩⟩
noncomputable def o128_2 : Obj := ⟨.none, none, (.func (fQ (topS 11) "is_simple" "is_simple" 0 [] (.none) (.none) (.none) (.none) none (.none) (.none) 0)), ⟨[]⟩⟩
noncomputable def o129_2 : Obj := ⟨.type "code", none, (.fields ⟨[.str "is_simple" 330, .str "is_simple" 331, .str "/claim/cut.py" 332, .int 37 0, .int 1 0, .int 0 0, .int 0 0, .int 3 0, .ref 124, .bool true, .int 181 0, .ref 125, .none, .ref 126, .ref 127, .ref 128, .int 334 0, .int 37 0, .str "/claim/cut.py" 335]⟩), ⟨[]⟩⟩
noncomputable def o130_2 : Obj := ⟨.type "function", none, (.func (fQ (topS 11) "is_simple" "is_simple" 3 [] (.none) (.none) (.none) (.str "frametongue.values" 290) none (.ref 129) (.none) 0)), ⟨[]⟩⟩
noncomputable def o131_2 : Obj := ⟨.type "tuple", none, (.seq ⟨[]⟩ 0), ⟨[]⟩⟩
noncomputable def o132_2 : Obj := ⟨.none, none, (.fields ⟨[]⟩), ⟨[]⟩⟩
noncomputable def o133_2 : Obj := ⟨.none, none, (.func (fQ (topS 19) "wrong_sign" "wrong_sign" 0 [] (.none) (.none) (.none) (.none) none (.none) (.none) 0)), ⟨[]⟩⟩
noncomputable def o134_2 : Obj := ⟨.type "code", none, (.fields ⟨[.str "wrong_sign" 351, .str "wrong_sign" 352, .str "/claim/cut.py" 353, .int 46 0, .int 1 0, .int 0 0, .int 0 0, .int 3 0, .ref 131, .bool true, .int 181 0, .ref 132, .none, .none, .none, .ref 133, .int 354 0, .int 46 0, .str "/claim/cut.py" 355]⟩), ⟨[]⟩⟩
noncomputable def o135_2 : Obj := ⟨.type "function", none, (.func (fQ (topS 19) "wrong_sign" "wrong_sign" 3 [] (.none) (.none) (.none) (.str "frametongue.words" 337) none (.ref 134) (.none) 0)), ⟨[]⟩⟩
noncomputable def o136_2 : Obj := ⟨.type "tuple", none, (.seq ⟨[]⟩ 0), ⟨[]⟩⟩
noncomputable def o137_2 : Obj := ⟨.none, none, (.fields ⟨[]⟩), ⟨[]⟩⟩
noncomputable def o138_2 : Obj := ⟨.type "tuple", none, (.seq ⟨[.str "sign" 360]⟩ 0), ⟨[]⟩⟩
noncomputable def o139_2 : Obj := ⟨.type "tuple", none, (.seq ⟨[]⟩ 0), ⟨[]⟩⟩
noncomputable def o140_2 : Obj := ⟨.none, none, (.func (fQ (topS 20) "sort_of" "sort_of" 0 [] (.none) (.none) (.none) (.none) none (.none) (.none) 0)), ⟨[]⟩⟩
noncomputable def o141_2 : Obj := ⟨.type "code", none, (.fields ⟨[.str "sort_of" 357, .str "sort_of" 358, .str "/claim/cut.py" 359, .int 49 0, .int 1 0, .int 0 0, .int 0 0, .int 3 0, .ref 136, .bool true, .int 181 0, .ref 137, .none, .ref 138, .ref 139, .ref 140, .int 361 0, .int 49 0, .str "/claim/cut.py" 362]⟩), ⟨[]⟩⟩
noncomputable def o142_2 : Obj := ⟨.type "function", none, (.func (fQ (topS 20) "sort_of" "sort_of" 3 [] (.none) (.none) (.none) (.str "frametongue.words" 337) none (.ref 141) (.none) 0)), ⟨[]⟩⟩
noncomputable def o143_2 : Obj := ⟨.type "tuple", none, (.seq ⟨[]⟩ 0), ⟨[]⟩⟩
noncomputable def o144_2 : Obj := ⟨.none, none, (.fields ⟨[]⟩), ⟨[]⟩⟩
noncomputable def o145_2 : Obj := ⟨.type "tuple", none, (.seq ⟨[.str "row" 367, .str "found" 368, .str "at" 369, .str "begin" 370, .str "sort" 371]⟩ 0), ⟨[]⟩⟩
noncomputable def o146_2 : Obj := ⟨.type "tuple", none, (.seq ⟨[]⟩ 0), ⟨[]⟩⟩
noncomputable def o147_2 : Obj := ⟨.none, none, (.func (fQ (topS 21) "row_words" "row_words" 0 [] (.none) (.none) (.none) (.none) none (.none) (.none) 0)), ⟨[]⟩⟩
noncomputable def o148_2 : Obj := ⟨.type "code", none, (.fields ⟨[.str "row_words" 364, .str "row_words" 365, .str "/claim/cut.py" 366, .int 53 0, .int 1 0, .int 0 0, .int 0 0, .int 3 0, .ref 143, .bool true, .int 181 0, .ref 144, .none, .ref 145, .ref 146, .ref 147, .int 372 0, .int 53 0, .str "/claim/cut.py" 373]⟩), ⟨[]⟩⟩
noncomputable def o149_2 : Obj := ⟨.type "function", none, (.func (fQ (topS 21) "row_words" "row_words" 3 [] (.none) (.none) (.none) (.str "frametongue.words" 337) none (.ref 148) (.none) 0)), ⟨[]⟩⟩
noncomputable def o150_2 : Obj := ⟨.type "tuple", none, (.seq ⟨[]⟩ 0), ⟨[]⟩⟩
noncomputable def o151_2 : Obj := ⟨.none, none, (.fields ⟨[]⟩), ⟨[]⟩⟩
noncomputable def o152_2 : Obj := ⟨.none, none, (.func (fQ (topS 22) "is_run_of" "is_run_of" 0 [] (.none) (.none) (.none) (.none) none (.none) (.none) 0)), ⟨[]⟩⟩
noncomputable def o153_2 : Obj := ⟨.type "code", none, (.fields ⟨[.str "is_run_of" 375, .str "is_run_of" 376, .str "/claim/cut.py" 377, .int 63 0, .int 2 0, .int 0 0, .int 0 0, .int 3 0, .ref 150, .bool true, .int 181 0, .ref 151, .none, .none, .none, .ref 152, .int 378 0, .int 63 0, .str "/claim/cut.py" 379]⟩), ⟨[]⟩⟩
noncomputable def o154_2 : Obj := ⟨.type "function", none, (.func (fQ (topS 22) "is_run_of" "is_run_of" 3 [] (.none) (.none) (.none) (.str "frametongue.words" 337) none (.ref 153) (.none) 0)), ⟨[]⟩⟩
noncomputable def o155_2 : Obj := ⟨.type "tuple", none, (.seq ⟨[]⟩ 0), ⟨[]⟩⟩
noncomputable def o156_2 : Obj := ⟨.none, none, (.fields ⟨[]⟩), ⟨[]⟩⟩
noncomputable def o157_2 : Obj := ⟨.type "tuple", none, (.seq ⟨[.str "text" 384]⟩ 0), ⟨[]⟩⟩
noncomputable def o158_2 : Obj := ⟨.type "tuple", none, (.seq ⟨[]⟩ 0), ⟨[]⟩⟩
noncomputable def o159_2 : Obj := ⟨.none, none, (.func (fQ (topS 23) "is_any_name" "is_any_name" 0 [] (.none) (.none) (.none) (.none) none (.none) (.none) 0)), ⟨[]⟩⟩
noncomputable def o160_2 : Obj := ⟨.type "code", none, (.fields ⟨[.str "is_any_name" 381, .str "is_any_name" 382, .str "/claim/cut.py" 383, .int 65 0, .int 1 0, .int 0 0, .int 0 0, .int 3 0, .ref 155, .bool true, .int 181 0, .ref 156, .none, .ref 157, .ref 158, .ref 159, .int 385 0, .int 65 0, .str "/claim/cut.py" 386]⟩), ⟨[]⟩⟩
noncomputable def o161_2 : Obj := ⟨.type "function", none, (.func (fQ (topS 23) "is_any_name" "is_any_name" 3 [] (.none) (.none) (.none) (.str "frametongue.words" 337) none (.ref 160) (.none) 0)), ⟨[]⟩⟩
noncomputable def o162_2 : Obj := ⟨.type "tuple", none, (.seq ⟨[]⟩ 0), ⟨[]⟩⟩
noncomputable def o163_2 : Obj := ⟨.none, none, (.fields ⟨[]⟩), ⟨[]⟩⟩
noncomputable def o164_2 : Obj := ⟨.type "tuple", none, (.seq ⟨[.str "text" 391]⟩ 0), ⟨[]⟩⟩
noncomputable def o165_2 : Obj := ⟨.type "tuple", none, (.seq ⟨[]⟩ 0), ⟨[]⟩⟩
noncomputable def o166_2 : Obj := ⟨.none, none, (.func (fQ (topS 24) "is_name_word" "is_name_word" 0 [] (.none) (.none) (.none) (.none) none (.none) (.none) 0)), ⟨[]⟩⟩
noncomputable def o167_2 : Obj := ⟨.type "code", none, (.fields ⟨[.str "is_name_word" 388, .str "is_name_word" 389, .str "/claim/cut.py" 390, .int 67 0, .int 1 0, .int 0 0, .int 0 0, .int 3 0, .ref 162, .bool true, .int 181 0, .ref 163, .none, .ref 164, .ref 165, .ref 166, .int 392 0, .int 67 0, .str "/claim/cut.py" 393]⟩), ⟨[]⟩⟩
noncomputable def o168_2 : Obj := ⟨.type "function", none, (.func (fQ (topS 24) "is_name_word" "is_name_word" 3 [] (.none) (.none) (.none) (.str "frametongue.words" 337) none (.ref 167) (.none) 0)), ⟨[]⟩⟩
noncomputable def o169_2 : Obj := ⟨.type "tuple", none, (.seq ⟨[]⟩ 0), ⟨[]⟩⟩
noncomputable def o170_2 : Obj := ⟨.none, none, (.fields ⟨[]⟩), ⟨[]⟩⟩
noncomputable def o171_2 : Obj := ⟨.type "tuple", none, (.seq ⟨[.str "text" 398]⟩ 0), ⟨[]⟩⟩
noncomputable def o172_2 : Obj := ⟨.type "tuple", none, (.seq ⟨[]⟩ 0), ⟨[]⟩⟩
noncomputable def o173_2 : Obj := ⟨.none, none, (.func (fQ (topS 25) "is_any_number" "is_any_number" 0 [] (.none) (.none) (.none) (.none) none (.none) (.none) 0)), ⟨[]⟩⟩
noncomputable def o174_2 : Obj := ⟨.type "code", none, (.fields ⟨[.str "is_any_number" 395, .str "is_any_number" 396, .str "/claim/cut.py" 397, .int 69 0, .int 1 0, .int 0 0, .int 0 0, .int 3 0, .ref 169, .bool true, .int 181 0, .ref 170, .none, .ref 171, .ref 172, .ref 173, .int 399 0, .int 69 0, .str "/claim/cut.py" 400]⟩), ⟨[]⟩⟩
noncomputable def o175_2 : Obj := ⟨.type "function", none, (.func (fQ (topS 25) "is_any_number" "is_any_number" 3 [] (.none) (.none) (.none) (.str "frametongue.words" 337) none (.ref 174) (.none) 0)), ⟨[]⟩⟩
noncomputable def o176_2 : Obj := ⟨.type "tuple", none, (.seq ⟨[]⟩ 0), ⟨[]⟩⟩
noncomputable def o177_2 : Obj := ⟨.none, none, (.fields ⟨[]⟩), ⟨[]⟩⟩
noncomputable def o178_2 : Obj := ⟨.type "tuple", none, (.seq ⟨[.str "text" 405]⟩ 0), ⟨[]⟩⟩
noncomputable def o179_2 : Obj := ⟨.type "tuple", none, (.seq ⟨[]⟩ 0), ⟨[]⟩⟩
noncomputable def o180_2 : Obj := ⟨.none, none, (.func (fQ (topS 26) "is_number_word" "is_number_word" 0 [] (.none) (.none) (.none) (.none) none (.none) (.none) 0)), ⟨[]⟩⟩
noncomputable def o181_2 : Obj := ⟨.type "code", none, (.fields ⟨[.str "is_number_word" 402, .str "is_number_word" 403, .str "/claim/cut.py" 404, .int 71 0, .int 1 0, .int 0 0, .int 0 0, .int 3 0, .ref 176, .bool true, .int 181 0, .ref 177, .none, .ref 178, .ref 179, .ref 180, .int 406 0, .int 71 0, .str "/claim/cut.py" 407]⟩), ⟨[]⟩⟩
noncomputable def o182_2 : Obj := ⟨.type "function", none, (.func (fQ (topS 26) "is_number_word" "is_number_word" 3 [] (.none) (.none) (.none) (.str "frametongue.words" 337) none (.ref 181) (.none) 0)), ⟨[]⟩⟩
noncomputable def o183_2 : Obj := ⟨.type "tuple", none, (.seq ⟨[.str "+" 411, .str "-" 412, .str "*" 413, .str "/" 414]⟩ 0), ⟨[]⟩⟩
noncomputable def o184_2 (P : Params) : Obj := ⟨.type "dict", none, (.dict ⟨[⟨PyData.keyHash P "value", .str "value" 424, .int 2 425⟩, ⟨PyData.keyHash P "name", .str "name" 426, .int 2 427⟩, ⟨PyData.keyHash P "call", .str "call" 428, .int 3 429⟩, ⟨PyData.keyHash P "minus", .str "minus" 430, .int 2 431⟩, ⟨PyData.keyHash P "+", .str "+" 432, .int 3 433⟩, ⟨PyData.keyHash P "-", .str "-" 434, .int 3 435⟩, ⟨PyData.keyHash P "*", .str "*" 436, .int 3 437⟩, ⟨PyData.keyHash P "/", .str "/" 438, .int 3 439⟩, ⟨PyData.keyHash P "power", .str "power" 440, .int 3 441⟩]⟩ 9), ⟨[]⟩⟩
noncomputable def o185_2 : Obj := ⟨.type "tuple", none, (.seq ⟨[.str "point" 452, .str "arrow" 453, .str "number" 454]⟩ 0), ⟨[]⟩⟩
noncomputable def o186_2 : Obj := ⟨.type "tuple", none, (.seq ⟨[]⟩ 0), ⟨[]⟩⟩
noncomputable def o187_2 : Obj := ⟨.none, none, (.fields ⟨[]⟩), ⟨[]⟩⟩
noncomputable def o188_2 : Obj := ⟨.type "tuple", none, (.seq ⟨[.str "value" 459]⟩ 0), ⟨[]⟩⟩
noncomputable def o189_2 : Obj := ⟨.type "tuple", none, (.seq ⟨[]⟩ 0), ⟨[]⟩⟩
noncomputable def o190_2 : Obj := ⟨.none, none, (.func (fQ (topS 35) "is_name" "is_name" 0 [] (.none) (.none) (.none) (.none) none (.none) (.none) 0)), ⟨[]⟩⟩
noncomputable def o191_2 : Obj := ⟨.type "code", none, (.fields ⟨[.str "is_name" 456, .str "is_name" 457, .str "/claim/cut.py" 458, .int 81 0, .int 1 0, .int 0 0, .int 0 0, .int 3 0, .ref 186, .bool true, .int 181 0, .ref 187, .none, .ref 188, .ref 189, .ref 190, .int 460 0, .int 81 0, .str "/claim/cut.py" 461]⟩), ⟨[]⟩⟩
noncomputable def o192_2 : Obj := ⟨.type "function", none, (.func (fQ (topS 35) "is_name" "is_name" 3 [] (.none) (.none) (.none) (.str "frametongue.trees" 409) none (.ref 191) (.none) 0)), ⟨[]⟩⟩
noncomputable def o193_2 : Obj := ⟨.type "tuple", none, (.seq ⟨[]⟩ 0), ⟨[]⟩⟩
noncomputable def o194_2 : Obj := ⟨.none, none, (.fields ⟨[]⟩), ⟨[]⟩⟩
noncomputable def o195_2 : Obj := ⟨.type "tuple", none, (.seq ⟨[.str "value" 466, .str "sizes" 467]⟩ 0), ⟨[]⟩⟩
noncomputable def o196_2 : Obj := ⟨.type "tuple", none, (.seq ⟨[]⟩ 0), ⟨[]⟩⟩
noncomputable def o197_2 : Obj := ⟨.none, none, (.func (fQ (topS 36) "is_headed" "is_headed" 0 [] (.none) (.none) (.none) (.none) none (.none) (.none) 0)), ⟨[]⟩⟩
noncomputable def o198_2 : Obj := ⟨.type "code", none, (.fields ⟨[.str "is_headed" 463, .str "is_headed" 464, .str "/claim/cut.py" 465, .int 83 0, .int 2 0, .int 0 0, .int 0 0, .int 3 0, .ref 193, .bool true, .int 181 0, .ref 194, .none, .ref 195, .ref 196, .ref 197, .int 468 0, .int 83 0, .str "/claim/cut.py" 469]⟩), ⟨[]⟩⟩
noncomputable def o199_2 : Obj := ⟨.type "function", none, (.func (fQ (topS 36) "is_headed" "is_headed" 3 [] (.none) (.none) (.none) (.str "frametongue.trees" 409) none (.ref 198) (.none) 0)), ⟨[]⟩⟩
noncomputable def o200_2 : Obj := ⟨.type "tuple", none, (.seq ⟨[]⟩ 0), ⟨[]⟩⟩
noncomputable def o201_2 : Obj := ⟨.none, none, (.fields ⟨[]⟩), ⟨[]⟩⟩
noncomputable def o202_2 : Obj := ⟨.type "tuple", none, (.seq ⟨[.str "value" 474]⟩ 0), ⟨[]⟩⟩
noncomputable def o203_2 : Obj := ⟨.type "tuple", none, (.seq ⟨[]⟩ 0), ⟨[]⟩⟩
noncomputable def o204_2 : Obj := ⟨.none, none, (.func (fQ (topS 37) "is_leaf" "is_leaf" 0 [] (.none) (.none) (.none) (.none) none (.none) (.none) 0)), ⟨[]⟩⟩
noncomputable def o205_2 : Obj := ⟨.type "code", none, (.fields ⟨[.str "is_leaf" 471, .str "is_leaf" 472, .str "/claim/cut.py" 473, .int 87 0, .int 1 0, .int 0 0, .int 0 0, .int 3 0, .ref 200, .bool true, .int 181 0, .ref 201, .none, .ref 202, .ref 203, .ref 204, .int 475 0, .int 87 0, .str "/claim/cut.py" 476]⟩), ⟨[]⟩⟩
noncomputable def o206_2 : Obj := ⟨.type "function", none, (.func (fQ (topS 37) "is_leaf" "is_leaf" 3 [] (.none) (.none) (.none) (.str "frametongue.trees" 409) none (.ref 205) (.none) 0)), ⟨[]⟩⟩
noncomputable def o207_2 : Obj := ⟨.type "tuple", none, (.seq ⟨[]⟩ 0), ⟨[]⟩⟩
noncomputable def o208_2 : Obj := ⟨.none, none, (.fields ⟨[]⟩), ⟨[]⟩⟩
noncomputable def o209_2 : Obj := ⟨.type "tuple", none, (.seq ⟨[.str "value" 481]⟩ 0), ⟨[]⟩⟩
noncomputable def o210_2 : Obj := ⟨.type "tuple", none, (.seq ⟨[]⟩ 0), ⟨[]⟩⟩
noncomputable def o211_2 : Obj := ⟨.none, none, (.func (fQ (topS 38) "is_branch" "is_branch" 0 [] (.none) (.none) (.none) (.none) none (.none) (.none) 0)), ⟨[]⟩⟩
noncomputable def o212_2 : Obj := ⟨.type "code", none, (.fields ⟨[.str "is_branch" 478, .str "is_branch" 479, .str "/claim/cut.py" 480, .int 91 0, .int 1 0, .int 0 0, .int 0 0, .int 3 0, .ref 207, .bool true, .int 181 0, .ref 208, .none, .ref 209, .ref 210, .ref 211, .int 482 0, .int 91 0, .str "/claim/cut.py" 483]⟩), ⟨[]⟩⟩
noncomputable def o213_2 : Obj := ⟨.type "function", none, (.func (fQ (topS 38) "is_branch" "is_branch" 3 [] (.none) (.none) (.none) (.str "frametongue.trees" 409) none (.ref 212) (.none) 0)), ⟨[]⟩⟩
noncomputable def o214_2 : Obj := ⟨.type "tuple", none, (.seq ⟨[]⟩ 0), ⟨[]⟩⟩
noncomputable def o215_2 : Obj := ⟨.none, none, (.fields ⟨[]⟩), ⟨[]⟩⟩
noncomputable def o216_2 : Obj := ⟨.type "tuple", none, (.seq ⟨[.str "value" 488, .str "line" 489, .str "at" 490, .str "here" 491]⟩ 0), ⟨[]⟩⟩
noncomputable def o217_2 : Obj := ⟨.type "tuple", none, (.seq ⟨[]⟩ 0), ⟨[]⟩⟩
noncomputable def o218_2 : Obj := ⟨.none, none, (.func (fQ (topS 39) "has_tree_form" "has_tree_form" 0 [] (.none) (.none) (.none) (.none) none (.none) (.none) 0)), ⟨[]⟩⟩
noncomputable def o219_2 : Obj := ⟨.type "code", none, (.fields ⟨[.str "has_tree_form" 485, .str "has_tree_form" 486, .str "/claim/cut.py" 487, .int 97 0, .int 1 0, .int 0 0, .int 0 0, .int 3 0, .ref 214, .bool true, .int 181 0, .ref 215, .none, .ref 216, .ref 217, .ref 218, .int 492 0, .int 97 0, .str "/claim/cut.py" 493]⟩), ⟨[]⟩⟩
noncomputable def o220_2 : Obj := ⟨.type "function", none, (.func (fQ (topS 39) "has_tree_form" "has_tree_form" 3 [] (.none) (.none) (.none) (.str "frametongue.trees" 409) none (.ref 219) (.none) 0)), ⟨[]⟩⟩
noncomputable def o221_2 : Obj := ⟨.type "tuple", none, (.seq ⟨[]⟩ 0), ⟨[]⟩⟩
noncomputable def o222_2 : Obj := ⟨.none, none, (.fields ⟨[]⟩), ⟨[]⟩⟩
noncomputable def o223_2 : Obj := ⟨.type "tuple", none, (.seq ⟨[.str "tree" 498]⟩ 0), ⟨[]⟩⟩
noncomputable def o224_2 : Obj := ⟨.type "tuple", none, (.seq ⟨[]⟩ 0), ⟨[]⟩⟩
noncomputable def o225_2 : Obj := ⟨.none, none, (.func (fQ (topS 40) "parts_of" "parts_of" 0 [] (.none) (.none) (.none) (.none) none (.none) (.none) 0)), ⟨[]⟩⟩
noncomputable def o226_2 : Obj := ⟨.type "code", none, (.fields ⟨[.str "parts_of" 495, .str "parts_of" 496, .str "/claim/cut.py" 497, .int 108 0, .int 1 0, .int 0 0, .int 0 0, .int 3 0, .ref 221, .bool true, .int 181 0, .ref 222, .none, .ref 223, .ref 224, .ref 225, .int 499 0, .int 108 0, .str "/claim/cut.py" 500]⟩), ⟨[]⟩⟩
noncomputable def o227_2 : Obj := ⟨.type "function", none, (.func (fQ (topS 40) "parts_of" "parts_of" 3 [] (.none) (.none) (.none) (.str "frametongue.trees" 409) none (.ref 226) (.none) 0)), ⟨[]⟩⟩
noncomputable def t2 (P : Params) : BT := (.node (o0_0 P) (.node (o1_0 P) (.node (o3_2 P) (.node o7_0 (.node o15_2 (.node o31_2 (.node o63_2 (.node o127_2 .nil .nil) (.node o191_2 .nil .nil)) (.node o95_2 (.node o159_2 .nil .nil) (.node o223_2 .nil .nil))) (.node o47_2 (.node o79_2 (.node o143_2 .nil .nil) (.node o207_2 .nil .nil)) (.node o111_2 (.node o175_2 .nil .nil) .nil))) (.node (o23_2 P) (.node o39_2 (.node o71_2 (.node o135_2 .nil .nil) (.node o199_2 .nil .nil)) (.node o103_2 (.node o167_2 .nil .nil) .nil)) (.node o55_2 (.node (o87_2 P) (.node o151_2 .nil .nil) (.node o215_2 .nil .nil)) (.node o119_2 (.node o183_2 .nil .nil) .nil)))) (.node o11_1 (.node o19_2 (.node o35_2 (.node o67_2 (.node o131_2 .nil .nil) (.node o195_2 .nil .nil)) (.node o99_2 (.node o163_2 .nil .nil) (.node o227_2 .nil .nil))) (.node (o51_2 P) (.node o83_2 (.node o147_2 .nil .nil) (.node o211_2 .nil .nil)) (.node o115_2 (.node o179_2 .nil .nil) .nil))) (.node o27_2 (.node o43_2 (.node o75_2 (.node o139_2 .nil .nil) (.node o203_2 .nil .nil)) (.node o107_2 (.node o171_2 .nil .nil) .nil)) (.node o59_2 (.node o91_2 (.node o155_2 .nil .nil) (.node o219_2 .nil .nil)) (.node o123_2 (.node o187_2 .nil .nil) .nil))))) (.node o5_0 (.node o9_0 (.node (o17_2 P) (.node o33_2 (.node o65_2 (.node o129_2 .nil .nil) (.node o193_2 .nil .nil)) (.node o97_2 (.node o161_2 .nil .nil) (.node o225_2 .nil .nil))) (.node o49_2 (.node o81_2 (.node o145_2 .nil .nil) (.node o209_2 .nil .nil)) (.node o113_2 (.node o177_2 .nil .nil) .nil))) (.node o25_2 (.node o41_2 (.node o73_2 (.node o137_2 .nil .nil) (.node o201_2 .nil .nil)) (.node o105_2 (.node o169_2 .nil .nil) .nil)) (.node o57_2 (.node o89_2 (.node o153_2 .nil .nil) (.node o217_2 .nil .nil)) (.node o121_2 (.node o185_2 .nil .nil) .nil)))) (.node o13_1 (.node o21_2 (.node o37_2 (.node o69_2 (.node o133_2 .nil .nil) (.node o197_2 .nil .nil)) (.node o101_2 (.node o165_2 .nil .nil) .nil)) (.node o53_2 (.node o85_2 (.node o149_2 .nil .nil) (.node o213_2 .nil .nil)) (.node o117_2 (.node o181_2 .nil .nil) .nil))) (.node o29_2 (.node (o45_2 P) (.node o77_2 (.node o141_2 .nil .nil) (.node o205_2 .nil .nil)) (.node o109_2 (.node o173_2 .nil .nil) .nil)) (.node o61_2 (.node o93_2 (.node o157_2 .nil .nil) (.node o221_2 .nil .nil)) (.node o125_2 (.node o189_2 .nil .nil) .nil)))))) (.node o2_0 (.node o4_0 (.node o8_0 (.node o16_2 (.node o32_2 (.node o64_2 (.node o128_2 .nil .nil) (.node o192_2 .nil .nil)) (.node o96_2 (.node o160_2 .nil .nil) (.node o224_2 .nil .nil))) (.node o48_2 (.node o80_2 (.node o144_2 .nil .nil) (.node o208_2 .nil .nil)) (.node o112_2 (.node o176_2 .nil .nil) .nil))) (.node o24_2 (.node o40_2 (.node (o72_2 P) (.node o136_2 .nil .nil) (.node o200_2 .nil .nil)) (.node o104_2 (.node o168_2 .nil .nil) .nil)) (.node o56_2 (.node o88_2 (.node o152_2 .nil .nil) (.node o216_2 .nil .nil)) (.node o120_2 (.node (o184_2 P) .nil .nil) .nil)))) (.node o12_2 (.node o20_2 (.node o36_2 (.node o68_2 (.node o132_2 .nil .nil) (.node o196_2 .nil .nil)) (.node o100_2 (.node o164_2 .nil .nil) .nil)) (.node o52_2 (.node o84_2 (.node o148_2 .nil .nil) (.node o212_2 .nil .nil)) (.node o116_2 (.node o180_2 .nil .nil) .nil))) (.node o28_2 (.node o44_2 (.node o76_2 (.node o140_2 .nil .nil) (.node o204_2 .nil .nil)) (.node o108_2 (.node o172_2 .nil .nil) .nil)) (.node o60_2 (.node o92_2 (.node o156_2 .nil .nil) (.node o220_2 .nil .nil)) (.node o124_2 (.node o188_2 .nil .nil) .nil))))) (.node o6_0 (.node o10_0 (.node o18_2 (.node o34_2 (.node (o66_2 P) (.node o130_2 .nil .nil) (.node o194_2 .nil .nil)) (.node o98_2 (.node o162_2 .nil .nil) (.node o226_2 .nil .nil))) (.node o50_2 (.node o82_2 (.node o146_2 .nil .nil) (.node o210_2 .nil .nil)) (.node o114_2 (.node o178_2 .nil .nil) .nil))) (.node o26_2 (.node o42_2 (.node o74_2 (.node o138_2 .nil .nil) (.node o202_2 .nil .nil)) (.node o106_2 (.node o170_2 .nil .nil) .nil)) (.node o58_2 (.node o90_2 (.node o154_2 .nil .nil) (.node o218_2 .nil .nil)) (.node o122_2 (.node o186_2 .nil .nil) .nil)))) (.node o14_1 (.node o22_2 (.node o38_2 (.node o70_2 (.node o134_2 .nil .nil) (.node o198_2 .nil .nil)) (.node o102_2 (.node o166_2 .nil .nil) .nil)) (.node o54_2 (.node o86_2 (.node o150_2 .nil .nil) (.node o214_2 .nil .nil)) (.node o118_2 (.node o182_2 .nil .nil) .nil))) (.node (o30_2 P) (.node o46_2 (.node o78_2 (.node o142_2 .nil .nil) (.node o206_2 .nil .nil)) (.node o110_2 (.node o174_2 .nil .nil) .nil)) (.node o62_2 (.node o94_2 (.node o158_2 .nil .nil) (.node o222_2 .nil .nil)) (.node o126_2 (.node o190_2 .nil .nil) .nil)))))))
noncomputable def o3_3 (P : Params) : Obj := ⟨.type "dict", none, (.dict ⟨[⟨PyData.keyHash P "__name__", .str "__name__" 165, .str "law_frametongue_k02_whole_trees_told_and_rea" 869⟩, ⟨PyData.keyHash P "__doc__", .str "__doc__" 166, .none⟩, ⟨PyData.keyHash P "__package__", .str "__package__" 167, .none⟩, ⟨PyData.keyHash P "__loader__", .str "__loader__" 168, .builtin "__main__.__loader__#opaque"⟩, ⟨PyData.keyHash P "__spec__", .str "__spec__" 169, .none⟩, ⟨PyData.keyHash P "__annotations__", .str "__annotations__" 170, .ref 6⟩, ⟨PyData.keyHash P "__builtins__", .str "__builtins__" 171, .ref 4⟩, ⟨PyData.keyHash P "__file__", .str "__file__" 173, .str "/claim/cut.py" 172⟩, ⟨PyData.keyHash P "__cached__", .str "__cached__" 174, .none⟩, ⟨PyData.keyHash P "FrameError", .str "FrameError" 206, .ref 24⟩, ⟨PyData.keyHash P "InvalidText", .str "InvalidText" 233, .ref 46⟩, ⟨PyData.keyHash P "InvalidTree", .str "InvalidTree" 260, .ref 67⟩, ⟨PyData.keyHash P "NotWellRead", .str "NotWellRead" 289, .ref 88⟩, ⟨PyData.keyHash P "is_whole", .str "is_whole" 298, .ref 97⟩, ⟨PyData.keyHash P "is_between", .str "is_between" 307, .ref 104⟩, ⟨PyData.keyHash P "is_string", .str "is_string" 314, .ref 111⟩, ⟨PyData.keyHash P "is_row", .str "is_row" 323, .ref 118⟩, ⟨PyData.keyHash P "are_same", .str "are_same" 329, .ref 123⟩, ⟨PyData.keyHash P "is_simple", .str "is_simple" 336, .ref 130⟩, ⟨PyData.keyHash P "LETTERS", .str "LETTERS" 340, .str "abcdefghijklmnopqrstuvwxyz" 339⟩, ⟨PyData.keyHash P "FIGURES", .str "FIGURES" 342, .str "0123456789" 341⟩, ⟨PyData.keyHash P "OTHERS", .str "OTHERS" 344, .str "+-*/^(),=" 343⟩, ⟨PyData.keyHash P "BLANK", .str "BLANK" 346, .str " " 345⟩, ⟨PyData.keyHash P "MOST_LETTERS", .str "MOST_LETTERS" 348, .int 8 347⟩, ⟨PyData.keyHash P "MOST_FIGURES", .str "MOST_FIGURES" 350, .int 6 349⟩, ⟨PyData.keyHash P "wrong_sign", .str "wrong_sign" 356, .ref 135⟩, ⟨PyData.keyHash P "sort_of", .str "sort_of" 363, .ref 142⟩, ⟨PyData.keyHash P "row_words", .str "row_words" 374, .ref 149⟩, ⟨PyData.keyHash P "is_run_of", .str "is_run_of" 380, .ref 154⟩, ⟨PyData.keyHash P "is_any_name", .str "is_any_name" 387, .ref 161⟩, ⟨PyData.keyHash P "is_name_word", .str "is_name_word" 394, .ref 168⟩, ⟨PyData.keyHash P "is_any_number", .str "is_any_number" 401, .ref 175⟩, ⟨PyData.keyHash P "is_number_word", .str "is_number_word" 408, .ref 182⟩, ⟨PyData.keyHash P "DEEDS", .str "DEEDS" 415, .ref 183⟩, ⟨PyData.keyHash P "MOST_PLACES", .str "MOST_PLACES" 417, .int 40 416⟩, ⟨PyData.keyHash P "MOST_NUMBER", .str "MOST_NUMBER" 419, .int 999999 418⟩, ⟨PyData.keyHash P "MOST_POWER", .str "MOST_POWER" 421, .int 4 420⟩, ⟨PyData.keyHash P "MOST_OWN", .str "MOST_OWN" 423, .int 3 422⟩, ⟨PyData.keyHash P "SIZES", .str "SIZES" 451, .ref 184⟩, ⟨PyData.keyHash P "GIVEN_HEADS", .str "GIVEN_HEADS" 455, .ref 185⟩, ⟨PyData.keyHash P "is_name", .str "is_name" 462, .ref 192⟩, ⟨PyData.keyHash P "is_headed", .str "is_headed" 470, .ref 199⟩, ⟨PyData.keyHash P "is_leaf", .str "is_leaf" 477, .ref 206⟩, ⟨PyData.keyHash P "is_branch", .str "is_branch" 484, .ref 213⟩, ⟨PyData.keyHash P "has_tree_form", .str "has_tree_form" 494, .ref 220⟩, ⟨PyData.keyHash P "parts_of", .str "parts_of" 501, .ref 227⟩, ⟨PyData.keyHash P "MOST_DEEP", .str "MOST_DEEP" 505, .int 12 504⟩, ⟨PyData.keyHash P "SIGN", .str "SIGN" 507, .str "sign" 506⟩, ⟨PyData.keyHash P "FORM", .str "FORM" 509, .str "form" 508⟩, ⟨PyData.keyHash P "RowParser", .str "RowParser" 707, .ref 369⟩, ⟨PyData.keyHash P "ReadRow", .str "ReadRow" 745, .ref 390⟩, ⟨PyData.keyHash P "column_behind", .str "column_behind" 754, .ref 401⟩, ⟨PyData.keyHash P "read_by", .str "read_by" 767, .ref 408⟩, ⟨PyData.keyHash P "row_by", .str "row_by" 774, .ref 415⟩, ⟨PyData.keyHash P "sum_by", .str "sum_by" 781, .ref 422⟩, ⟨PyData.keyHash P "SUM", .str "SUM" 785, .int 0 784⟩, ⟨PyData.keyHash P "TERM", .str "TERM" 787, .int 1 786⟩, ⟨PyData.keyHash P "POWER", .str "POWER" 789, .int 2 788⟩, ⟨PyData.keyHash P "ATOM", .str "ATOM" 791, .int 3 790⟩, ⟨PyData.keyHash P "at_least", .str "at_least" 799, .ref 429⟩, ⟨PyData.keyHash P "deed_text", .str "deed_text" 809, .ref 436⟩, ⟨PyData.keyHash P "leveled", .str "leveled" 815, .ref 441⟩, ⟨PyData.keyHash P "sum_text", .str "sum_text" 822, .ref 448⟩, ⟨PyData.keyHash P "check_text", .str "check_text" 831, .ref 455⟩, ⟨PyData.keyHash P "own_tree", .str "own_tree" 838, .ref 462⟩, ⟨PyData.keyHash P "read_row", .str "read_row" 845, .ref 469⟩, ⟨PyData.keyHash P "read_tree", .str "read_tree" 852, .ref 476⟩, ⟨PyData.keyHash P "is_tree", .str "is_tree" 861, .ref 483⟩, ⟨PyData.keyHash P "tree_text", .str "tree_text" 868, .ref 490⟩, ⟨PyData.keyHash P "_law_purse", .str "_law_purse" 881, .ref 497⟩, ⟨PyData.keyHash P "_law_take", .str "_law_take" 892, .ref 504⟩, ⟨PyData.keyHash P "_law_pick", .str "_law_pick" 900, .ref 511⟩, ⟨PyData.keyHash P "_law_same", .str "_law_same" 908, .ref 518⟩, ⟨PyData.keyHash P "_law_name_of", .str "_law_name_of" 917, .ref 525⟩, ⟨PyData.keyHash P "_law_tree", .str "_law_tree" 928, .ref 532⟩, ⟨PyData.keyHash P "_law_program", .str "_law_program" 934, .ref 537⟩, ⟨PyData.keyHash P "_law_within", .str "_law_within" 942, .ref 544⟩, ⟨PyData.keyHash P "_law_row_text", .str "_law_row_text" 948, .ref 549⟩, ⟨PyData.keyHash P "_law_rows_text", .str "_law_rows_text" 954, .ref 554⟩, ⟨PyData.keyHash P "_law_text", .str "_law_text" 960, .ref 559⟩, ⟨PyData.keyHash P "_law_any", .str "_law_any" 974, .ref 566⟩, ⟨PyData.keyHash P "_law_blank", .str "_law_blank" 981, .ref 573⟩, ⟨PyData.keyHash P "_law_glued", .str "_law_glued" 991, .ref 580⟩, ⟨PyData.keyHash P "_law_wrapped", .str "_law_wrapped" 1000, .ref 587⟩]⟩ 84), ⟨[]⟩⟩
noncomputable def o12_3 : Obj := ⟨.none, none, (.fields ⟨[.int 2 0, .int 0 0, .ref 20, .int 4 0, .int 0 0, .ref 34, .int 9 0, .int 0 0, .ref 55, .int 14 0, .int 0 0, .ref 76, .int 21 0, .int 0 0, .ref 96, .int 23 0, .int 0 0, .ref 103, .int 25 0, .int 0 0, .ref 110, .int 27 0, .int 0 0, .ref 117, .int 29 0, .int 0 0, .ref 122, .int 37 0, .int 0 0, .ref 129, .int 46 0, .int 0 0, .ref 134, .int 49 0, .int 0 0, .ref 141, .int 53 0, .int 0 0, .ref 148, .int 63 0, .int 0 0, .ref 153, .int 65 0, .int 0 0, .ref 160, .int 67 0, .int 0 0, .ref 167, .int 69 0, .int 0 0, .ref 174, .int 71 0, .int 0 0, .ref 181, .int 81 0, .int 0 0, .ref 191, .int 83 0, .int 0 0, .ref 198, .int 87 0, .int 0 0, .ref 205, .int 91 0, .int 0 0, .ref 212, .int 97 0, .int 0 0, .ref 219, .int 108 0, .int 0 0, .ref 226, .int 118 0, .int 0 0, .ref 233, .int 263 0, .int 0 0, .ref 379, .int 271 0, .int 0 0, .ref 400, .int 273 0, .int 0 0, .ref 407, .int 289 0, .int 0 0, .ref 414, .int 291 0, .int 0 0, .ref 421, .int 298 0, .int 0 0, .ref 428, .int 300 0, .int 0 0, .ref 435, .int 303 0, .int 0 0, .ref 440, .int 313 0, .int 0 0, .ref 447, .int 316 0, .int 0 0, .ref 454, .int 319 0, .int 0 0, .ref 461, .int 323 0, .int 0 0, .ref 468, .int 326 0, .int 0 0, .ref 475, .int 330 0, .int 0 0, .ref 482, .int 332 0, .int 0 0, .ref 489, .int 337 0, .int 0 0, .ref 496, .int 343 0, .int 0 0, .ref 503, .int 351 0, .int 0 0, .ref 510, .int 353 0, .int 0 0, .ref 517, .int 355 0, .int 0 0, .ref 524, .int 357 0, .int 0 0, .ref 531, .int 373 0, .int 0 0, .ref 536, .int 378 0, .int 0 0, .ref 543, .int 380 0, .int 0 0, .ref 548, .int 397 0, .int 0 0, .ref 553, .int 403 0, .int 0 0, .ref 558, .int 405 0, .int 0 0, .ref 565, .int 431 0, .int 0 0, .ref 572, .int 433 0, .int 0 0, .ref 579, .int 438 0, .int 0 0, .ref 586]⟩), ⟨[]⟩⟩
noncomputable def o228_3 : Obj := ⟨.type "tuple", none, (.seq ⟨[]⟩ 0), ⟨[]⟩⟩
noncomputable def o229_3 : Obj := ⟨.type "builtin_function_or_method", none, (.fields ⟨[.builtin "type.__prepare__", .type "type"]⟩), ⟨[]⟩⟩
noncomputable def o230_3 (P : Params) : Obj := ⟨.type "dict", none, (.dict ⟨[⟨PyData.keyHash P "__module__", .str "__module__" 517, .str "frametongue.parsing" 502⟩, ⟨PyData.keyHash P "__qualname__", .str "__qualname__" 519, .str "RowParser" 518⟩, ⟨PyData.keyHash P "__firstlineno__", .str "__firstlineno__" 521, .int 118 520⟩, ⟨PyData.keyHash P "__init__", .str "__init__" 529, .ref 241⟩, ⟨PyData.keyHash P "word", .str "word" 536, .ref 248⟩, ⟨PyData.keyHash P "takes", .str "takes" 544, .ref 255⟩, ⟨PyData.keyHash P "bound", .str "bound" 552, .ref 262⟩, ⟨PyData.keyHash P "any_name", .str "any_name" 561, .ref 269⟩, ⟨PyData.keyHash P "any_number", .str "any_number" 571, .ref 277⟩, ⟨PyData.keyHash P "sited", .str "sited" 581, .ref 284⟩, ⟨PyData.keyHash P "any_sum", .str "any_sum" 591, .ref 291⟩, ⟨PyData.keyHash P "any_term", .str "any_term" 600, .ref 298⟩, ⟨PyData.keyHash P "deed", .str "deed" 612, .ref 305⟩, ⟨PyData.keyHash P "any_power", .str "any_power" 622, .ref 312⟩, ⟨PyData.keyHash P "any_atom", .str "any_atom" 632, .ref 319⟩, ⟨PyData.keyHash P "called", .str "called" 638, .ref 324⟩, ⟨PyData.keyHash P "bracketed", .str "bracketed" 647, .ref 331⟩, ⟨PyData.keyHash P "whole_sum", .str "whole_sum" 655, .ref 338⟩, ⟨PyData.keyHash P "any_row", .str "any_row" 665, .ref 345⟩, ⟨PyData.keyHash P "ended", .str "ended" 674, .ref 352⟩, ⟨PyData.keyHash P "equal", .str "equal" 684, .ref 359⟩, ⟨PyData.keyHash P "rule_row", .str "rule_row" 693, .ref 366⟩, ⟨PyData.keyHash P "__static_attributes__", .str "__static_attributes__" 700, .ref 367⟩]⟩ 23), ⟨[]⟩⟩
noncomputable def o231_3 : Obj := ⟨.type "tuple", none, (.seq ⟨[]⟩ 0), ⟨[]⟩⟩
noncomputable def o232_3 : Obj := ⟨.none, none, (.fields ⟨[.int 120 0, .int 4 0, .ref 240, .int 128 0, .int 4 0, .ref 247, .int 131 0, .int 4 0, .ref 254, .int 137 0, .int 4 0, .ref 261, .int 140 0, .int 4 0, .ref 268, .int 149 0, .int 4 0, .ref 276, .int 158 0, .int 4 0, .ref 283, .int 163 0, .int 4 0, .ref 290, .int 173 0, .int 4 0, .ref 297, .int 180 0, .int 4 0, .ref 304, .int 186 0, .int 4 0, .ref 311, .int 194 0, .int 4 0, .ref 318, .int 208 0, .int 4 0, .ref 323, .int 217 0, .int 4 0, .ref 330, .int 227 0, .int 4 0, .ref 337, .int 231 0, .int 4 0, .ref 344, .int 246 0, .int 4 0, .ref 351, .int 249 0, .int 4 0, .ref 358, .int 253 0, .int 4 0, .ref 365]⟩), ⟨[]⟩⟩
noncomputable def o233_3 : Obj := ⟨.type "code", none, (.fields ⟨[.str "RowParser" 512, .str "RowParser" 513, .str "/claim/cut.py" 514, .int 118 0, .int 0 0, .int 0 0, .int 0 0, .int 0 0, .ref 231, .bool false, .int 181 0, .ref 232, .none, .none, .none, .none, .int 515 0, .int 118 0, .str "/claim/cut.py" 516]⟩), ⟨[]⟩⟩
noncomputable def o234_3 : Obj := ⟨.type "frame", none, .plain, ⟨[(some (.ref 233)), (some (.ref 3)), (some (.ref 230)), none, (some (.str "frametongue.parsing" 502)), none, (some (.ref 0))]⟩⟩
noncomputable def o235_3 : Obj := ⟨.type "tuple", none, (.seq ⟨[]⟩ 0), ⟨[]⟩⟩
noncomputable def o236_3 : Obj := ⟨.none, none, (.fields ⟨[]⟩), ⟨[]⟩⟩
noncomputable def o237_3 : Obj := ⟨.type "tuple", none, (.seq ⟨[.str "self" 525, .str "words" 526]⟩ 0), ⟨[]⟩⟩
noncomputable def o238_3 : Obj := ⟨.type "tuple", none, (.seq ⟨[]⟩ 0), ⟨[]⟩⟩
noncomputable def o239_3 : Obj := ⟨.none, none, (.func (fQ (inClass (topS 45) 0) "__init__" "RowParser.__init__" 0 [] (.none) (.none) (.none) (.none) none (.none) (.none) 0)), ⟨[]⟩⟩
noncomputable def o240_3 : Obj := ⟨.type "code", none, (.fields ⟨[.str "__init__" 522, .str "RowParser.__init__" 523, .str "/claim/cut.py" 524, .int 120 0, .int 2 0, .int 0 0, .int 0 0, .int 3 0, .ref 235, .bool true, .int 181 0, .ref 236, .none, .ref 237, .ref 238, .ref 239, .int 527 0, .int 120 0, .str "/claim/cut.py" 528]⟩), ⟨[]⟩⟩
noncomputable def o241_3 : Obj := ⟨.type "function", none, (.func (fQ (inClass (topS 45) 0) "__init__" "RowParser.__init__" 3 [] (.none) (.none) (.none) (.str "frametongue.parsing" 502) none (.ref 240) (.none) 0)), ⟨[]⟩⟩
noncomputable def o242_3 : Obj := ⟨.type "tuple", none, (.seq ⟨[]⟩ 0), ⟨[]⟩⟩
noncomputable def o243_3 : Obj := ⟨.none, none, (.fields ⟨[]⟩), ⟨[]⟩⟩
noncomputable def o244_3 : Obj := ⟨.type "tuple", none, (.seq ⟨[.str "self" 533]⟩ 0), ⟨[]⟩⟩
noncomputable def o245_3 : Obj := ⟨.type "tuple", none, (.seq ⟨[]⟩ 0), ⟨[]⟩⟩
noncomputable def o246_3 : Obj := ⟨.none, none, (.func (fQ (inClass (topS 45) 1) "word" "RowParser.word" 0 [] (.none) (.none) (.none) (.none) none (.none) (.none) 0)), ⟨[]⟩⟩
noncomputable def o247_3 : Obj := ⟨.type "code", none, (.fields ⟨[.str "word" 530, .str "RowParser.word" 531, .str "/claim/cut.py" 532, .int 128 0, .int 1 0, .int 0 0, .int 0 0, .int 3 0, .ref 242, .bool true, .int 181 0, .ref 243, .none, .ref 244, .ref 245, .ref 246, .int 534 0, .int 128 0, .str "/claim/cut.py" 535]⟩), ⟨[]⟩⟩
noncomputable def o248_3 : Obj := ⟨.type "function", none, (.func (fQ (inClass (topS 45) 1) "word" "RowParser.word" 3 [] (.none) (.none) (.none) (.str "frametongue.parsing" 502) none (.ref 247) (.none) 0)), ⟨[]⟩⟩
noncomputable def o249_3 : Obj := ⟨.type "tuple", none, (.seq ⟨[]⟩ 0), ⟨[]⟩⟩
noncomputable def o250_3 : Obj := ⟨.none, none, (.fields ⟨[]⟩), ⟨[]⟩⟩
noncomputable def o251_3 : Obj := ⟨.type "tuple", none, (.seq ⟨[.str "self" 540, .str "text" 541]⟩ 0), ⟨[]⟩⟩
noncomputable def o252_3 : Obj := ⟨.type "tuple", none, (.seq ⟨[]⟩ 0), ⟨[]⟩⟩
noncomputable def o253_3 : Obj := ⟨.none, none, (.func (fQ (inClass (topS 45) 2) "takes" "RowParser.takes" 0 [] (.none) (.none) (.none) (.none) none (.none) (.none) 0)), ⟨[]⟩⟩
noncomputable def o254_3 : Obj := ⟨.type "code", none, (.fields ⟨[.str "takes" 537, .str "RowParser.takes" 538, .str "/claim/cut.py" 539, .int 131 0, .int 2 0, .int 0 0, .int 0 0, .int 3 0, .ref 249, .bool true, .int 181 0, .ref 250, .none, .ref 251, .ref 252, .ref 253, .int 542 0, .int 131 0, .str "/claim/cut.py" 543]⟩), ⟨[]⟩⟩
noncomputable def o255_3 : Obj := ⟨.type "function", none, (.func (fQ (inClass (topS 45) 2) "takes" "RowParser.takes" 3 [] (.none) (.none) (.none) (.str "frametongue.parsing" 502) none (.ref 254) (.none) 0)), ⟨[]⟩⟩
noncomputable def o256_3 : Obj := ⟨.type "tuple", none, (.seq ⟨[]⟩ 0), ⟨[]⟩⟩
noncomputable def o257_3 : Obj := ⟨.none, none, (.fields ⟨[]⟩), ⟨[]⟩⟩
noncomputable def o258_3 : Obj := ⟨.type "tuple", none, (.seq ⟨[.str "self" 548, .str "is_right" 549]⟩ 0), ⟨[]⟩⟩
noncomputable def o259_3 : Obj := ⟨.type "tuple", none, (.seq ⟨[]⟩ 0), ⟨[]⟩⟩
noncomputable def o260_3 : Obj := ⟨.none, none, (.func (fQ (inClass (topS 45) 3) "bound" "RowParser.bound" 0 [] (.none) (.none) (.none) (.none) none (.none) (.none) 0)), ⟨[]⟩⟩
noncomputable def o261_3 : Obj := ⟨.type "code", none, (.fields ⟨[.str "bound" 545, .str "RowParser.bound" 546, .str "/claim/cut.py" 547, .int 137 0, .int 2 0, .int 0 0, .int 0 0, .int 3 0, .ref 256, .bool true, .int 181 0, .ref 257, .none, .ref 258, .ref 259, .ref 260, .int 550 0, .int 137 0, .str "/claim/cut.py" 551]⟩), ⟨[]⟩⟩
noncomputable def o262_3 : Obj := ⟨.type "function", none, (.func (fQ (inClass (topS 45) 3) "bound" "RowParser.bound" 3 [] (.none) (.none) (.none) (.str "frametongue.parsing" 502) none (.ref 261) (.none) 0)), ⟨[]⟩⟩
noncomputable def o263_3 : Obj := ⟨.type "tuple", none, (.seq ⟨[]⟩ 0), ⟨[]⟩⟩
noncomputable def o264_3 : Obj := ⟨.none, none, (.fields ⟨[]⟩), ⟨[]⟩⟩
noncomputable def o265_3 : Obj := ⟨.type "tuple", none, (.seq ⟨[.str "self" 556, .str "does" 557, .str "text" 558]⟩ 0), ⟨[]⟩⟩
noncomputable def o266_3 : Obj := ⟨.type "tuple", none, (.seq ⟨[]⟩ 0), ⟨[]⟩⟩
noncomputable def o267_3 : Obj := ⟨.none, none, (.func (fQ (inClass (topS 45) 4) "any_name" "RowParser.any_name" 0 [] (.none) (.none) (.none) (.none) none (.none) (.none) 0)), ⟨[]⟩⟩
noncomputable def o268_3 : Obj := ⟨.type "code", none, (.fields ⟨[.str "any_name" 553, .str "RowParser.any_name" 554, .str "/claim/cut.py" 555, .int 140 0, .int 2 0, .int 0 0, .int 0 0, .int 3 0, .ref 263, .bool true, .int 181 0, .ref 264, .none, .ref 265, .ref 266, .ref 267, .int 559 0, .int 140 0, .str "/claim/cut.py" 560]⟩), ⟨[]⟩⟩
noncomputable def o269_3 : Obj := ⟨.type "function", none, (.func (fQ (inClass (topS 45) 4) "any_name" "RowParser.any_name" 3 [] (.none) (.none) (.none) (.str "frametongue.parsing" 502) none (.ref 268) (.none) 0)), ⟨[]⟩⟩
noncomputable def o270_3 : Obj := ⟨.type "tuple", none, (.seq ⟨[.none]⟩ 0), ⟨[]⟩⟩
noncomputable def o271_3 : Obj := ⟨.type "tuple", none, (.seq ⟨[]⟩ 0), ⟨[]⟩⟩
noncomputable def o272_3 : Obj := ⟨.none, none, (.fields ⟨[]⟩), ⟨[]⟩⟩
noncomputable def o273_3 : Obj := ⟨.type "tuple", none, (.seq ⟨[.str "self" 565, .str "most" 566, .str "text" 567, .str "found" 568]⟩ 0), ⟨[]⟩⟩
noncomputable def o274_3 : Obj := ⟨.type "tuple", none, (.seq ⟨[]⟩ 0), ⟨[]⟩⟩
noncomputable def o275_3 : Obj := ⟨.none, none, (.func (fQ (inClass (topS 45) 5) "any_number" "RowParser.any_number" 0 [] (.none) (.none) (.none) (.none) none (.none) (.none) 0)), ⟨[]⟩⟩
noncomputable def o276_3 : Obj := ⟨.type "code", none, (.fields ⟨[.str "any_number" 562, .str "RowParser.any_number" 563, .str "/claim/cut.py" 564, .int 149 0, .int 2 0, .int 0 0, .int 0 0, .int 3 0, .ref 271, .bool true, .int 181 0, .ref 272, .none, .ref 273, .ref 274, .ref 275, .int 569 0, .int 149 0, .str "/claim/cut.py" 570]⟩), ⟨[]⟩⟩
noncomputable def o277_3 : Obj := ⟨.type "function", none, (.func (fQ (inClass (topS 45) 5) "any_number" "RowParser.any_number" 3 [] (.ref 270) (.none) (.none) (.str "frametongue.parsing" 502) none (.ref 276) (.none) 0)), ⟨[]⟩⟩
noncomputable def o278_3 : Obj := ⟨.type "tuple", none, (.seq ⟨[]⟩ 0), ⟨[]⟩⟩
noncomputable def o279_3 : Obj := ⟨.none, none, (.fields ⟨[]⟩), ⟨[]⟩⟩
noncomputable def o280_3 : Obj := ⟨.type "tuple", none, (.seq ⟨[.str "self" 575, .str "tree" 576, .str "begin" 577, .str "parts" 578]⟩ 0), ⟨[]⟩⟩
noncomputable def o281_3 : Obj := ⟨.type "tuple", none, (.seq ⟨[]⟩ 0), ⟨[]⟩⟩
noncomputable def o282_3 : Obj := ⟨.none, none, (.func (fQ (inClass (topS 45) 6) "sited" "RowParser.sited" 0 [] (.none) (.none) (.none) (.none) none (.none) (.none) 0)), ⟨[]⟩⟩
noncomputable def o283_3 : Obj := ⟨.type "code", none, (.fields ⟨[.str "sited" 572, .str "RowParser.sited" 573, .str "/claim/cut.py" 574, .int 158 0, .int 4 0, .int 0 0, .int 0 0, .int 3 0, .ref 278, .bool true, .int 181 0, .ref 279, .none, .ref 280, .ref 281, .ref 282, .int 579 0, .int 158 0, .str "/claim/cut.py" 580]⟩), ⟨[]⟩⟩
noncomputable def o284_3 : Obj := ⟨.type "function", none, (.func (fQ (inClass (topS 45) 6) "sited" "RowParser.sited" 3 [] (.none) (.none) (.none) (.str "frametongue.parsing" 502) none (.ref 283) (.none) 0)), ⟨[]⟩⟩
noncomputable def o285_3 : Obj := ⟨.type "tuple", none, (.seq ⟨[]⟩ 0), ⟨[]⟩⟩
noncomputable def o286_3 : Obj := ⟨.none, none, (.fields ⟨[]⟩), ⟨[]⟩⟩
noncomputable def o287_3 : Obj := ⟨.type "tuple", none, (.seq ⟨[.str "self" 585, .str "begin" 586, .str "is_turned" 587, .str "found" 588]⟩ 0), ⟨[]⟩⟩
noncomputable def o288_3 : Obj := ⟨.type "tuple", none, (.seq ⟨[]⟩ 0), ⟨[]⟩⟩
noncomputable def o289_3 : Obj := ⟨.none, none, (.func (fQ (inClass (topS 45) 7) "any_sum" "RowParser.any_sum" 0 [] (.none) (.none) (.none) (.none) none (.none) (.none) 0)), ⟨[]⟩⟩
noncomputable def o290_3 : Obj := ⟨.type "code", none, (.fields ⟨[.str "any_sum" 582, .str "RowParser.any_sum" 583, .str "/claim/cut.py" 584, .int 163 0, .int 1 0, .int 0 0, .int 0 0, .int 3 0, .ref 285, .bool true, .int 181 0, .ref 286, .none, .ref 287, .ref 288, .ref 289, .int 589 0, .int 163 0, .str "/claim/cut.py" 590]⟩), ⟨[]⟩⟩
noncomputable def o291_3 : Obj := ⟨.type "function", none, (.func (fQ (inClass (topS 45) 7) "any_sum" "RowParser.any_sum" 3 [] (.none) (.none) (.none) (.str "frametongue.parsing" 502) none (.ref 290) (.none) 0)), ⟨[]⟩⟩
noncomputable def o292_3 : Obj := ⟨.type "tuple", none, (.seq ⟨[]⟩ 0), ⟨[]⟩⟩
noncomputable def o293_3 : Obj := ⟨.none, none, (.fields ⟨[]⟩), ⟨[]⟩⟩
noncomputable def o294_3 : Obj := ⟨.type "tuple", none, (.seq ⟨[.str "self" 595, .str "begin" 596, .str "found" 597]⟩ 0), ⟨[]⟩⟩
noncomputable def o295_3 : Obj := ⟨.type "tuple", none, (.seq ⟨[]⟩ 0), ⟨[]⟩⟩
noncomputable def o296_3 : Obj := ⟨.none, none, (.func (fQ (inClass (topS 45) 8) "any_term" "RowParser.any_term" 0 [] (.none) (.none) (.none) (.none) none (.none) (.none) 0)), ⟨[]⟩⟩
noncomputable def o297_3 : Obj := ⟨.type "code", none, (.fields ⟨[.str "any_term" 592, .str "RowParser.any_term" 593, .str "/claim/cut.py" 594, .int 173 0, .int 1 0, .int 0 0, .int 0 0, .int 3 0, .ref 292, .bool true, .int 181 0, .ref 293, .none, .ref 294, .ref 295, .ref 296, .int 598 0, .int 173 0, .str "/claim/cut.py" 599]⟩), ⟨[]⟩⟩
noncomputable def o298_3 : Obj := ⟨.type "function", none, (.func (fQ (inClass (topS 45) 8) "any_term" "RowParser.any_term" 3 [] (.none) (.none) (.none) (.str "frametongue.parsing" 502) none (.ref 297) (.none) 0)), ⟨[]⟩⟩
noncomputable def o299_3 : Obj := ⟨.type "tuple", none, (.seq ⟨[]⟩ 0), ⟨[]⟩⟩
noncomputable def o300_3 : Obj := ⟨.none, none, (.fields ⟨[]⟩), ⟨[]⟩⟩
noncomputable def o301_3 : Obj := ⟨.type "tuple", none, (.seq ⟨[.str "self" 604, .str "one" 605, .str "begin" 606, .str "read_other" 607, .str "deed" 608, .str "other" 609]⟩ 0), ⟨[]⟩⟩
noncomputable def o302_3 : Obj := ⟨.type "tuple", none, (.seq ⟨[]⟩ 0), ⟨[]⟩⟩
noncomputable def o303_3 : Obj := ⟨.none, none, (.func (fQ (inClass (topS 45) 9) "deed" "RowParser.deed" 0 [] (.none) (.none) (.none) (.none) none (.none) (.none) 0)), ⟨[]⟩⟩
noncomputable def o304_3 : Obj := ⟨.type "code", none, (.fields ⟨[.str "deed" 601, .str "RowParser.deed" 602, .str "/claim/cut.py" 603, .int 180 0, .int 4 0, .int 0 0, .int 0 0, .int 3 0, .ref 299, .bool true, .int 181 0, .ref 300, .none, .ref 301, .ref 302, .ref 303, .int 610 0, .int 180 0, .str "/claim/cut.py" 611]⟩), ⟨[]⟩⟩
noncomputable def o305_3 : Obj := ⟨.type "function", none, (.func (fQ (inClass (topS 45) 9) "deed" "RowParser.deed" 3 [] (.none) (.none) (.none) (.str "frametongue.parsing" 502) none (.ref 304) (.none) 0)), ⟨[]⟩⟩
noncomputable def o306_3 : Obj := ⟨.type "tuple", none, (.seq ⟨[]⟩ 0), ⟨[]⟩⟩
noncomputable def o307_3 : Obj := ⟨.none, none, (.fields ⟨[]⟩), ⟨[]⟩⟩
noncomputable def o308_3 : Obj := ⟨.type "tuple", none, (.seq ⟨[.str "self" 616, .str "begin" 617, .str "found" 618, .str "many" 619]⟩ 0), ⟨[]⟩⟩
noncomputable def o309_3 : Obj := ⟨.type "tuple", none, (.seq ⟨[]⟩ 0), ⟨[]⟩⟩
noncomputable def o310_3 : Obj := ⟨.none, none, (.func (fQ (inClass (topS 45) 10) "any_power" "RowParser.any_power" 0 [] (.none) (.none) (.none) (.none) none (.none) (.none) 0)), ⟨[]⟩⟩
noncomputable def o311_3 : Obj := ⟨.type "code", none, (.fields ⟨[.str "any_power" 613, .str "RowParser.any_power" 614, .str "/claim/cut.py" 615, .int 186 0, .int 1 0, .int 0 0, .int 0 0, .int 3 0, .ref 306, .bool true, .int 181 0, .ref 307, .none, .ref 308, .ref 309, .ref 310, .int 620 0, .int 186 0, .str "/claim/cut.py" 621]⟩), ⟨[]⟩⟩
noncomputable def o312_3 : Obj := ⟨.type "function", none, (.func (fQ (inClass (topS 45) 10) "any_power" "RowParser.any_power" 3 [] (.none) (.none) (.none) (.str "frametongue.parsing" 502) none (.ref 311) (.none) 0)), ⟨[]⟩⟩
noncomputable def o313_3 : Obj := ⟨.type "tuple", none, (.seq ⟨[]⟩ 0), ⟨[]⟩⟩
noncomputable def o314_3 : Obj := ⟨.none, none, (.fields ⟨[]⟩), ⟨[]⟩⟩
noncomputable def o315_3 : Obj := ⟨.type "tuple", none, (.seq ⟨[.str "self" 626, .str "begin" 627, .str "found" 628, .str "name" 629]⟩ 0), ⟨[]⟩⟩
noncomputable def o316_3 : Obj := ⟨.type "tuple", none, (.seq ⟨[]⟩ 0), ⟨[]⟩⟩
noncomputable def o317_3 : Obj := ⟨.none, none, (.func (fQ (inClass (topS 45) 11) "any_atom" "RowParser.any_atom" 0 [] (.none) (.none) (.none) (.none) none (.none) (.none) 0)), ⟨[]⟩⟩
noncomputable def o318_3 : Obj := ⟨.type "code", none, (.fields ⟨[.str "any_atom" 623, .str "RowParser.any_atom" 624, .str "/claim/cut.py" 625, .int 194 0, .int 1 0, .int 0 0, .int 0 0, .int 3 0, .ref 313, .bool true, .int 181 0, .ref 314, .none, .ref 315, .ref 316, .ref 317, .int 630 0, .int 194 0, .str "/claim/cut.py" 631]⟩), ⟨[]⟩⟩
noncomputable def o319_3 : Obj := ⟨.type "function", none, (.func (fQ (inClass (topS 45) 11) "any_atom" "RowParser.any_atom" 3 [] (.none) (.none) (.none) (.str "frametongue.parsing" 502) none (.ref 318) (.none) 0)), ⟨[]⟩⟩
noncomputable def o320_3 : Obj := ⟨.type "tuple", none, (.seq ⟨[]⟩ 0), ⟨[]⟩⟩
noncomputable def o321_3 : Obj := ⟨.none, none, (.fields ⟨[]⟩), ⟨[]⟩⟩
noncomputable def o322_3 : Obj := ⟨.none, none, (.func (fQ (inClass (topS 45) 12) "called" "RowParser.called" 0 [] (.none) (.none) (.none) (.none) none (.none) (.none) 0)), ⟨[]⟩⟩
noncomputable def o323_3 : Obj := ⟨.type "code", none, (.fields ⟨[.str "called" 633, .str "RowParser.called" 634, .str "/claim/cut.py" 635, .int 208 0, .int 3 0, .int 0 0, .int 0 0, .int 3 0, .ref 320, .bool true, .int 181 0, .ref 321, .none, .none, .none, .ref 322, .int 636 0, .int 208 0, .str "/claim/cut.py" 637]⟩), ⟨[]⟩⟩
noncomputable def o324_3 : Obj := ⟨.type "function", none, (.func (fQ (inClass (topS 45) 12) "called" "RowParser.called" 3 [] (.none) (.none) (.none) (.str "frametongue.parsing" 502) none (.ref 323) (.none) 0)), ⟨[]⟩⟩
noncomputable def o325_3 : Obj := ⟨.type "tuple", none, (.seq ⟨[]⟩ 0), ⟨[]⟩⟩
noncomputable def o326_3 : Obj := ⟨.none, none, (.fields ⟨[]⟩), ⟨[]⟩⟩
noncomputable def o327_3 : Obj := ⟨.type "tuple", none, (.seq ⟨[.str "self" 642, .str "may_be_more" 643, .str "found" 644]⟩ 0), ⟨[]⟩⟩
noncomputable def o328_3 : Obj := ⟨.type "tuple", none, (.seq ⟨[]⟩ 0), ⟨[]⟩⟩
noncomputable def o329_3 : Obj := ⟨.none, none, (.func (fQ (inClass (topS 45) 13) "bracketed" "RowParser.bracketed" 0 [] (.none) (.none) (.none) (.none) none (.none) (.none) 0)), ⟨[]⟩⟩
noncomputable def o330_3 : Obj := ⟨.type "code", none, (.fields ⟨[.str "bracketed" 639, .str "RowParser.bracketed" 640, .str "/claim/cut.py" 641, .int 217 0, .int 2 0, .int 0 0, .int 0 0, .int 3 0, .ref 325, .bool true, .int 181 0, .ref 326, .none, .ref 327, .ref 328, .ref 329, .int 645 0, .int 217 0, .str "/claim/cut.py" 646]⟩), ⟨[]⟩⟩
noncomputable def o331_3 : Obj := ⟨.type "function", none, (.func (fQ (inClass (topS 45) 13) "bracketed" "RowParser.bracketed" 3 [] (.none) (.none) (.none) (.str "frametongue.parsing" 502) none (.ref 330) (.none) 0)), ⟨[]⟩⟩
noncomputable def o332_3 : Obj := ⟨.type "tuple", none, (.seq ⟨[]⟩ 0), ⟨[]⟩⟩
noncomputable def o333_3 : Obj := ⟨.none, none, (.fields ⟨[]⟩), ⟨[]⟩⟩
noncomputable def o334_3 : Obj := ⟨.type "tuple", none, (.seq ⟨[.str "self" 651, .str "found" 652]⟩ 0), ⟨[]⟩⟩
noncomputable def o335_3 : Obj := ⟨.type "tuple", none, (.seq ⟨[]⟩ 0), ⟨[]⟩⟩
noncomputable def o336_3 : Obj := ⟨.none, none, (.func (fQ (inClass (topS 45) 14) "whole_sum" "RowParser.whole_sum" 0 [] (.none) (.none) (.none) (.none) none (.none) (.none) 0)), ⟨[]⟩⟩
noncomputable def o337_3 : Obj := ⟨.type "code", none, (.fields ⟨[.str "whole_sum" 648, .str "RowParser.whole_sum" 649, .str "/claim/cut.py" 650, .int 227 0, .int 1 0, .int 0 0, .int 0 0, .int 3 0, .ref 332, .bool true, .int 181 0, .ref 333, .none, .ref 334, .ref 335, .ref 336, .int 653 0, .int 227 0, .str "/claim/cut.py" 654]⟩), ⟨[]⟩⟩
noncomputable def o338_3 : Obj := ⟨.type "function", none, (.func (fQ (inClass (topS 45) 14) "whole_sum" "RowParser.whole_sum" 3 [] (.none) (.none) (.none) (.str "frametongue.parsing" 502) none (.ref 337) (.none) 0)), ⟨[]⟩⟩
noncomputable def o339_3 : Obj := ⟨.type "tuple", none, (.seq ⟨[]⟩ 0), ⟨[]⟩⟩
noncomputable def o340_3 : Obj := ⟨.none, none, (.fields ⟨[]⟩), ⟨[]⟩⟩
noncomputable def o341_3 : Obj := ⟨.type "tuple", none, (.seq ⟨[.str "self" 659, .str "head" 660, .str "sited" 661, .str "name" 662]⟩ 0), ⟨[]⟩⟩
noncomputable def o342_3 : Obj := ⟨.type "tuple", none, (.seq ⟨[]⟩ 0), ⟨[]⟩⟩
noncomputable def o343_3 : Obj := ⟨.none, none, (.func (fQ (inClass (topS 45) 15) "any_row" "RowParser.any_row" 0 [] (.none) (.none) (.none) (.none) none (.none) (.none) 0)), ⟨[]⟩⟩
noncomputable def o344_3 : Obj := ⟨.type "code", none, (.fields ⟨[.str "any_row" 656, .str "RowParser.any_row" 657, .str "/claim/cut.py" 658, .int 231 0, .int 1 0, .int 0 0, .int 0 0, .int 3 0, .ref 339, .bool true, .int 181 0, .ref 340, .none, .ref 341, .ref 342, .ref 343, .int 663 0, .int 231 0, .str "/claim/cut.py" 664]⟩), ⟨[]⟩⟩
noncomputable def o345_3 : Obj := ⟨.type "function", none, (.func (fQ (inClass (topS 45) 15) "any_row" "RowParser.any_row" 3 [] (.none) (.none) (.none) (.str "frametongue.parsing" 502) none (.ref 344) (.none) 0)), ⟨[]⟩⟩
noncomputable def o346_3 : Obj := ⟨.type "tuple", none, (.seq ⟨[]⟩ 0), ⟨[]⟩⟩
noncomputable def o347_3 : Obj := ⟨.none, none, (.fields ⟨[]⟩), ⟨[]⟩⟩
noncomputable def o348_3 : Obj := ⟨.type "tuple", none, (.seq ⟨[.str "self" 669, .str "tree" 670, .str "sited" 671]⟩ 0), ⟨[]⟩⟩
noncomputable def o349_3 : Obj := ⟨.type "tuple", none, (.seq ⟨[]⟩ 0), ⟨[]⟩⟩
noncomputable def o350_3 : Obj := ⟨.none, none, (.func (fQ (inClass (topS 45) 16) "ended" "RowParser.ended" 0 [] (.none) (.none) (.none) (.none) none (.none) (.none) 0)), ⟨[]⟩⟩
noncomputable def o351_3 : Obj := ⟨.type "code", none, (.fields ⟨[.str "ended" 666, .str "RowParser.ended" 667, .str "/claim/cut.py" 668, .int 246 0, .int 3 0, .int 0 0, .int 0 0, .int 3 0, .ref 346, .bool true, .int 181 0, .ref 347, .none, .ref 348, .ref 349, .ref 350, .int 672 0, .int 246 0, .str "/claim/cut.py" 673]⟩), ⟨[]⟩⟩
noncomputable def o352_3 : Obj := ⟨.type "function", none, (.func (fQ (inClass (topS 45) 16) "ended" "RowParser.ended" 3 [] (.none) (.none) (.none) (.str "frametongue.parsing" 502) none (.ref 351) (.none) 0)), ⟨[]⟩⟩
noncomputable def o353_3 : Obj := ⟨.type "tuple", none, (.seq ⟨[]⟩ 0), ⟨[]⟩⟩
noncomputable def o354_3 : Obj := ⟨.none, none, (.fields ⟨[]⟩), ⟨[]⟩⟩
noncomputable def o355_3 : Obj := ⟨.type "tuple", none, (.seq ⟨[.str "self" 678, .str "head" 679, .str "begun" 680, .str "sited" 681]⟩ 0), ⟨[]⟩⟩
noncomputable def o356_3 : Obj := ⟨.type "tuple", none, (.seq ⟨[]⟩ 0), ⟨[]⟩⟩
noncomputable def o357_3 : Obj := ⟨.none, none, (.func (fQ (inClass (topS 45) 17) "equal" "RowParser.equal" 0 [] (.none) (.none) (.none) (.none) none (.none) (.none) 0)), ⟨[]⟩⟩
noncomputable def o358_3 : Obj := ⟨.type "code", none, (.fields ⟨[.str "equal" 675, .str "RowParser.equal" 676, .str "/claim/cut.py" 677, .int 249 0, .int 3 0, .int 0 0, .int 0 0, .int 3 0, .ref 353, .bool true, .int 181 0, .ref 354, .none, .ref 355, .ref 356, .ref 357, .int 682 0, .int 249 0, .str "/claim/cut.py" 683]⟩), ⟨[]⟩⟩
noncomputable def o359_3 : Obj := ⟨.type "function", none, (.func (fQ (inClass (topS 45) 17) "equal" "RowParser.equal" 3 [] (.none) (.none) (.none) (.str "frametongue.parsing" 502) none (.ref 358) (.none) 0)), ⟨[]⟩⟩
noncomputable def o360_3 : Obj := ⟨.type "tuple", none, (.seq ⟨[]⟩ 0), ⟨[]⟩⟩
noncomputable def o361_3 : Obj := ⟨.none, none, (.fields ⟨[]⟩), ⟨[]⟩⟩
noncomputable def o362_3 : Obj := ⟨.type "tuple", none, (.seq ⟨[.str "self" 688, .str "name" 689, .str "found" 690]⟩ 0), ⟨[]⟩⟩
noncomputable def o363_3 : Obj := ⟨.type "tuple", none, (.seq ⟨[]⟩ 0), ⟨[]⟩⟩
noncomputable def o364_3 : Obj := ⟨.none, none, (.func (fQ (inClass (topS 45) 18) "rule_row" "RowParser.rule_row" 0 [] (.none) (.none) (.none) (.none) none (.none) (.none) 0)), ⟨[]⟩⟩
noncomputable def o365_3 : Obj := ⟨.type "code", none, (.fields ⟨[.str "rule_row" 685, .str "RowParser.rule_row" 686, .str "/claim/cut.py" 687, .int 253 0, .int 2 0, .int 0 0, .int 0 0, .int 3 0, .ref 360, .bool true, .int 181 0, .ref 361, .none, .ref 362, .ref 363, .ref 364, .int 691 0, .int 253 0, .str "/claim/cut.py" 692]⟩), ⟨[]⟩⟩
noncomputable def o366_3 : Obj := ⟨.type "function", none, (.func (fQ (inClass (topS 45) 18) "rule_row" "RowParser.rule_row" 3 [] (.none) (.none) (.none) (.str "frametongue.parsing" 502) none (.ref 365) (.none) 0)), ⟨[]⟩⟩
noncomputable def o367_3 : Obj := ⟨.type "tuple", none, (.seq ⟨[.str "at" 694, .str "deep" 695, .str "is_bound" 696, .str "names" 697, .str "places" 698, .str "words" 699]⟩ 0), ⟨[]⟩⟩
noncomputable def o368_3 (P : Params) : Obj := ⟨.type "dict", none, (.dict ⟨[⟨PyData.keyHash P "__module__", .str "__module__" 517, .str "frametongue.parsing" 502⟩, ⟨PyData.keyHash P "__firstlineno__", .str "__firstlineno__" 521, .int 118 520⟩, ⟨PyData.keyHash P "__init__", .str "__init__" 529, .ref 241⟩, ⟨PyData.keyHash P "word", .str "word" 536, .ref 248⟩, ⟨PyData.keyHash P "takes", .str "takes" 544, .ref 255⟩, ⟨PyData.keyHash P "bound", .str "bound" 552, .ref 262⟩, ⟨PyData.keyHash P "any_name", .str "any_name" 561, .ref 269⟩, ⟨PyData.keyHash P "any_number", .str "any_number" 571, .ref 277⟩, ⟨PyData.keyHash P "sited", .str "sited" 581, .ref 284⟩, ⟨PyData.keyHash P "any_sum", .str "any_sum" 591, .ref 291⟩, ⟨PyData.keyHash P "any_term", .str "any_term" 600, .ref 298⟩, ⟨PyData.keyHash P "deed", .str "deed" 612, .ref 305⟩, ⟨PyData.keyHash P "any_power", .str "any_power" 622, .ref 312⟩, ⟨PyData.keyHash P "any_atom", .str "any_atom" 632, .ref 319⟩, ⟨PyData.keyHash P "called", .str "called" 638, .ref 324⟩, ⟨PyData.keyHash P "bracketed", .str "bracketed" 647, .ref 331⟩, ⟨PyData.keyHash P "whole_sum", .str "whole_sum" 655, .ref 338⟩, ⟨PyData.keyHash P "any_row", .str "any_row" 665, .ref 345⟩, ⟨PyData.keyHash P "ended", .str "ended" 674, .ref 352⟩, ⟨PyData.keyHash P "equal", .str "equal" 684, .ref 359⟩, ⟨PyData.keyHash P "rule_row", .str "rule_row" 693, .ref 366⟩, ⟨PyData.keyHash P "__static_attributes__", .str "__static_attributes__" 700, .ref 367⟩, ⟨PyData.keyHash P "__dict__", .str "__dict__" 702, .ref 370⟩, ⟨PyData.keyHash P "__weakref__", .str "__weakref__" 704, .ref 371⟩, ⟨PyData.keyHash P "__doc__", .str "__doc__" 705, .none⟩]⟩ 4), ⟨[]⟩⟩
noncomputable def o369_3 : Obj := ⟨.type "type", none, (.cls ⟨"RowParser", [.type "object"], [.ref 369, .type "object"], 368, "RowParser", true, [], [], false, none, false⟩), ⟨[none, none, (some (.str "RowParser" 510)), (some (.str "RowParser" 518)), (some (.builtin "object.__new__")), (some (.bool true))]⟩⟩
noncomputable def o370_3 : Obj := ⟨.type "getset_descriptor", none, (.fields ⟨[.str "__dict__" 701, .ref 369, .builtin "function.__dict__", .builtin "function.__dict__#set"]⟩), ⟨[]⟩⟩
noncomputable def o371_3 : Obj := ⟨.type "getset_descriptor", none, (.fields ⟨[.str "__weakref__" 703, .ref 369, .builtin "ExceptionGroup.__weakref__", .none]⟩), ⟨[]⟩⟩
noncomputable def o372_3 : Obj := ⟨.type "super", none, (.fields ⟨[.ref 369, .ref 369, .ref 369]⟩), ⟨[]⟩⟩
noncomputable def o373_3 : Obj := ⟨.type "builtin_function_or_method", none, (.fields ⟨[.builtin "object.__init_subclass__", .ref 369]⟩), ⟨[]⟩⟩
noncomputable def o374_3 : Obj := ⟨.type "tuple", none, (.seq ⟨[]⟩ 0), ⟨[]⟩⟩
noncomputable def o375_3 : Obj := ⟨.type "builtin_function_or_method", none, (.fields ⟨[.builtin "type.__prepare__", .type "type"]⟩), ⟨[]⟩⟩
noncomputable def o376_3 (P : Params) : Obj := ⟨.type "dict", none, (.dict ⟨[⟨PyData.keyHash P "__module__", .str "__module__" 715, .str "frametongue.parsing" 502⟩, ⟨PyData.keyHash P "__qualname__", .str "__qualname__" 717, .str "ReadRow" 716⟩, ⟨PyData.keyHash P "__firstlineno__", .str "__firstlineno__" 719, .int 263 718⟩, ⟨PyData.keyHash P "__init__", .str "__init__" 731, .ref 387⟩, ⟨PyData.keyHash P "__static_attributes__", .str "__static_attributes__" 738, .ref 388⟩]⟩ 5), ⟨[]⟩⟩
noncomputable def o377_3 : Obj := ⟨.type "tuple", none, (.seq ⟨[]⟩ 0), ⟨[]⟩⟩
noncomputable def o378_3 : Obj := ⟨.none, none, (.fields ⟨[.int 265 0, .int 4 0, .ref 386]⟩), ⟨[]⟩⟩
noncomputable def o379_3 : Obj := ⟨.type "code", none, (.fields ⟨[.str "ReadRow" 710, .str "ReadRow" 711, .str "/claim/cut.py" 712, .int 263 0, .int 0 0, .int 0 0, .int 0 0, .int 0 0, .ref 377, .bool false, .int 181 0, .ref 378, .none, .none, .none, .none, .int 713 0, .int 263 0, .str "/claim/cut.py" 714]⟩), ⟨[]⟩⟩
noncomputable def o380_3 : Obj := ⟨.type "frame", none, .plain, ⟨[(some (.ref 379)), (some (.ref 3)), (some (.ref 376)), none, (some (.str "frametongue.parsing" 502)), none, (some (.ref 0))]⟩⟩
noncomputable def o381_3 : Obj := ⟨.type "tuple", none, (.seq ⟨[]⟩ 0), ⟨[]⟩⟩
noncomputable def o382_3 : Obj := ⟨.none, none, (.fields ⟨[]⟩), ⟨[]⟩⟩
noncomputable def o383_3 : Obj := ⟨.type "tuple", none, (.seq ⟨[.str "self" 723, .str "word" 724, .str "column" 725, .str "told" 726, .str "words" 727, .str "names" 728]⟩ 0), ⟨[]⟩⟩
noncomputable def o384_3 : Obj := ⟨.type "tuple", none, (.seq ⟨[]⟩ 0), ⟨[]⟩⟩
noncomputable def o385_3 : Obj := ⟨.none, none, (.func (fQ (inClass (topS 46) 0) "__init__" "ReadRow.__init__" 0 [] (.none) (.none) (.none) (.none) none (.none) (.none) 0)), ⟨[]⟩⟩
noncomputable def o386_3 : Obj := ⟨.type "code", none, (.fields ⟨[.str "__init__" 720, .str "ReadRow.__init__" 721, .str "/claim/cut.py" 722, .int 265 0, .int 6 0, .int 0 0, .int 0 0, .int 3 0, .ref 381, .bool true, .int 181 0, .ref 382, .none, .ref 383, .ref 384, .ref 385, .int 729 0, .int 265 0, .str "/claim/cut.py" 730]⟩), ⟨[]⟩⟩
noncomputable def o387_3 : Obj := ⟨.type "function", none, (.func (fQ (inClass (topS 46) 0) "__init__" "ReadRow.__init__" 3 [] (.none) (.none) (.none) (.str "frametongue.parsing" 502) none (.ref 386) (.none) 0)), ⟨[]⟩⟩
noncomputable def o388_3 : Obj := ⟨.type "tuple", none, (.seq ⟨[.str "column" 732, .str "names" 733, .str "sited" 734, .str "tree" 735, .str "word" 736, .str "words" 737]⟩ 0), ⟨[]⟩⟩
noncomputable def o389_3 (P : Params) : Obj := ⟨.type "dict", none, (.dict ⟨[⟨PyData.keyHash P "__module__", .str "__module__" 715, .str "frametongue.parsing" 502⟩, ⟨PyData.keyHash P "__firstlineno__", .str "__firstlineno__" 719, .int 263 718⟩, ⟨PyData.keyHash P "__init__", .str "__init__" 731, .ref 387⟩, ⟨PyData.keyHash P "__static_attributes__", .str "__static_attributes__" 738, .ref 388⟩, ⟨PyData.keyHash P "__dict__", .str "__dict__" 740, .ref 391⟩, ⟨PyData.keyHash P "__weakref__", .str "__weakref__" 742, .ref 392⟩, ⟨PyData.keyHash P "__doc__", .str "__doc__" 743, .none⟩]⟩ 4), ⟨[]⟩⟩
noncomputable def o390_3 : Obj := ⟨.type "type", none, (.cls ⟨"ReadRow", [.type "object"], [.ref 390, .type "object"], 389, "ReadRow", true, [], [], false, none, false⟩), ⟨[none, none, (some (.str "ReadRow" 708)), (some (.str "ReadRow" 716)), (some (.builtin "object.__new__")), (some (.bool true))]⟩⟩
noncomputable def o391_3 : Obj := ⟨.type "getset_descriptor", none, (.fields ⟨[.str "__dict__" 739, .ref 390, .builtin "function.__dict__", .builtin "function.__dict__#set"]⟩), ⟨[]⟩⟩
noncomputable def o392_3 : Obj := ⟨.type "getset_descriptor", none, (.fields ⟨[.str "__weakref__" 741, .ref 390, .builtin "ExceptionGroup.__weakref__", .none]⟩), ⟨[]⟩⟩
noncomputable def o393_3 : Obj := ⟨.type "super", none, (.fields ⟨[.ref 390, .ref 390, .ref 390]⟩), ⟨[]⟩⟩
noncomputable def o394_3 : Obj := ⟨.type "builtin_function_or_method", none, (.fields ⟨[.builtin "object.__init_subclass__", .ref 390]⟩), ⟨[]⟩⟩
noncomputable def o395_3 : Obj := ⟨.type "tuple", none, (.seq ⟨[]⟩ 0), ⟨[]⟩⟩
noncomputable def o396_3 : Obj := ⟨.none, none, (.fields ⟨[]⟩), ⟨[]⟩⟩
noncomputable def o397_3 : Obj := ⟨.type "tuple", none, (.seq ⟨[.str "words" 749, .str "at" 750, .str "end" 751]⟩ 0), ⟨[]⟩⟩
noncomputable def o398_3 : Obj := ⟨.type "tuple", none, (.seq ⟨[]⟩ 0), ⟨[]⟩⟩
noncomputable def o399_3 : Obj := ⟨.none, none, (.func (fQ (topS 47) "column_behind" "column_behind" 0 [] (.none) (.none) (.none) (.none) none (.none) (.none) 0)), ⟨[]⟩⟩
noncomputable def o400_3 : Obj := ⟨.type "code", none, (.fields ⟨[.str "column_behind" 746, .str "column_behind" 747, .str "/claim/cut.py" 748, .int 271 0, .int 3 0, .int 0 0, .int 0 0, .int 3 0, .ref 395, .bool true, .int 181 0, .ref 396, .none, .ref 397, .ref 398, .ref 399, .int 752 0, .int 271 0, .str "/claim/cut.py" 753]⟩), ⟨[]⟩⟩
noncomputable def o401_3 : Obj := ⟨.type "function", none, (.func (fQ (topS 47) "column_behind" "column_behind" 3 [] (.none) (.none) (.none) (.str "frametongue.parsing" 502) none (.ref 400) (.none) 0)), ⟨[]⟩⟩
noncomputable def o402_3 : Obj := ⟨.type "tuple", none, (.seq ⟨[]⟩ 0), ⟨[]⟩⟩
noncomputable def o403_3 : Obj := ⟨.none, none, (.fields ⟨[]⟩), ⟨[]⟩⟩
noncomputable def o404_3 : Obj := ⟨.type "tuple", none, (.seq ⟨[.str "row" 758, .str "is_sum" 759, .str "column" 760, .str "words" 761, .str "parser" 762, .str "sited" 763, .str "told" 764]⟩ 0), ⟨[]⟩⟩
noncomputable def o405_3 : Obj := ⟨.type "tuple", none, (.seq ⟨[]⟩ 0), ⟨[]⟩⟩
noncomputable def o406_3 : Obj := ⟨.none, none, (.func (fQ (topS 48) "read_by" "read_by" 0 [] (.none) (.none) (.none) (.none) none (.none) (.none) 0)), ⟨[]⟩⟩
noncomputable def o407_3 : Obj := ⟨.type "code", none, (.fields ⟨[.str "read_by" 755, .str "read_by" 756, .str "/claim/cut.py" 757, .int 273 0, .int 2 0, .int 0 0, .int 0 0, .int 3 0, .ref 402, .bool true, .int 181 0, .ref 403, .none, .ref 404, .ref 405, .ref 406, .int 765 0, .int 273 0, .str "/claim/cut.py" 766]⟩), ⟨[]⟩⟩
noncomputable def o408_3 : Obj := ⟨.type "function", none, (.func (fQ (topS 48) "read_by" "read_by" 3 [] (.none) (.none) (.none) (.str "frametongue.parsing" 502) none (.ref 407) (.none) 0)), ⟨[]⟩⟩
noncomputable def o409_3 : Obj := ⟨.type "tuple", none, (.seq ⟨[]⟩ 0), ⟨[]⟩⟩
noncomputable def o410_3 : Obj := ⟨.none, none, (.fields ⟨[]⟩), ⟨[]⟩⟩
noncomputable def o411_3 : Obj := ⟨.type "tuple", none, (.seq ⟨[.str "row" 771]⟩ 0), ⟨[]⟩⟩
noncomputable def o412_3 : Obj := ⟨.type "tuple", none, (.seq ⟨[]⟩ 0), ⟨[]⟩⟩
noncomputable def o413_3 : Obj := ⟨.none, none, (.func (fQ (topS 49) "row_by" "row_by" 0 [] (.none) (.none) (.none) (.none) none (.none) (.none) 0)), ⟨[]⟩⟩
noncomputable def o414_3 : Obj := ⟨.type "code", none, (.fields ⟨[.str "row_by" 768, .str "row_by" 769, .str "/claim/cut.py" 770, .int 289 0, .int 1 0, .int 0 0, .int 0 0, .int 3 0, .ref 409, .bool true, .int 181 0, .ref 410, .none, .ref 411, .ref 412, .ref 413, .int 772 0, .int 289 0, .str "/claim/cut.py" 773]⟩), ⟨[]⟩⟩
noncomputable def o415_3 : Obj := ⟨.type "function", none, (.func (fQ (topS 49) "row_by" "row_by" 3 [] (.none) (.none) (.none) (.str "frametongue.parsing" 502) none (.ref 414) (.none) 0)), ⟨[]⟩⟩
noncomputable def o416_3 : Obj := ⟨.type "tuple", none, (.seq ⟨[]⟩ 0), ⟨[]⟩⟩
noncomputable def o417_3 : Obj := ⟨.none, none, (.fields ⟨[]⟩), ⟨[]⟩⟩
noncomputable def o418_3 : Obj := ⟨.type "tuple", none, (.seq ⟨[.str "text" 778]⟩ 0), ⟨[]⟩⟩
noncomputable def o419_3 : Obj := ⟨.type "tuple", none, (.seq ⟨[]⟩ 0), ⟨[]⟩⟩
noncomputable def o420_3 : Obj := ⟨.none, none, (.func (fQ (topS 50) "sum_by" "sum_by" 0 [] (.none) (.none) (.none) (.none) none (.none) (.none) 0)), ⟨[]⟩⟩
noncomputable def o421_3 : Obj := ⟨.type "code", none, (.fields ⟨[.str "sum_by" 775, .str "sum_by" 776, .str "/claim/cut.py" 777, .int 291 0, .int 1 0, .int 0 0, .int 0 0, .int 3 0, .ref 416, .bool true, .int 181 0, .ref 417, .none, .ref 418, .ref 419, .ref 420, .int 779 0, .int 291 0, .str "/claim/cut.py" 780]⟩), ⟨[]⟩⟩
noncomputable def o422_3 : Obj := ⟨.type "function", none, (.func (fQ (topS 50) "sum_by" "sum_by" 3 [] (.none) (.none) (.none) (.str "frametongue.parsing" 502) none (.ref 421) (.none) 0)), ⟨[]⟩⟩
noncomputable def o423_3 : Obj := ⟨.type "tuple", none, (.seq ⟨[]⟩ 0), ⟨[]⟩⟩
noncomputable def o424_3 : Obj := ⟨.none, none, (.fields ⟨[]⟩), ⟨[]⟩⟩
noncomputable def o425_3 : Obj := ⟨.type "tuple", none, (.seq ⟨[.str "told" 795, .str "level" 796]⟩ 0), ⟨[]⟩⟩
noncomputable def o426_3 : Obj := ⟨.type "tuple", none, (.seq ⟨[]⟩ 0), ⟨[]⟩⟩
noncomputable def o427_3 : Obj := ⟨.none, none, (.func (fQ (topS 56) "at_least" "at_least" 0 [] (.none) (.none) (.none) (.none) none (.none) (.none) 0)), ⟨[]⟩⟩
noncomputable def o428_3 : Obj := ⟨.type "code", none, (.fields ⟨[.str "at_least" 792, .str "at_least" 793, .str "/claim/cut.py" 794, .int 298 0, .int 2 0, .int 0 0, .int 0 0, .int 3 0, .ref 423, .bool true, .int 181 0, .ref 424, .none, .ref 425, .ref 426, .ref 427, .int 797 0, .int 298 0, .str "/claim/cut.py" 798]⟩), ⟨[]⟩⟩
noncomputable def o429_3 : Obj := ⟨.type "function", none, (.func (fQ (topS 56) "at_least" "at_least" 3 [] (.none) (.none) (.none) (.str "frametongue.printing" 782) none (.ref 428) (.none) 0)), ⟨[]⟩⟩
noncomputable def o430_3 : Obj := ⟨.type "tuple", none, (.seq ⟨[]⟩ 0), ⟨[]⟩⟩
noncomputable def o431_3 : Obj := ⟨.none, none, (.fields ⟨[]⟩), ⟨[]⟩⟩
noncomputable def o432_3 : Obj := ⟨.type "tuple", none, (.seq ⟨[.str "deed" 803, .str "one" 804, .str "other" 805, .str "level" 806]⟩ 0), ⟨[]⟩⟩
noncomputable def o433_3 : Obj := ⟨.type "tuple", none, (.seq ⟨[]⟩ 0), ⟨[]⟩⟩
noncomputable def o434_3 : Obj := ⟨.none, none, (.func (fQ (topS 57) "deed_text" "deed_text" 0 [] (.none) (.none) (.none) (.none) none (.none) (.none) 0)), ⟨[]⟩⟩
noncomputable def o435_3 : Obj := ⟨.type "code", none, (.fields ⟨[.str "deed_text" 800, .str "deed_text" 801, .str "/claim/cut.py" 802, .int 300 0, .int 3 0, .int 0 0, .int 0 0, .int 3 0, .ref 430, .bool true, .int 181 0, .ref 431, .none, .ref 432, .ref 433, .ref 434, .int 807 0, .int 300 0, .str "/claim/cut.py" 808]⟩), ⟨[]⟩⟩
noncomputable def o436_3 : Obj := ⟨.type "function", none, (.func (fQ (topS 57) "deed_text" "deed_text" 3 [] (.none) (.none) (.none) (.str "frametongue.printing" 782) none (.ref 435) (.none) 0)), ⟨[]⟩⟩
noncomputable def o437_3 : Obj := ⟨.type "tuple", none, (.seq ⟨[]⟩ 0), ⟨[]⟩⟩
noncomputable def o438_3 : Obj := ⟨.none, none, (.fields ⟨[]⟩), ⟨[]⟩⟩
noncomputable def o439_3 : Obj := ⟨.none, none, (.func (fQ (topS 58) "leveled" "leveled" 0 [] (.none) (.none) (.none) (.none) none (.none) (.none) 0)), ⟨[]⟩⟩
noncomputable def o440_3 : Obj := ⟨.type "code", none, (.fields ⟨[.str "leveled" 810, .str "leveled" 811, .str "/claim/cut.py" 812, .int 303 0, .int 1 0, .int 0 0, .int 0 0, .int 3 0, .ref 437, .bool true, .int 181 0, .ref 438, .none, .none, .none, .ref 439, .int 813 0, .int 303 0, .str "/claim/cut.py" 814]⟩), ⟨[]⟩⟩
noncomputable def o441_3 : Obj := ⟨.type "function", none, (.func (fQ (topS 58) "leveled" "leveled" 3 [] (.none) (.none) (.none) (.str "frametongue.printing" 782) none (.ref 440) (.none) 0)), ⟨[]⟩⟩
noncomputable def o442_3 : Obj := ⟨.type "tuple", none, (.seq ⟨[]⟩ 0), ⟨[]⟩⟩
noncomputable def o443_3 : Obj := ⟨.none, none, (.fields ⟨[]⟩), ⟨[]⟩⟩
noncomputable def o444_3 : Obj := ⟨.type "tuple", none, (.seq ⟨[.str "tree" 819]⟩ 0), ⟨[]⟩⟩
noncomputable def o445_3 : Obj := ⟨.type "tuple", none, (.seq ⟨[]⟩ 0), ⟨[]⟩⟩
noncomputable def o446_3 : Obj := ⟨.none, none, (.func (fQ (topS 59) "sum_text" "sum_text" 0 [] (.none) (.none) (.none) (.none) none (.none) (.none) 0)), ⟨[]⟩⟩
noncomputable def o447_3 : Obj := ⟨.type "code", none, (.fields ⟨[.str "sum_text" 816, .str "sum_text" 817, .str "/claim/cut.py" 818, .int 313 0, .int 1 0, .int 0 0, .int 0 0, .int 3 0, .ref 442, .bool true, .int 181 0, .ref 443, .none, .ref 444, .ref 445, .ref 446, .int 820 0, .int 313 0, .str "/claim/cut.py" 821]⟩), ⟨[]⟩⟩
noncomputable def o448_3 : Obj := ⟨.type "function", none, (.func (fQ (topS 59) "sum_text" "sum_text" 3 [] (.none) (.none) (.none) (.str "frametongue.printing" 782) none (.ref 447) (.none) 0)), ⟨[]⟩⟩
noncomputable def o449_3 : Obj := ⟨.type "tuple", none, (.seq ⟨[]⟩ 0), ⟨[]⟩⟩
noncomputable def o450_3 : Obj := ⟨.none, none, (.fields ⟨[]⟩), ⟨[]⟩⟩
noncomputable def o451_3 : Obj := ⟨.type "tuple", none, (.seq ⟨[.str "value" 828]⟩ 0), ⟨[]⟩⟩
noncomputable def o452_3 : Obj := ⟨.type "tuple", none, (.seq ⟨[]⟩ 0), ⟨[]⟩⟩
noncomputable def o453_3 : Obj := ⟨.none, none, (.func (fQ (topS 61) "check_text" "check_text" 0 [] (.none) (.none) (.none) (.none) none (.none) (.none) 0)), ⟨[]⟩⟩
noncomputable def o454_3 : Obj := ⟨.type "code", none, (.fields ⟨[.str "check_text" 825, .str "check_text" 826, .str "/claim/cut.py" 827, .int 316 0, .int 1 0, .int 0 0, .int 0 0, .int 3 0, .ref 449, .bool true, .int 181 0, .ref 450, .none, .ref 451, .ref 452, .ref 453, .int 829 0, .int 316 0, .str "/claim/cut.py" 830]⟩), ⟨[]⟩⟩
noncomputable def o455_3 : Obj := ⟨.type "function", none, (.func (fQ (topS 61) "check_text" "check_text" 3 [] (.none) (.none) (.none) (.str "frametongue.reader" 823) none (.ref 454) (.none) 0)), ⟨[]⟩⟩
noncomputable def o456_3 : Obj := ⟨.type "tuple", none, (.seq ⟨[]⟩ 0), ⟨[]⟩⟩
noncomputable def o457_3 : Obj := ⟨.none, none, (.fields ⟨[]⟩), ⟨[]⟩⟩
noncomputable def o458_3 : Obj := ⟨.type "tuple", none, (.seq ⟨[.str "read" 835]⟩ 0), ⟨[]⟩⟩
noncomputable def o459_3 : Obj := ⟨.type "tuple", none, (.seq ⟨[]⟩ 0), ⟨[]⟩⟩
noncomputable def o460_3 : Obj := ⟨.none, none, (.func (fQ (topS 62) "own_tree" "own_tree" 0 [] (.none) (.none) (.none) (.none) none (.none) (.none) 0)), ⟨[]⟩⟩
noncomputable def o461_3 : Obj := ⟨.type "code", none, (.fields ⟨[.str "own_tree" 832, .str "own_tree" 833, .str "/claim/cut.py" 834, .int 319 0, .int 1 0, .int 0 0, .int 0 0, .int 3 0, .ref 456, .bool true, .int 181 0, .ref 457, .none, .ref 458, .ref 459, .ref 460, .int 836 0, .int 319 0, .str "/claim/cut.py" 837]⟩), ⟨[]⟩⟩
noncomputable def o462_3 : Obj := ⟨.type "function", none, (.func (fQ (topS 62) "own_tree" "own_tree" 3 [] (.none) (.none) (.none) (.str "frametongue.reader" 823) none (.ref 461) (.none) 0)), ⟨[]⟩⟩
noncomputable def o463_3 : Obj := ⟨.type "tuple", none, (.seq ⟨[]⟩ 0), ⟨[]⟩⟩
noncomputable def o464_3 : Obj := ⟨.none, none, (.fields ⟨[]⟩), ⟨[]⟩⟩
noncomputable def o465_3 : Obj := ⟨.type "tuple", none, (.seq ⟨[.str "text" 842]⟩ 0), ⟨[]⟩⟩
noncomputable def o466_3 : Obj := ⟨.type "tuple", none, (.seq ⟨[]⟩ 0), ⟨[]⟩⟩
noncomputable def o467_3 : Obj := ⟨.none, none, (.func (fQ (topS 63) "read_row" "read_row" 0 [] (.none) (.none) (.none) (.none) none (.none) (.none) 0)), ⟨[]⟩⟩
noncomputable def o468_3 : Obj := ⟨.type "code", none, (.fields ⟨[.str "read_row" 839, .str "read_row" 840, .str "/claim/cut.py" 841, .int 323 0, .int 1 0, .int 0 0, .int 0 0, .int 3 0, .ref 463, .bool true, .int 181 0, .ref 464, .none, .ref 465, .ref 466, .ref 467, .int 843 0, .int 323 0, .str "/claim/cut.py" 844]⟩), ⟨[]⟩⟩
noncomputable def o469_3 : Obj := ⟨.type "function", none, (.func (fQ (topS 63) "read_row" "read_row" 3 [] (.none) (.none) (.none) (.str "frametongue.reader" 823) none (.ref 468) (.none) 0)), ⟨[]⟩⟩
noncomputable def o470_3 : Obj := ⟨.type "tuple", none, (.seq ⟨[]⟩ 0), ⟨[]⟩⟩
noncomputable def o471_3 : Obj := ⟨.none, none, (.fields ⟨[]⟩), ⟨[]⟩⟩
noncomputable def o472_3 : Obj := ⟨.type "tuple", none, (.seq ⟨[.str "text" 849]⟩ 0), ⟨[]⟩⟩
noncomputable def o473_3 : Obj := ⟨.type "tuple", none, (.seq ⟨[]⟩ 0), ⟨[]⟩⟩
noncomputable def o474_3 : Obj := ⟨.none, none, (.func (fQ (topS 64) "read_tree" "read_tree" 0 [] (.none) (.none) (.none) (.none) none (.none) (.none) 0)), ⟨[]⟩⟩
noncomputable def o475_3 : Obj := ⟨.type "code", none, (.fields ⟨[.str "read_tree" 846, .str "read_tree" 847, .str "/claim/cut.py" 848, .int 326 0, .int 1 0, .int 0 0, .int 0 0, .int 3 0, .ref 470, .bool true, .int 181 0, .ref 471, .none, .ref 472, .ref 473, .ref 474, .int 850 0, .int 326 0, .str "/claim/cut.py" 851]⟩), ⟨[]⟩⟩
noncomputable def o476_3 : Obj := ⟨.type "function", none, (.func (fQ (topS 64) "read_tree" "read_tree" 3 [] (.none) (.none) (.none) (.str "frametongue.reader" 823) none (.ref 475) (.none) 0)), ⟨[]⟩⟩
noncomputable def o477_3 : Obj := ⟨.type "tuple", none, (.seq ⟨[]⟩ 0), ⟨[]⟩⟩
noncomputable def o478_3 : Obj := ⟨.none, none, (.fields ⟨[]⟩), ⟨[]⟩⟩
noncomputable def o479_3 : Obj := ⟨.type "tuple", none, (.seq ⟨[.str "value" 858]⟩ 0), ⟨[]⟩⟩
noncomputable def o480_3 : Obj := ⟨.type "tuple", none, (.seq ⟨[]⟩ 0), ⟨[]⟩⟩
noncomputable def o481_3 : Obj := ⟨.none, none, (.func (fQ (topS 66) "is_tree" "is_tree" 0 [] (.none) (.none) (.none) (.none) none (.none) (.none) 0)), ⟨[]⟩⟩
noncomputable def o482_3 : Obj := ⟨.type "code", none, (.fields ⟨[.str "is_tree" 855, .str "is_tree" 856, .str "/claim/cut.py" 857, .int 330 0, .int 1 0, .int 0 0, .int 0 0, .int 3 0, .ref 477, .bool true, .int 181 0, .ref 478, .none, .ref 479, .ref 480, .ref 481, .int 859 0, .int 330 0, .str "/claim/cut.py" 860]⟩), ⟨[]⟩⟩
noncomputable def o483_3 : Obj := ⟨.type "function", none, (.func (fQ (topS 66) "is_tree" "is_tree" 3 [] (.none) (.none) (.none) (.str "frametongue.printer" 853) none (.ref 482) (.none) 0)), ⟨[]⟩⟩
noncomputable def o484_3 : Obj := ⟨.type "tuple", none, (.seq ⟨[]⟩ 0), ⟨[]⟩⟩
noncomputable def o485_3 : Obj := ⟨.none, none, (.fields ⟨[]⟩), ⟨[]⟩⟩
noncomputable def o486_3 : Obj := ⟨.type "tuple", none, (.seq ⟨[.str "tree" 865]⟩ 0), ⟨[]⟩⟩
noncomputable def o487_3 : Obj := ⟨.type "tuple", none, (.seq ⟨[]⟩ 0), ⟨[]⟩⟩
noncomputable def o488_3 : Obj := ⟨.none, none, (.func (fQ (topS 67) "tree_text" "tree_text" 0 [] (.none) (.none) (.none) (.none) none (.none) (.none) 0)), ⟨[]⟩⟩
noncomputable def o489_3 : Obj := ⟨.type "code", none, (.fields ⟨[.str "tree_text" 862, .str "tree_text" 863, .str "/claim/cut.py" 864, .int 332 0, .int 1 0, .int 0 0, .int 0 0, .int 3 0, .ref 484, .bool true, .int 181 0, .ref 485, .none, .ref 486, .ref 487, .ref 488, .int 866 0, .int 332 0, .str "/claim/cut.py" 867]⟩), ⟨[]⟩⟩
noncomputable def o490_3 : Obj := ⟨.type "function", none, (.func (fQ (topS 67) "tree_text" "tree_text" 3 [] (.none) (.none) (.none) (.str "frametongue.printer" 853) none (.ref 489) (.none) 0)), ⟨[]⟩⟩
noncomputable def o491_3 : Obj := ⟨.type "tuple", none, (.seq ⟨[]⟩ 0), ⟨[]⟩⟩
noncomputable def o492_3 : Obj := ⟨.none, none, (.fields ⟨[]⟩), ⟨[]⟩⟩
noncomputable def o493_3 : Obj := ⟨.type "tuple", none, (.seq ⟨[.str "cells" 874, .str "at" 875, .str "cell" 876, .str "seed" 877, .str "other" 878]⟩ 0), ⟨[]⟩⟩
noncomputable def o494_3 : Obj := ⟨.type "tuple", none, (.seq ⟨[]⟩ 0), ⟨[]⟩⟩
noncomputable def o495_3 : Obj := ⟨.none, none, (.func (fQ (topS 69) "_law_purse" "_law_purse" 0 [] (.none) (.none) (.none) (.none) none (.none) (.none) 0)), ⟨[]⟩⟩
noncomputable def o496_3 : Obj := ⟨.type "code", none, (.fields ⟨[.str "_law_purse" 871, .str "_law_purse" 872, .str "/claim/cut.py" 873, .int 337 0, .int 2 0, .int 0 0, .int 0 0, .int 3 0, .ref 491, .bool true, .int 181 0, .ref 492, .none, .ref 493, .ref 494, .ref 495, .int 879 0, .int 337 0, .str "/claim/cut.py" 880]⟩), ⟨[]⟩⟩
noncomputable def o497_3 : Obj := ⟨.type "function", none, (.func (fQ (topS 69) "_law_purse" "_law_purse" 3 [] (.none) (.none) (.none) (.str "law_frametongue_k02_whole_trees_told_and_rea" 869) none (.ref 496) (.none) 0)), ⟨[]⟩⟩
noncomputable def o498_3 : Obj := ⟨.type "tuple", none, (.seq ⟨[]⟩ 0), ⟨[]⟩⟩
noncomputable def o499_3 : Obj := ⟨.none, none, (.fields ⟨[]⟩), ⟨[]⟩⟩
noncomputable def o500_3 : Obj := ⟨.type "tuple", none, (.seq ⟨[.str "draws" 885, .str "many" 886, .str "figures" 887, .str "seed" 888, .str "turn" 889]⟩ 0), ⟨[]⟩⟩
noncomputable def o501_3 : Obj := ⟨.type "tuple", none, (.seq ⟨[]⟩ 0), ⟨[]⟩⟩
noncomputable def o502_3 : Obj := ⟨.none, none, (.func (fQ (topS 70) "_law_take" "_law_take" 0 [] (.none) (.none) (.none) (.none) none (.none) (.none) 0)), ⟨[]⟩⟩
noncomputable def o503_3 : Obj := ⟨.type "code", none, (.fields ⟨[.str "_law_take" 882, .str "_law_take" 883, .str "/claim/cut.py" 884, .int 343 0, .int 2 0, .int 0 0, .int 0 0, .int 3 0, .ref 498, .bool true, .int 181 0, .ref 499, .none, .ref 500, .ref 501, .ref 502, .int 890 0, .int 343 0, .str "/claim/cut.py" 891]⟩), ⟨[]⟩⟩
noncomputable def o504_3 : Obj := ⟨.type "function", none, (.func (fQ (topS 70) "_law_take" "_law_take" 3 [] (.none) (.none) (.none) (.str "law_frametongue_k02_whole_trees_told_and_rea" 869) none (.ref 503) (.none) 0)), ⟨[]⟩⟩
noncomputable def o505_3 : Obj := ⟨.type "tuple", none, (.seq ⟨[]⟩ 0), ⟨[]⟩⟩
noncomputable def o506_3 : Obj := ⟨.none, none, (.fields ⟨[]⟩), ⟨[]⟩⟩
noncomputable def o507_3 : Obj := ⟨.type "tuple", none, (.seq ⟨[.str "draws" 896, .str "some" 897]⟩ 0), ⟨[]⟩⟩
noncomputable def o508_3 : Obj := ⟨.type "tuple", none, (.seq ⟨[]⟩ 0), ⟨[]⟩⟩
noncomputable def o509_3 : Obj := ⟨.none, none, (.func (fQ (topS 71) "_law_pick" "_law_pick" 0 [] (.none) (.none) (.none) (.none) none (.none) (.none) 0)), ⟨[]⟩⟩
noncomputable def o510_3 : Obj := ⟨.type "code", none, (.fields ⟨[.str "_law_pick" 893, .str "_law_pick" 894, .str "/claim/cut.py" 895, .int 351 0, .int 2 0, .int 0 0, .int 0 0, .int 3 0, .ref 505, .bool true, .int 181 0, .ref 506, .none, .ref 507, .ref 508, .ref 509, .int 898 0, .int 351 0, .str "/claim/cut.py" 899]⟩), ⟨[]⟩⟩
noncomputable def o511_3 : Obj := ⟨.type "function", none, (.func (fQ (topS 71) "_law_pick" "_law_pick" 3 [] (.none) (.none) (.none) (.str "law_frametongue_k02_whole_trees_told_and_rea" 869) none (.ref 510) (.none) 0)), ⟨[]⟩⟩
noncomputable def o512_3 : Obj := ⟨.type "tuple", none, (.seq ⟨[]⟩ 0), ⟨[]⟩⟩
noncomputable def o513_3 : Obj := ⟨.none, none, (.fields ⟨[]⟩), ⟨[]⟩⟩
noncomputable def o514_3 : Obj := ⟨.type "tuple", none, (.seq ⟨[.str "told" 904, .str "due" 905]⟩ 0), ⟨[]⟩⟩
noncomputable def o515_3 : Obj := ⟨.type "tuple", none, (.seq ⟨[]⟩ 0), ⟨[]⟩⟩
noncomputable def o516_3 : Obj := ⟨.none, none, (.func (fQ (topS 72) "_law_same" "_law_same" 0 [] (.none) (.none) (.none) (.none) none (.none) (.none) 0)), ⟨[]⟩⟩
noncomputable def o517_3 : Obj := ⟨.type "code", none, (.fields ⟨[.str "_law_same" 901, .str "_law_same" 902, .str "/claim/cut.py" 903, .int 353 0, .int 2 0, .int 0 0, .int 0 0, .int 3 0, .ref 512, .bool true, .int 181 0, .ref 513, .none, .ref 514, .ref 515, .ref 516, .int 906 0, .int 353 0, .str "/claim/cut.py" 907]⟩), ⟨[]⟩⟩
noncomputable def o518_3 : Obj := ⟨.type "function", none, (.func (fQ (topS 72) "_law_same" "_law_same" 3 [] (.none) (.none) (.none) (.str "law_frametongue_k02_whole_trees_told_and_rea" 869) none (.ref 517) (.none) 0)), ⟨[]⟩⟩
noncomputable def o519_3 : Obj := ⟨.type "tuple", none, (.seq ⟨[]⟩ 0), ⟨[]⟩⟩
noncomputable def o520_3 : Obj := ⟨.none, none, (.fields ⟨[]⟩), ⟨[]⟩⟩
noncomputable def o521_3 : Obj := ⟨.type "tuple", none, (.seq ⟨[.str "spec" 912, .str "item" 913, .str "own" 914]⟩ 0), ⟨[]⟩⟩
noncomputable def o522_3 : Obj := ⟨.type "tuple", none, (.seq ⟨[]⟩ 0), ⟨[]⟩⟩
noncomputable def o523_3 : Obj := ⟨.none, none, (.func (fQ (topS 73) "_law_name_of" "_law_name_of" 0 [] (.none) (.none) (.none) (.none) none (.none) (.none) 0)), ⟨[]⟩⟩
noncomputable def o524_3 : Obj := ⟨.type "code", none, (.fields ⟨[.str "_law_name_of" 909, .str "_law_name_of" 910, .str "/claim/cut.py" 911, .int 355 0, .int 3 0, .int 0 0, .int 0 0, .int 3 0, .ref 519, .bool true, .int 181 0, .ref 520, .none, .ref 521, .ref 522, .ref 523, .int 915 0, .int 355 0, .str "/claim/cut.py" 916]⟩), ⟨[]⟩⟩
noncomputable def o525_3 : Obj := ⟨.type "function", none, (.func (fQ (topS 73) "_law_name_of" "_law_name_of" 3 [] (.none) (.none) (.none) (.str "law_frametongue_k02_whole_trees_told_and_rea" 869) none (.ref 524) (.none) 0)), ⟨[]⟩⟩
noncomputable def o526_3 : Obj := ⟨.type "tuple", none, (.seq ⟨[]⟩ 0), ⟨[]⟩⟩
noncomputable def o527_3 : Obj := ⟨.none, none, (.fields ⟨[]⟩), ⟨[]⟩⟩
noncomputable def o528_3 : Obj := ⟨.type "tuple", none, (.seq ⟨[.str "spec" 921, .str "row" 922, .str "own" 923, .str "stack" 924, .str "item" 925]⟩ 0), ⟨[]⟩⟩
noncomputable def o529_3 : Obj := ⟨.type "tuple", none, (.seq ⟨[]⟩ 0), ⟨[]⟩⟩
noncomputable def o530_3 : Obj := ⟨.none, none, (.func (fQ (topS 74) "_law_tree" "_law_tree" 0 [] (.none) (.none) (.none) (.none) none (.none) (.none) 0)), ⟨[]⟩⟩
noncomputable def o531_3 : Obj := ⟨.type "code", none, (.fields ⟨[.str "_law_tree" 918, .str "_law_tree" 919, .str "/claim/cut.py" 920, .int 357 0, .int 3 0, .int 0 0, .int 0 0, .int 3 0, .ref 526, .bool true, .int 181 0, .ref 527, .none, .ref 528, .ref 529, .ref 530, .int 926 0, .int 357 0, .str "/claim/cut.py" 927]⟩), ⟨[]⟩⟩
noncomputable def o532_3 : Obj := ⟨.type "function", none, (.func (fQ (topS 74) "_law_tree" "_law_tree" 3 [] (.none) (.none) (.none) (.str "law_frametongue_k02_whole_trees_told_and_rea" 869) none (.ref 531) (.none) 0)), ⟨[]⟩⟩
noncomputable def o533_3 : Obj := ⟨.type "tuple", none, (.seq ⟨[]⟩ 0), ⟨[]⟩⟩
noncomputable def o534_3 : Obj := ⟨.none, none, (.fields ⟨[]⟩), ⟨[]⟩⟩
noncomputable def o535_3 : Obj := ⟨.none, none, (.func (fQ (topS 75) "_law_program" "_law_program" 0 [] (.none) (.none) (.none) (.none) none (.none) (.none) 0)), ⟨[]⟩⟩
noncomputable def o536_3 : Obj := ⟨.type "code", none, (.fields ⟨[.str "_law_program" 929, .str "_law_program" 930, .str "/claim/cut.py" 931, .int 373 0, .int 1 0, .int 0 0, .int 0 0, .int 3 0, .ref 533, .bool true, .int 181 0, .ref 534, .none, .none, .none, .ref 535, .int 932 0, .int 373 0, .str "/claim/cut.py" 933]⟩), ⟨[]⟩⟩
noncomputable def o537_3 : Obj := ⟨.type "function", none, (.func (fQ (topS 75) "_law_program" "_law_program" 3 [] (.none) (.none) (.none) (.str "law_frametongue_k02_whole_trees_told_and_rea" 869) none (.ref 536) (.none) 0)), ⟨[]⟩⟩
noncomputable def o538_3 : Obj := ⟨.type "tuple", none, (.seq ⟨[]⟩ 0), ⟨[]⟩⟩
noncomputable def o539_3 : Obj := ⟨.none, none, (.fields ⟨[]⟩), ⟨[]⟩⟩
noncomputable def o540_3 : Obj := ⟨.type "tuple", none, (.seq ⟨[.str "part" 938, .str "least" 939]⟩ 0), ⟨[]⟩⟩
noncomputable def o541_3 : Obj := ⟨.type "tuple", none, (.seq ⟨[]⟩ 0), ⟨[]⟩⟩
noncomputable def o542_3 : Obj := ⟨.none, none, (.func (fQ (topS 76) "_law_within" "_law_within" 0 [] (.none) (.none) (.none) (.none) none (.none) (.none) 0)), ⟨[]⟩⟩
noncomputable def o543_3 : Obj := ⟨.type "code", none, (.fields ⟨[.str "_law_within" 935, .str "_law_within" 936, .str "/claim/cut.py" 937, .int 378 0, .int 2 0, .int 0 0, .int 0 0, .int 3 0, .ref 538, .bool true, .int 181 0, .ref 539, .none, .ref 540, .ref 541, .ref 542, .int 940 0, .int 378 0, .str "/claim/cut.py" 941]⟩), ⟨[]⟩⟩
noncomputable def o544_3 : Obj := ⟨.type "function", none, (.func (fQ (topS 76) "_law_within" "_law_within" 3 [] (.none) (.none) (.none) (.str "law_frametongue_k02_whole_trees_told_and_rea" 869) none (.ref 543) (.none) 0)), ⟨[]⟩⟩
noncomputable def o545_3 : Obj := ⟨.type "tuple", none, (.seq ⟨[]⟩ 0), ⟨[]⟩⟩
noncomputable def o546_3 : Obj := ⟨.none, none, (.fields ⟨[]⟩), ⟨[]⟩⟩
noncomputable def o547_3 : Obj := ⟨.none, none, (.func (fQ (topS 77) "_law_row_text" "_law_row_text" 0 [] (.none) (.none) (.none) (.none) none (.none) (.none) 0)), ⟨[]⟩⟩
noncomputable def o548_3 : Obj := ⟨.type "code", none, (.fields ⟨[.str "_law_row_text" 943, .str "_law_row_text" 944, .str "/claim/cut.py" 945, .int 380 0, .int 3 0, .int 0 0, .int 0 0, .int 3 0, .ref 545, .bool true, .int 181 0, .ref 546, .none, .none, .none, .ref 547, .int 946 0, .int 380 0, .str "/claim/cut.py" 947]⟩), ⟨[]⟩⟩
noncomputable def o549_3 : Obj := ⟨.type "function", none, (.func (fQ (topS 77) "_law_row_text" "_law_row_text" 3 [] (.none) (.none) (.none) (.str "law_frametongue_k02_whole_trees_told_and_rea" 869) none (.ref 548) (.none) 0)), ⟨[]⟩⟩
noncomputable def o550_3 : Obj := ⟨.type "tuple", none, (.seq ⟨[]⟩ 0), ⟨[]⟩⟩
noncomputable def o551_3 : Obj := ⟨.none, none, (.fields ⟨[]⟩), ⟨[]⟩⟩
noncomputable def o552_3 : Obj := ⟨.none, none, (.func (fQ (topS 78) "_law_rows_text" "_law_rows_text" 0 [] (.none) (.none) (.none) (.none) none (.none) (.none) 0)), ⟨[]⟩⟩
noncomputable def o553_3 : Obj := ⟨.type "code", none, (.fields ⟨[.str "_law_rows_text" 949, .str "_law_rows_text" 950, .str "/claim/cut.py" 951, .int 397 0, .int 1 0, .int 0 0, .int 0 0, .int 3 0, .ref 550, .bool true, .int 181 0, .ref 551, .none, .none, .none, .ref 552, .int 952 0, .int 397 0, .str "/claim/cut.py" 953]⟩), ⟨[]⟩⟩
noncomputable def o554_3 : Obj := ⟨.type "function", none, (.func (fQ (topS 78) "_law_rows_text" "_law_rows_text" 3 [] (.none) (.none) (.none) (.str "law_frametongue_k02_whole_trees_told_and_rea" 869) none (.ref 553) (.none) 0)), ⟨[]⟩⟩
noncomputable def o555_3 : Obj := ⟨.type "tuple", none, (.seq ⟨[]⟩ 0), ⟨[]⟩⟩
noncomputable def o556_3 : Obj := ⟨.none, none, (.fields ⟨[]⟩), ⟨[]⟩⟩
noncomputable def o557_3 : Obj := ⟨.none, none, (.func (fQ (topS 79) "_law_text" "_law_text" 0 [] (.none) (.none) (.none) (.none) none (.none) (.none) 0)), ⟨[]⟩⟩
noncomputable def o558_3 : Obj := ⟨.type "code", none, (.fields ⟨[.str "_law_text" 955, .str "_law_text" 956, .str "/claim/cut.py" 957, .int 403 0, .int 1 0, .int 0 0, .int 0 0, .int 3 0, .ref 555, .bool true, .int 181 0, .ref 556, .none, .none, .none, .ref 557, .int 958 0, .int 403 0, .str "/claim/cut.py" 959]⟩), ⟨[]⟩⟩
noncomputable def o559_3 : Obj := ⟨.type "function", none, (.func (fQ (topS 79) "_law_text" "_law_text" 3 [] (.none) (.none) (.none) (.str "law_frametongue_k02_whole_trees_told_and_rea" 869) none (.ref 558) (.none) 0)), ⟨[]⟩⟩
noncomputable def o560_3 : Obj := ⟨.type "tuple", none, (.seq ⟨[]⟩ 0), ⟨[]⟩⟩
noncomputable def o561_3 : Obj := ⟨.none, none, (.fields ⟨[]⟩), ⟨[]⟩⟩
noncomputable def o562_3 : Obj := ⟨.type "tuple", none, (.seq ⟨[.str "draws" 964, .str "spec" 965, .str "pieces" 966, .str "lap" 967, .str "way" 968, .str "piece" 969, .str "at" 970, .str "own" 971]⟩ 0), ⟨[]⟩⟩
noncomputable def o563_3 : Obj := ⟨.type "tuple", none, (.seq ⟨[]⟩ 0), ⟨[]⟩⟩
noncomputable def o564_3 : Obj := ⟨.none, none, (.func (fQ (topS 80) "_law_any" "_law_any" 0 [] (.none) (.none) (.none) (.none) none (.none) (.none) 0)), ⟨[]⟩⟩
noncomputable def o565_3 : Obj := ⟨.type "code", none, (.fields ⟨[.str "_law_any" 961, .str "_law_any" 962, .str "/claim/cut.py" 963, .int 405 0, .int 2 0, .int 0 0, .int 0 0, .int 3 0, .ref 560, .bool true, .int 181 0, .ref 561, .none, .ref 562, .ref 563, .ref 564, .int 972 0, .int 405 0, .str "/claim/cut.py" 973]⟩), ⟨[]⟩⟩
noncomputable def o566_3 : Obj := ⟨.type "function", none, (.func (fQ (topS 80) "_law_any" "_law_any" 3 [] (.none) (.none) (.none) (.str "law_frametongue_k02_whole_trees_told_and_rea" 869) none (.ref 565) (.none) 0)), ⟨[]⟩⟩
noncomputable def o567_3 : Obj := ⟨.type "tuple", none, (.seq ⟨[]⟩ 0), ⟨[]⟩⟩
noncomputable def o568_3 : Obj := ⟨.none, none, (.fields ⟨[]⟩), ⟨[]⟩⟩
noncomputable def o569_3 : Obj := ⟨.type "tuple", none, (.seq ⟨[.str "draws" 978]⟩ 0), ⟨[]⟩⟩
noncomputable def o570_3 : Obj := ⟨.type "tuple", none, (.seq ⟨[]⟩ 0), ⟨[]⟩⟩
noncomputable def o571_3 : Obj := ⟨.none, none, (.func (fQ (topS 81) "_law_blank" "_law_blank" 0 [] (.none) (.none) (.none) (.none) none (.none) (.none) 0)), ⟨[]⟩⟩
noncomputable def o572_3 : Obj := ⟨.type "code", none, (.fields ⟨[.str "_law_blank" 975, .str "_law_blank" 976, .str "/claim/cut.py" 977, .int 431 0, .int 1 0, .int 0 0, .int 0 0, .int 3 0, .ref 567, .bool true, .int 181 0, .ref 568, .none, .ref 569, .ref 570, .ref 571, .int 979 0, .int 431 0, .str "/claim/cut.py" 980]⟩), ⟨[]⟩⟩
noncomputable def o573_3 : Obj := ⟨.type "function", none, (.func (fQ (topS 81) "_law_blank" "_law_blank" 3 [] (.none) (.none) (.none) (.str "law_frametongue_k02_whole_trees_told_and_rea" 869) none (.ref 572) (.none) 0)), ⟨[]⟩⟩
noncomputable def o574_3 : Obj := ⟨.type "tuple", none, (.seq ⟨[]⟩ 0), ⟨[]⟩⟩
noncomputable def o575_3 : Obj := ⟨.none, none, (.fields ⟨[]⟩), ⟨[]⟩⟩
noncomputable def o576_3 : Obj := ⟨.type "tuple", none, (.seq ⟨[.str "draws" 985, .str "words" 986, .str "found" 987, .str "word_here" 988]⟩ 0), ⟨[]⟩⟩
noncomputable def o577_3 : Obj := ⟨.type "tuple", none, (.seq ⟨[]⟩ 0), ⟨[]⟩⟩
noncomputable def o578_3 : Obj := ⟨.none, none, (.func (fQ (topS 82) "_law_glued" "_law_glued" 0 [] (.none) (.none) (.none) (.none) none (.none) (.none) 0)), ⟨[]⟩⟩
noncomputable def o579_3 : Obj := ⟨.type "code", none, (.fields ⟨[.str "_law_glued" 982, .str "_law_glued" 983, .str "/claim/cut.py" 984, .int 433 0, .int 2 0, .int 0 0, .int 0 0, .int 3 0, .ref 574, .bool true, .int 181 0, .ref 575, .none, .ref 576, .ref 577, .ref 578, .int 989 0, .int 433 0, .str "/claim/cut.py" 990]⟩), ⟨[]⟩⟩
noncomputable def o580_3 : Obj := ⟨.type "function", none, (.func (fQ (topS 82) "_law_glued" "_law_glued" 3 [] (.none) (.none) (.none) (.str "law_frametongue_k02_whole_trees_told_and_rea" 869) none (.ref 579) (.none) 0)), ⟨[]⟩⟩
noncomputable def o581_3 : Obj := ⟨.type "tuple", none, (.seq ⟨[]⟩ 0), ⟨[]⟩⟩
noncomputable def o582_3 : Obj := ⟨.none, none, (.fields ⟨[]⟩), ⟨[]⟩⟩
noncomputable def o583_3 : Obj := ⟨.type "tuple", none, (.seq ⟨[.str "draws" 995, .str "part" 996, .str "least" 997]⟩ 0), ⟨[]⟩⟩
noncomputable def o584_3 : Obj := ⟨.type "tuple", none, (.seq ⟨[]⟩ 0), ⟨[]⟩⟩
noncomputable def o585_3 : Obj := ⟨.none, none, (.func (fQ (topS 83) "_law_wrapped" "_law_wrapped" 0 [] (.none) (.none) (.none) (.none) none (.none) (.none) 0)), ⟨[]⟩⟩
noncomputable def o586_3 : Obj := ⟨.type "code", none, (.fields ⟨[.str "_law_wrapped" 992, .str "_law_wrapped" 993, .str "/claim/cut.py" 994, .int 438 0, .int 3 0, .int 0 0, .int 0 0, .int 3 0, .ref 581, .bool true, .int 181 0, .ref 582, .none, .ref 583, .ref 584, .ref 585, .int 998 0, .int 438 0, .str "/claim/cut.py" 999]⟩), ⟨[]⟩⟩
noncomputable def o587_3 : Obj := ⟨.type "function", none, (.func (fQ (topS 83) "_law_wrapped" "_law_wrapped" 3 [] (.none) (.none) (.none) (.str "law_frametongue_k02_whole_trees_told_and_rea" 869) none (.ref 586) (.none) 0)), ⟨[]⟩⟩
noncomputable def t3 (P : Params) : BT := (.node (o0_0 P) (.node (o1_0 P) (.node (o3_3 P) (.node o7_0 (.node o15_2 (.node o31_2 (.node o63_2 (.node o127_2 (.node o255_3 (.node o511_3 .nil .nil) .nil) (.node o383_3 .nil .nil)) (.node o191_2 (.node o319_3 (.node o575_3 .nil .nil) .nil) (.node o447_3 .nil .nil))) (.node o95_2 (.node o159_2 (.node o287_3 (.node o543_3 .nil .nil) .nil) (.node o415_3 .nil .nil)) (.node o223_2 (.node o351_3 .nil .nil) (.node o479_3 .nil .nil)))) (.node o47_2 (.node o79_2 (.node o143_2 (.node o271_3 (.node o527_3 .nil .nil) .nil) (.node o399_3 .nil .nil)) (.node o207_2 (.node o335_3 .nil .nil) (.node o463_3 .nil .nil))) (.node o111_2 (.node o175_2 (.node o303_3 (.node o559_3 .nil .nil) .nil) (.node o431_3 .nil .nil)) (.node o239_3 (.node o367_3 .nil .nil) (.node o495_3 .nil .nil))))) (.node (o23_2 P) (.node o39_2 (.node o71_2 (.node o135_2 (.node o263_3 (.node o519_3 .nil .nil) .nil) (.node o391_3 .nil .nil)) (.node o199_2 (.node o327_3 (.node o583_3 .nil .nil) .nil) (.node o455_3 .nil .nil))) (.node o103_2 (.node o167_2 (.node o295_3 (.node o551_3 .nil .nil) .nil) (.node o423_3 .nil .nil)) (.node o231_3 (.node o359_3 .nil .nil) (.node o487_3 .nil .nil)))) (.node o55_2 (.node (o87_2 P) (.node o151_2 (.node o279_3 (.node o535_3 .nil .nil) .nil) (.node o407_3 .nil .nil)) (.node o215_2 (.node o343_3 .nil .nil) (.node o471_3 .nil .nil))) (.node o119_2 (.node o183_2 (.node o311_3 (.node o567_3 .nil .nil) .nil) (.node o439_3 .nil .nil)) (.node o247_3 (.node o375_3 .nil .nil) (.node o503_3 .nil .nil)))))) (.node o11_1 (.node o19_2 (.node o35_2 (.node o67_2 (.node o131_2 (.node o259_3 (.node o515_3 .nil .nil) .nil) (.node o387_3 .nil .nil)) (.node o195_2 (.node o323_3 (.node o579_3 .nil .nil) .nil) (.node o451_3 .nil .nil))) (.node o99_2 (.node o163_2 (.node o291_3 (.node o547_3 .nil .nil) .nil) (.node o419_3 .nil .nil)) (.node o227_2 (.node o355_3 .nil .nil) (.node o483_3 .nil .nil)))) (.node (o51_2 P) (.node o83_2 (.node o147_2 (.node o275_3 (.node o531_3 .nil .nil) .nil) (.node o403_3 .nil .nil)) (.node o211_2 (.node o339_3 .nil .nil) (.node o467_3 .nil .nil))) (.node o115_2 (.node o179_2 (.node o307_3 (.node o563_3 .nil .nil) .nil) (.node o435_3 .nil .nil)) (.node o243_3 (.node o371_3 .nil .nil) (.node o499_3 .nil .nil))))) (.node o27_2 (.node o43_2 (.node o75_2 (.node o139_2 (.node o267_3 (.node o523_3 .nil .nil) .nil) (.node o395_3 .nil .nil)) (.node o203_2 (.node o331_3 (.node o587_3 .nil .nil) .nil) (.node o459_3 .nil .nil))) (.node o107_2 (.node o171_2 (.node o299_3 (.node o555_3 .nil .nil) .nil) (.node o427_3 .nil .nil)) (.node o235_3 (.node o363_3 .nil .nil) (.node o491_3 .nil .nil)))) (.node o59_2 (.node o91_2 (.node o155_2 (.node o283_3 (.node o539_3 .nil .nil) .nil) (.node o411_3 .nil .nil)) (.node o219_2 (.node o347_3 .nil .nil) (.node o475_3 .nil .nil))) (.node o123_2 (.node o187_2 (.node o315_3 (.node o571_3 .nil .nil) .nil) (.node o443_3 .nil .nil)) (.node o251_3 (.node o379_3 .nil .nil) (.node o507_3 .nil .nil))))))) (.node o5_0 (.node o9_0 (.node (o17_2 P) (.node o33_2 (.node o65_2 (.node o129_2 (.node o257_3 (.node o513_3 .nil .nil) .nil) (.node o385_3 .nil .nil)) (.node o193_2 (.node o321_3 (.node o577_3 .nil .nil) .nil) (.node o449_3 .nil .nil))) (.node o97_2 (.node o161_2 (.node o289_3 (.node o545_3 .nil .nil) .nil) (.node o417_3 .nil .nil)) (.node o225_2 (.node o353_3 .nil .nil) (.node o481_3 .nil .nil)))) (.node o49_2 (.node o81_2 (.node o145_2 (.node o273_3 (.node o529_3 .nil .nil) .nil) (.node o401_3 .nil .nil)) (.node o209_2 (.node o337_3 .nil .nil) (.node o465_3 .nil .nil))) (.node o113_2 (.node o177_2 (.node o305_3 (.node o561_3 .nil .nil) .nil) (.node o433_3 .nil .nil)) (.node o241_3 (.node o369_3 .nil .nil) (.node o497_3 .nil .nil))))) (.node o25_2 (.node o41_2 (.node o73_2 (.node o137_2 (.node o265_3 (.node o521_3 .nil .nil) .nil) (.node o393_3 .nil .nil)) (.node o201_2 (.node o329_3 (.node o585_3 .nil .nil) .nil) (.node o457_3 .nil .nil))) (.node o105_2 (.node o169_2 (.node o297_3 (.node o553_3 .nil .nil) .nil) (.node o425_3 .nil .nil)) (.node o233_3 (.node o361_3 .nil .nil) (.node o489_3 .nil .nil)))) (.node o57_2 (.node o89_2 (.node o153_2 (.node o281_3 (.node o537_3 .nil .nil) .nil) (.node o409_3 .nil .nil)) (.node o217_2 (.node o345_3 .nil .nil) (.node o473_3 .nil .nil))) (.node o121_2 (.node o185_2 (.node o313_3 (.node o569_3 .nil .nil) .nil) (.node o441_3 .nil .nil)) (.node o249_3 (.node o377_3 .nil .nil) (.node o505_3 .nil .nil)))))) (.node o13_1 (.node o21_2 (.node o37_2 (.node o69_2 (.node o133_2 (.node o261_3 (.node o517_3 .nil .nil) .nil) (.node (o389_3 P) .nil .nil)) (.node o197_2 (.node o325_3 (.node o581_3 .nil .nil) .nil) (.node o453_3 .nil .nil))) (.node o101_2 (.node o165_2 (.node o293_3 (.node o549_3 .nil .nil) .nil) (.node o421_3 .nil .nil)) (.node o229_3 (.node o357_3 .nil .nil) (.node o485_3 .nil .nil)))) (.node o53_2 (.node o85_2 (.node o149_2 (.node o277_3 (.node o533_3 .nil .nil) .nil) (.node o405_3 .nil .nil)) (.node o213_2 (.node o341_3 .nil .nil) (.node o469_3 .nil .nil))) (.node o117_2 (.node o181_2 (.node o309_3 (.node o565_3 .nil .nil) .nil) (.node o437_3 .nil .nil)) (.node o245_3 (.node o373_3 .nil .nil) (.node o501_3 .nil .nil))))) (.node o29_2 (.node (o45_2 P) (.node o77_2 (.node o141_2 (.node o269_3 (.node o525_3 .nil .nil) .nil) (.node o397_3 .nil .nil)) (.node o205_2 (.node o333_3 .nil .nil) (.node o461_3 .nil .nil))) (.node o109_2 (.node o173_2 (.node o301_3 (.node o557_3 .nil .nil) .nil) (.node o429_3 .nil .nil)) (.node o237_3 (.node o365_3 .nil .nil) (.node o493_3 .nil .nil)))) (.node o61_2 (.node o93_2 (.node o157_2 (.node o285_3 (.node o541_3 .nil .nil) .nil) (.node o413_3 .nil .nil)) (.node o221_2 (.node o349_3 .nil .nil) (.node o477_3 .nil .nil))) (.node o125_2 (.node o189_2 (.node o317_3 (.node o573_3 .nil .nil) .nil) (.node o445_3 .nil .nil)) (.node o253_3 (.node o381_3 .nil .nil) (.node o509_3 .nil .nil)))))))) (.node o2_0 (.node o4_0 (.node o8_0 (.node o16_2 (.node o32_2 (.node o64_2 (.node o128_2 (.node o256_3 (.node o512_3 .nil .nil) .nil) (.node o384_3 .nil .nil)) (.node o192_2 (.node o320_3 (.node o576_3 .nil .nil) .nil) (.node o448_3 .nil .nil))) (.node o96_2 (.node o160_2 (.node o288_3 (.node o544_3 .nil .nil) .nil) (.node o416_3 .nil .nil)) (.node o224_2 (.node o352_3 .nil .nil) (.node o480_3 .nil .nil)))) (.node o48_2 (.node o80_2 (.node o144_2 (.node o272_3 (.node o528_3 .nil .nil) .nil) (.node o400_3 .nil .nil)) (.node o208_2 (.node o336_3 .nil .nil) (.node o464_3 .nil .nil))) (.node o112_2 (.node o176_2 (.node o304_3 (.node o560_3 .nil .nil) .nil) (.node o432_3 .nil .nil)) (.node o240_3 (.node (o368_3 P) .nil .nil) (.node o496_3 .nil .nil))))) (.node o24_2 (.node o40_2 (.node (o72_2 P) (.node o136_2 (.node o264_3 (.node o520_3 .nil .nil) .nil) (.node o392_3 .nil .nil)) (.node o200_2 (.node o328_3 (.node o584_3 .nil .nil) .nil) (.node o456_3 .nil .nil))) (.node o104_2 (.node o168_2 (.node o296_3 (.node o552_3 .nil .nil) .nil) (.node o424_3 .nil .nil)) (.node o232_3 (.node o360_3 .nil .nil) (.node o488_3 .nil .nil)))) (.node o56_2 (.node o88_2 (.node o152_2 (.node o280_3 (.node o536_3 .nil .nil) .nil) (.node o408_3 .nil .nil)) (.node o216_2 (.node o344_3 .nil .nil) (.node o472_3 .nil .nil))) (.node o120_2 (.node (o184_2 P) (.node o312_3 (.node o568_3 .nil .nil) .nil) (.node o440_3 .nil .nil)) (.node o248_3 (.node (o376_3 P) .nil .nil) (.node o504_3 .nil .nil)))))) (.node o12_3 (.node o20_2 (.node o36_2 (.node o68_2 (.node o132_2 (.node o260_3 (.node o516_3 .nil .nil) .nil) (.node o388_3 .nil .nil)) (.node o196_2 (.node o324_3 (.node o580_3 .nil .nil) .nil) (.node o452_3 .nil .nil))) (.node o100_2 (.node o164_2 (.node o292_3 (.node o548_3 .nil .nil) .nil) (.node o420_3 .nil .nil)) (.node o228_3 (.node o356_3 .nil .nil) (.node o484_3 .nil .nil)))) (.node o52_2 (.node o84_2 (.node o148_2 (.node o276_3 (.node o532_3 .nil .nil) .nil) (.node o404_3 .nil .nil)) (.node o212_2 (.node o340_3 .nil .nil) (.node o468_3 .nil .nil))) (.node o116_2 (.node o180_2 (.node o308_3 (.node o564_3 .nil .nil) .nil) (.node o436_3 .nil .nil)) (.node o244_3 (.node o372_3 .nil .nil) (.node o500_3 .nil .nil))))) (.node o28_2 (.node o44_2 (.node o76_2 (.node o140_2 (.node o268_3 (.node o524_3 .nil .nil) .nil) (.node o396_3 .nil .nil)) (.node o204_2 (.node o332_3 .nil .nil) (.node o460_3 .nil .nil))) (.node o108_2 (.node o172_2 (.node o300_3 (.node o556_3 .nil .nil) .nil) (.node o428_3 .nil .nil)) (.node o236_3 (.node o364_3 .nil .nil) (.node o492_3 .nil .nil)))) (.node o60_2 (.node o92_2 (.node o156_2 (.node o284_3 (.node o540_3 .nil .nil) .nil) (.node o412_3 .nil .nil)) (.node o220_2 (.node o348_3 .nil .nil) (.node o476_3 .nil .nil))) (.node o124_2 (.node o188_2 (.node o316_3 (.node o572_3 .nil .nil) .nil) (.node o444_3 .nil .nil)) (.node o252_3 (.node o380_3 .nil .nil) (.node o508_3 .nil .nil))))))) (.node o6_0 (.node o10_0 (.node o18_2 (.node o34_2 (.node (o66_2 P) (.node o130_2 (.node o258_3 (.node o514_3 .nil .nil) .nil) (.node o386_3 .nil .nil)) (.node o194_2 (.node o322_3 (.node o578_3 .nil .nil) .nil) (.node o450_3 .nil .nil))) (.node o98_2 (.node o162_2 (.node o290_3 (.node o546_3 .nil .nil) .nil) (.node o418_3 .nil .nil)) (.node o226_2 (.node o354_3 .nil .nil) (.node o482_3 .nil .nil)))) (.node o50_2 (.node o82_2 (.node o146_2 (.node o274_3 (.node o530_3 .nil .nil) .nil) (.node o402_3 .nil .nil)) (.node o210_2 (.node o338_3 .nil .nil) (.node o466_3 .nil .nil))) (.node o114_2 (.node o178_2 (.node o306_3 (.node o562_3 .nil .nil) .nil) (.node o434_3 .nil .nil)) (.node o242_3 (.node o370_3 .nil .nil) (.node o498_3 .nil .nil))))) (.node o26_2 (.node o42_2 (.node o74_2 (.node o138_2 (.node o266_3 (.node o522_3 .nil .nil) .nil) (.node o394_3 .nil .nil)) (.node o202_2 (.node o330_3 (.node o586_3 .nil .nil) .nil) (.node o458_3 .nil .nil))) (.node o106_2 (.node o170_2 (.node o298_3 (.node o554_3 .nil .nil) .nil) (.node o426_3 .nil .nil)) (.node o234_3 (.node o362_3 .nil .nil) (.node o490_3 .nil .nil)))) (.node o58_2 (.node o90_2 (.node o154_2 (.node o282_3 (.node o538_3 .nil .nil) .nil) (.node o410_3 .nil .nil)) (.node o218_2 (.node o346_3 .nil .nil) (.node o474_3 .nil .nil))) (.node o122_2 (.node o186_2 (.node o314_3 (.node o570_3 .nil .nil) .nil) (.node o442_3 .nil .nil)) (.node o250_3 (.node o378_3 .nil .nil) (.node o506_3 .nil .nil)))))) (.node o14_1 (.node o22_2 (.node o38_2 (.node o70_2 (.node o134_2 (.node o262_3 (.node o518_3 .nil .nil) .nil) (.node o390_3 .nil .nil)) (.node o198_2 (.node o326_3 (.node o582_3 .nil .nil) .nil) (.node o454_3 .nil .nil))) (.node o102_2 (.node o166_2 (.node o294_3 (.node o550_3 .nil .nil) .nil) (.node o422_3 .nil .nil)) (.node (o230_3 P) (.node o358_3 .nil .nil) (.node o486_3 .nil .nil)))) (.node o54_2 (.node o86_2 (.node o150_2 (.node o278_3 (.node o534_3 .nil .nil) .nil) (.node o406_3 .nil .nil)) (.node o214_2 (.node o342_3 .nil .nil) (.node o470_3 .nil .nil))) (.node o118_2 (.node o182_2 (.node o310_3 (.node o566_3 .nil .nil) .nil) (.node o438_3 .nil .nil)) (.node o246_3 (.node o374_3 .nil .nil) (.node o502_3 .nil .nil))))) (.node (o30_2 P) (.node o46_2 (.node o78_2 (.node o142_2 (.node o270_3 (.node o526_3 .nil .nil) .nil) (.node o398_3 .nil .nil)) (.node o206_2 (.node o334_3 .nil .nil) (.node o462_3 .nil .nil))) (.node o110_2 (.node o174_2 (.node o302_3 (.node o558_3 .nil .nil) .nil) (.node o430_3 .nil .nil)) (.node o238_3 (.node o366_3 .nil .nil) (.node o494_3 .nil .nil)))) (.node o62_2 (.node o94_2 (.node o158_2 (.node o286_3 (.node o542_3 .nil .nil) .nil) (.node o414_3 .nil .nil)) (.node o222_2 (.node o350_3 .nil .nil) (.node o478_3 .nil .nil))) (.node o126_2 (.node o190_2 (.node o318_3 (.node o574_3 .nil .nil) .nil) (.node o446_3 .nil .nil)) (.node o254_3 (.node o382_3 .nil .nil) (.node o510_3 .nil .nil)))))))))
noncomputable def o3_4 (P : Params) : Obj := ⟨.type "dict", none, (.dict ⟨[⟨PyData.keyHash P "__name__", .str "__name__" 165, .str "law_frametongue_k02_whole_trees_told_and_rea" 869⟩, ⟨PyData.keyHash P "__doc__", .str "__doc__" 166, .none⟩, ⟨PyData.keyHash P "__package__", .str "__package__" 167, .none⟩, ⟨PyData.keyHash P "__loader__", .str "__loader__" 168, .builtin "__main__.__loader__#opaque"⟩, ⟨PyData.keyHash P "__spec__", .str "__spec__" 169, .none⟩, ⟨PyData.keyHash P "__annotations__", .str "__annotations__" 170, .ref 6⟩, ⟨PyData.keyHash P "__builtins__", .str "__builtins__" 171, .ref 4⟩, ⟨PyData.keyHash P "__file__", .str "__file__" 173, .str "/claim/cut.py" 172⟩, ⟨PyData.keyHash P "__cached__", .str "__cached__" 174, .none⟩, ⟨PyData.keyHash P "FrameError", .str "FrameError" 206, .ref 24⟩, ⟨PyData.keyHash P "InvalidText", .str "InvalidText" 233, .ref 46⟩, ⟨PyData.keyHash P "InvalidTree", .str "InvalidTree" 260, .ref 67⟩, ⟨PyData.keyHash P "NotWellRead", .str "NotWellRead" 289, .ref 88⟩, ⟨PyData.keyHash P "is_whole", .str "is_whole" 298, .ref 97⟩, ⟨PyData.keyHash P "is_between", .str "is_between" 307, .ref 104⟩, ⟨PyData.keyHash P "is_string", .str "is_string" 314, .ref 111⟩, ⟨PyData.keyHash P "is_row", .str "is_row" 323, .ref 118⟩, ⟨PyData.keyHash P "are_same", .str "are_same" 329, .ref 123⟩, ⟨PyData.keyHash P "is_simple", .str "is_simple" 336, .ref 130⟩, ⟨PyData.keyHash P "LETTERS", .str "LETTERS" 340, .str "abcdefghijklmnopqrstuvwxyz" 339⟩, ⟨PyData.keyHash P "FIGURES", .str "FIGURES" 342, .str "0123456789" 341⟩, ⟨PyData.keyHash P "OTHERS", .str "OTHERS" 344, .str "+-*/^(),=" 343⟩, ⟨PyData.keyHash P "BLANK", .str "BLANK" 346, .str " " 345⟩, ⟨PyData.keyHash P "MOST_LETTERS", .str "MOST_LETTERS" 348, .int 8 347⟩, ⟨PyData.keyHash P "MOST_FIGURES", .str "MOST_FIGURES" 350, .int 6 349⟩, ⟨PyData.keyHash P "wrong_sign", .str "wrong_sign" 356, .ref 135⟩, ⟨PyData.keyHash P "sort_of", .str "sort_of" 363, .ref 142⟩, ⟨PyData.keyHash P "row_words", .str "row_words" 374, .ref 149⟩, ⟨PyData.keyHash P "is_run_of", .str "is_run_of" 380, .ref 154⟩, ⟨PyData.keyHash P "is_any_name", .str "is_any_name" 387, .ref 161⟩, ⟨PyData.keyHash P "is_name_word", .str "is_name_word" 394, .ref 168⟩, ⟨PyData.keyHash P "is_any_number", .str "is_any_number" 401, .ref 175⟩, ⟨PyData.keyHash P "is_number_word", .str "is_number_word" 408, .ref 182⟩, ⟨PyData.keyHash P "DEEDS", .str "DEEDS" 415, .ref 183⟩, ⟨PyData.keyHash P "MOST_PLACES", .str "MOST_PLACES" 417, .int 40 416⟩, ⟨PyData.keyHash P "MOST_NUMBER", .str "MOST_NUMBER" 419, .int 999999 418⟩, ⟨PyData.keyHash P "MOST_POWER", .str "MOST_POWER" 421, .int 4 420⟩, ⟨PyData.keyHash P "MOST_OWN", .str "MOST_OWN" 423, .int 3 422⟩, ⟨PyData.keyHash P "SIZES", .str "SIZES" 451, .ref 184⟩, ⟨PyData.keyHash P "GIVEN_HEADS", .str "GIVEN_HEADS" 455, .ref 185⟩, ⟨PyData.keyHash P "is_name", .str "is_name" 462, .ref 192⟩, ⟨PyData.keyHash P "is_headed", .str "is_headed" 470, .ref 199⟩, ⟨PyData.keyHash P "is_leaf", .str "is_leaf" 477, .ref 206⟩, ⟨PyData.keyHash P "is_branch", .str "is_branch" 484, .ref 213⟩, ⟨PyData.keyHash P "has_tree_form", .str "has_tree_form" 494, .ref 220⟩, ⟨PyData.keyHash P "parts_of", .str "parts_of" 501, .ref 227⟩, ⟨PyData.keyHash P "MOST_DEEP", .str "MOST_DEEP" 505, .int 12 504⟩, ⟨PyData.keyHash P "SIGN", .str "SIGN" 507, .str "sign" 506⟩, ⟨PyData.keyHash P "FORM", .str "FORM" 509, .str "form" 508⟩, ⟨PyData.keyHash P "RowParser", .str "RowParser" 707, .ref 369⟩, ⟨PyData.keyHash P "ReadRow", .str "ReadRow" 745, .ref 390⟩, ⟨PyData.keyHash P "column_behind", .str "column_behind" 754, .ref 401⟩, ⟨PyData.keyHash P "read_by", .str "read_by" 767, .ref 408⟩, ⟨PyData.keyHash P "row_by", .str "row_by" 774, .ref 415⟩, ⟨PyData.keyHash P "sum_by", .str "sum_by" 781, .ref 422⟩, ⟨PyData.keyHash P "SUM", .str "SUM" 785, .int 0 784⟩, ⟨PyData.keyHash P "TERM", .str "TERM" 787, .int 1 786⟩, ⟨PyData.keyHash P "POWER", .str "POWER" 789, .int 2 788⟩, ⟨PyData.keyHash P "ATOM", .str "ATOM" 791, .int 3 790⟩, ⟨PyData.keyHash P "at_least", .str "at_least" 799, .ref 429⟩, ⟨PyData.keyHash P "deed_text", .str "deed_text" 809, .ref 436⟩, ⟨PyData.keyHash P "leveled", .str "leveled" 815, .ref 441⟩, ⟨PyData.keyHash P "sum_text", .str "sum_text" 822, .ref 448⟩, ⟨PyData.keyHash P "check_text", .str "check_text" 831, .ref 455⟩, ⟨PyData.keyHash P "own_tree", .str "own_tree" 838, .ref 462⟩, ⟨PyData.keyHash P "read_row", .str "read_row" 845, .ref 469⟩, ⟨PyData.keyHash P "read_tree", .str "read_tree" 852, .ref 476⟩, ⟨PyData.keyHash P "is_tree", .str "is_tree" 861, .ref 483⟩, ⟨PyData.keyHash P "tree_text", .str "tree_text" 868, .ref 490⟩, ⟨PyData.keyHash P "_law_purse", .str "_law_purse" 881, .ref 497⟩, ⟨PyData.keyHash P "_law_take", .str "_law_take" 892, .ref 504⟩, ⟨PyData.keyHash P "_law_pick", .str "_law_pick" 900, .ref 511⟩, ⟨PyData.keyHash P "_law_same", .str "_law_same" 908, .ref 518⟩, ⟨PyData.keyHash P "_law_name_of", .str "_law_name_of" 917, .ref 525⟩, ⟨PyData.keyHash P "_law_tree", .str "_law_tree" 928, .ref 532⟩, ⟨PyData.keyHash P "_law_program", .str "_law_program" 934, .ref 537⟩, ⟨PyData.keyHash P "_law_within", .str "_law_within" 942, .ref 544⟩, ⟨PyData.keyHash P "_law_row_text", .str "_law_row_text" 948, .ref 549⟩, ⟨PyData.keyHash P "_law_rows_text", .str "_law_rows_text" 954, .ref 554⟩, ⟨PyData.keyHash P "_law_text", .str "_law_text" 960, .ref 559⟩, ⟨PyData.keyHash P "_law_any", .str "_law_any" 974, .ref 566⟩, ⟨PyData.keyHash P "_law_blank", .str "_law_blank" 981, .ref 573⟩, ⟨PyData.keyHash P "_law_glued", .str "_law_glued" 991, .ref 580⟩, ⟨PyData.keyHash P "_law_wrapped", .str "_law_wrapped" 1000, .ref 587⟩, ⟨PyData.keyHash P "_law_loose_words", .str "_law_loose_words" 1016, .ref 594⟩, ⟨PyData.keyHash P "_law_loose_text", .str "_law_loose_text" 1022, .ref 599⟩, ⟨PyData.keyHash P "_law_is_read", .str "_law_is_read" 1036, .ref 606⟩, ⟨PyData.keyHash P "_law_right", .str "_law_right" 1047, .ref 613⟩, ⟨PyData.keyHash P "law", .str "law" 1053, .ref 618⟩]⟩ 89), ⟨[]⟩⟩
noncomputable def o12_4 : Obj := ⟨.none, none, (.fields ⟨[.int 2 0, .int 0 0, .ref 20, .int 4 0, .int 0 0, .ref 34, .int 9 0, .int 0 0, .ref 55, .int 14 0, .int 0 0, .ref 76, .int 21 0, .int 0 0, .ref 96, .int 23 0, .int 0 0, .ref 103, .int 25 0, .int 0 0, .ref 110, .int 27 0, .int 0 0, .ref 117, .int 29 0, .int 0 0, .ref 122, .int 37 0, .int 0 0, .ref 129, .int 46 0, .int 0 0, .ref 134, .int 49 0, .int 0 0, .ref 141, .int 53 0, .int 0 0, .ref 148, .int 63 0, .int 0 0, .ref 153, .int 65 0, .int 0 0, .ref 160, .int 67 0, .int 0 0, .ref 167, .int 69 0, .int 0 0, .ref 174, .int 71 0, .int 0 0, .ref 181, .int 81 0, .int 0 0, .ref 191, .int 83 0, .int 0 0, .ref 198, .int 87 0, .int 0 0, .ref 205, .int 91 0, .int 0 0, .ref 212, .int 97 0, .int 0 0, .ref 219, .int 108 0, .int 0 0, .ref 226, .int 118 0, .int 0 0, .ref 233, .int 263 0, .int 0 0, .ref 379, .int 271 0, .int 0 0, .ref 400, .int 273 0, .int 0 0, .ref 407, .int 289 0, .int 0 0, .ref 414, .int 291 0, .int 0 0, .ref 421, .int 298 0, .int 0 0, .ref 428, .int 300 0, .int 0 0, .ref 435, .int 303 0, .int 0 0, .ref 440, .int 313 0, .int 0 0, .ref 447, .int 316 0, .int 0 0, .ref 454, .int 319 0, .int 0 0, .ref 461, .int 323 0, .int 0 0, .ref 468, .int 326 0, .int 0 0, .ref 475, .int 330 0, .int 0 0, .ref 482, .int 332 0, .int 0 0, .ref 489, .int 337 0, .int 0 0, .ref 496, .int 343 0, .int 0 0, .ref 503, .int 351 0, .int 0 0, .ref 510, .int 353 0, .int 0 0, .ref 517, .int 355 0, .int 0 0, .ref 524, .int 357 0, .int 0 0, .ref 531, .int 373 0, .int 0 0, .ref 536, .int 378 0, .int 0 0, .ref 543, .int 380 0, .int 0 0, .ref 548, .int 397 0, .int 0 0, .ref 553, .int 403 0, .int 0 0, .ref 558, .int 405 0, .int 0 0, .ref 565, .int 431 0, .int 0 0, .ref 572, .int 433 0, .int 0 0, .ref 579, .int 438 0, .int 0 0, .ref 586, .int 440 0, .int 0 0, .ref 593, .int 460 0, .int 0 0, .ref 598, .int 472 0, .int 0 0, .ref 605, .int 482 0, .int 0 0, .ref 612, .int 494 0, .int 0 0, .ref 617]⟩), ⟨[]⟩⟩
noncomputable def o588_4 : Obj := ⟨.type "tuple", none, (.seq ⟨[]⟩ 0), ⟨[]⟩⟩
noncomputable def o589_4 : Obj := ⟨.none, none, (.fields ⟨[]⟩), ⟨[]⟩⟩
noncomputable def o590_4 : Obj := ⟨.type "tuple", none, (.seq ⟨[.str "draws" 1004, .str "spec" 1005, .str "row" 1006, .str "own" 1007, .str "stack" 1008, .str "item" 1009, .str "words" 1010, .str "part" 1011, .str "least" 1012, .str "left" 1013]⟩ 0), ⟨[]⟩⟩
noncomputable def o591_4 : Obj := ⟨.type "tuple", none, (.seq ⟨[]⟩ 0), ⟨[]⟩⟩
noncomputable def o592_4 : Obj := ⟨.none, none, (.func (fQ (topS 84) "_law_loose_words" "_law_loose_words" 0 [] (.none) (.none) (.none) (.none) none (.none) (.none) 0)), ⟨[]⟩⟩
noncomputable def o593_4 : Obj := ⟨.type "code", none, (.fields ⟨[.str "_law_loose_words" 1001, .str "_law_loose_words" 1002, .str "/claim/cut.py" 1003, .int 440 0, .int 4 0, .int 0 0, .int 0 0, .int 3 0, .ref 588, .bool true, .int 181 0, .ref 589, .none, .ref 590, .ref 591, .ref 592, .int 1014 0, .int 440 0, .str "/claim/cut.py" 1015]⟩), ⟨[]⟩⟩
noncomputable def o594_4 : Obj := ⟨.type "function", none, (.func (fQ (topS 84) "_law_loose_words" "_law_loose_words" 3 [] (.none) (.none) (.none) (.str "law_frametongue_k02_whole_trees_told_and_rea" 869) none (.ref 593) (.none) 0)), ⟨[]⟩⟩
noncomputable def o595_4 : Obj := ⟨.type "tuple", none, (.seq ⟨[]⟩ 0), ⟨[]⟩⟩
noncomputable def o596_4 : Obj := ⟨.none, none, (.fields ⟨[]⟩), ⟨[]⟩⟩
noncomputable def o597_4 : Obj := ⟨.none, none, (.func (fQ (topS 85) "_law_loose_text" "_law_loose_text" 0 [] (.none) (.none) (.none) (.none) none (.none) (.none) 0)), ⟨[]⟩⟩
noncomputable def o598_4 : Obj := ⟨.type "code", none, (.fields ⟨[.str "_law_loose_text" 1017, .str "_law_loose_text" 1018, .str "/claim/cut.py" 1019, .int 460 0, .int 2 0, .int 0 0, .int 0 0, .int 3 0, .ref 595, .bool true, .int 181 0, .ref 596, .none, .none, .none, .ref 597, .int 1020 0, .int 460 0, .str "/claim/cut.py" 1021]⟩), ⟨[]⟩⟩
noncomputable def o599_4 : Obj := ⟨.type "function", none, (.func (fQ (topS 85) "_law_loose_text" "_law_loose_text" 3 [] (.none) (.none) (.none) (.str "law_frametongue_k02_whole_trees_told_and_rea" 869) none (.ref 598) (.none) 0)), ⟨[]⟩⟩
noncomputable def o600_4 : Obj := ⟨.type "tuple", none, (.seq ⟨[]⟩ 0), ⟨[]⟩⟩
noncomputable def o601_4 : Obj := ⟨.none, none, (.fields ⟨[]⟩), ⟨[]⟩⟩
noncomputable def o602_4 : Obj := ⟨.type "tuple", none, (.seq ⟨[.str "draws" 1026, .str "spec" 1027, .str "row" 1028, .str "tree" 1029, .str "text" 1030, .str "both_told" 1031, .str "lap" 1032, .str "told" 1033]⟩ 0), ⟨[]⟩⟩
noncomputable def o603_4 : Obj := ⟨.type "tuple", none, (.seq ⟨[]⟩ 0), ⟨[]⟩⟩
noncomputable def o604_4 : Obj := ⟨.none, none, (.func (fQ (topS 86) "_law_is_read" "_law_is_read" 0 [] (.none) (.none) (.none) (.none) none (.none) (.none) 0)), ⟨[]⟩⟩
noncomputable def o605_4 : Obj := ⟨.type "code", none, (.fields ⟨[.str "_law_is_read" 1023, .str "_law_is_read" 1024, .str "/claim/cut.py" 1025, .int 472 0, .int 3 0, .int 0 0, .int 0 0, .int 3 0, .ref 600, .bool true, .int 181 0, .ref 601, .none, .ref 602, .ref 603, .ref 604, .int 1034 0, .int 472 0, .str "/claim/cut.py" 1035]⟩), ⟨[]⟩⟩
noncomputable def o606_4 : Obj := ⟨.type "function", none, (.func (fQ (topS 86) "_law_is_read" "_law_is_read" 3 [] (.none) (.none) (.none) (.str "law_frametongue_k02_whole_trees_told_and_rea" 869) none (.ref 605) (.none) 0)), ⟨[]⟩⟩
noncomputable def o607_4 : Obj := ⟨.type "tuple", none, (.seq ⟨[]⟩ 0), ⟨[]⟩⟩
noncomputable def o608_4 : Obj := ⟨.none, none, (.fields ⟨[]⟩), ⟨[]⟩⟩
noncomputable def o609_4 : Obj := ⟨.type "tuple", none, (.seq ⟨[.str "draws" 1040, .str "spec" 1041, .str "turn" 1042, .str "told" 1043, .str "due" 1044]⟩ 0), ⟨[]⟩⟩
noncomputable def o610_4 : Obj := ⟨.type "tuple", none, (.seq ⟨[]⟩ 0), ⟨[]⟩⟩
noncomputable def o611_4 : Obj := ⟨.none, none, (.func (fQ (topS 87) "_law_right" "_law_right" 0 [] (.none) (.none) (.none) (.none) none (.none) (.none) 0)), ⟨[]⟩⟩
noncomputable def o612_4 : Obj := ⟨.type "code", none, (.fields ⟨[.str "_law_right" 1037, .str "_law_right" 1038, .str "/claim/cut.py" 1039, .int 482 0, .int 1 0, .int 0 0, .int 0 0, .int 3 0, .ref 607, .bool true, .int 181 0, .ref 608, .none, .ref 609, .ref 610, .ref 611, .int 1045 0, .int 482 0, .str "/claim/cut.py" 1046]⟩), ⟨[]⟩⟩
noncomputable def o613_4 : Obj := ⟨.type "function", none, (.func (fQ (topS 87) "_law_right" "_law_right" 3 [] (.none) (.none) (.none) (.str "law_frametongue_k02_whole_trees_told_and_rea" 869) none (.ref 612) (.none) 0)), ⟨[]⟩⟩
noncomputable def o614_4 : Obj := ⟨.type "tuple", none, (.seq ⟨[]⟩ 0), ⟨[]⟩⟩
noncomputable def o615_4 : Obj := ⟨.none, none, (.fields ⟨[]⟩), ⟨[]⟩⟩
noncomputable def o616_4 : Obj := ⟨.none, none, (.func (fQ (topS 88) "law" "law" 0 [] (.none) (.none) (.none) (.none) none (.none) (.none) 0)), ⟨[]⟩⟩
noncomputable def o617_4 : Obj := ⟨.type "code", none, (.fields ⟨[.str "law" 1048, .str "law" 1049, .str "/claim/cut.py" 1050, .int 494 0, .int 1 0, .int 0 0, .int 0 0, .int 3 0, .ref 614, .bool true, .int 181 0, .ref 615, .none, .none, .none, .ref 616, .int 1051 0, .int 494 0, .str "/claim/cut.py" 1052]⟩), ⟨[]⟩⟩
noncomputable def o618_4 : Obj := ⟨.type "function", none, (.func (fQ (topS 88) "law" "law" 3 [] (.none) (.none) (.none) (.str "law_frametongue_k02_whole_trees_told_and_rea" 869) none (.ref 617) (.none) 0)), ⟨[]⟩⟩
noncomputable def t4 (P : Params) : BT := (.node (o0_0 P) (.node (o1_0 P) (.node (o3_4 P) (.node o7_0 (.node o15_2 (.node o31_2 (.node o63_2 (.node o127_2 (.node o255_3 (.node o511_3 .nil .nil) .nil) (.node o383_3 .nil .nil)) (.node o191_2 (.node o319_3 (.node o575_3 .nil .nil) .nil) (.node o447_3 .nil .nil))) (.node o95_2 (.node o159_2 (.node o287_3 (.node o543_3 .nil .nil) .nil) (.node o415_3 .nil .nil)) (.node o223_2 (.node o351_3 (.node o607_4 .nil .nil) .nil) (.node o479_3 .nil .nil)))) (.node o47_2 (.node o79_2 (.node o143_2 (.node o271_3 (.node o527_3 .nil .nil) .nil) (.node o399_3 .nil .nil)) (.node o207_2 (.node o335_3 (.node o591_4 .nil .nil) .nil) (.node o463_3 .nil .nil))) (.node o111_2 (.node o175_2 (.node o303_3 (.node o559_3 .nil .nil) .nil) (.node o431_3 .nil .nil)) (.node o239_3 (.node o367_3 .nil .nil) (.node o495_3 .nil .nil))))) (.node (o23_2 P) (.node o39_2 (.node o71_2 (.node o135_2 (.node o263_3 (.node o519_3 .nil .nil) .nil) (.node o391_3 .nil .nil)) (.node o199_2 (.node o327_3 (.node o583_3 .nil .nil) .nil) (.node o455_3 .nil .nil))) (.node o103_2 (.node o167_2 (.node o295_3 (.node o551_3 .nil .nil) .nil) (.node o423_3 .nil .nil)) (.node o231_3 (.node o359_3 (.node o615_4 .nil .nil) .nil) (.node o487_3 .nil .nil)))) (.node o55_2 (.node (o87_2 P) (.node o151_2 (.node o279_3 (.node o535_3 .nil .nil) .nil) (.node o407_3 .nil .nil)) (.node o215_2 (.node o343_3 (.node o599_4 .nil .nil) .nil) (.node o471_3 .nil .nil))) (.node o119_2 (.node o183_2 (.node o311_3 (.node o567_3 .nil .nil) .nil) (.node o439_3 .nil .nil)) (.node o247_3 (.node o375_3 .nil .nil) (.node o503_3 .nil .nil)))))) (.node o11_1 (.node o19_2 (.node o35_2 (.node o67_2 (.node o131_2 (.node o259_3 (.node o515_3 .nil .nil) .nil) (.node o387_3 .nil .nil)) (.node o195_2 (.node o323_3 (.node o579_3 .nil .nil) .nil) (.node o451_3 .nil .nil))) (.node o99_2 (.node o163_2 (.node o291_3 (.node o547_3 .nil .nil) .nil) (.node o419_3 .nil .nil)) (.node o227_2 (.node o355_3 (.node o611_4 .nil .nil) .nil) (.node o483_3 .nil .nil)))) (.node (o51_2 P) (.node o83_2 (.node o147_2 (.node o275_3 (.node o531_3 .nil .nil) .nil) (.node o403_3 .nil .nil)) (.node o211_2 (.node o339_3 (.node o595_4 .nil .nil) .nil) (.node o467_3 .nil .nil))) (.node o115_2 (.node o179_2 (.node o307_3 (.node o563_3 .nil .nil) .nil) (.node o435_3 .nil .nil)) (.node o243_3 (.node o371_3 .nil .nil) (.node o499_3 .nil .nil))))) (.node o27_2 (.node o43_2 (.node o75_2 (.node o139_2 (.node o267_3 (.node o523_3 .nil .nil) .nil) (.node o395_3 .nil .nil)) (.node o203_2 (.node o331_3 (.node o587_3 .nil .nil) .nil) (.node o459_3 .nil .nil))) (.node o107_2 (.node o171_2 (.node o299_3 (.node o555_3 .nil .nil) .nil) (.node o427_3 .nil .nil)) (.node o235_3 (.node o363_3 .nil .nil) (.node o491_3 .nil .nil)))) (.node o59_2 (.node o91_2 (.node o155_2 (.node o283_3 (.node o539_3 .nil .nil) .nil) (.node o411_3 .nil .nil)) (.node o219_2 (.node o347_3 (.node o603_4 .nil .nil) .nil) (.node o475_3 .nil .nil))) (.node o123_2 (.node o187_2 (.node o315_3 (.node o571_3 .nil .nil) .nil) (.node o443_3 .nil .nil)) (.node o251_3 (.node o379_3 .nil .nil) (.node o507_3 .nil .nil))))))) (.node o5_0 (.node o9_0 (.node (o17_2 P) (.node o33_2 (.node o65_2 (.node o129_2 (.node o257_3 (.node o513_3 .nil .nil) .nil) (.node o385_3 .nil .nil)) (.node o193_2 (.node o321_3 (.node o577_3 .nil .nil) .nil) (.node o449_3 .nil .nil))) (.node o97_2 (.node o161_2 (.node o289_3 (.node o545_3 .nil .nil) .nil) (.node o417_3 .nil .nil)) (.node o225_2 (.node o353_3 (.node o609_4 .nil .nil) .nil) (.node o481_3 .nil .nil)))) (.node o49_2 (.node o81_2 (.node o145_2 (.node o273_3 (.node o529_3 .nil .nil) .nil) (.node o401_3 .nil .nil)) (.node o209_2 (.node o337_3 (.node o593_4 .nil .nil) .nil) (.node o465_3 .nil .nil))) (.node o113_2 (.node o177_2 (.node o305_3 (.node o561_3 .nil .nil) .nil) (.node o433_3 .nil .nil)) (.node o241_3 (.node o369_3 .nil .nil) (.node o497_3 .nil .nil))))) (.node o25_2 (.node o41_2 (.node o73_2 (.node o137_2 (.node o265_3 (.node o521_3 .nil .nil) .nil) (.node o393_3 .nil .nil)) (.node o201_2 (.node o329_3 (.node o585_3 .nil .nil) .nil) (.node o457_3 .nil .nil))) (.node o105_2 (.node o169_2 (.node o297_3 (.node o553_3 .nil .nil) .nil) (.node o425_3 .nil .nil)) (.node o233_3 (.node o361_3 (.node o617_4 .nil .nil) .nil) (.node o489_3 .nil .nil)))) (.node o57_2 (.node o89_2 (.node o153_2 (.node o281_3 (.node o537_3 .nil .nil) .nil) (.node o409_3 .nil .nil)) (.node o217_2 (.node o345_3 (.node o601_4 .nil .nil) .nil) (.node o473_3 .nil .nil))) (.node o121_2 (.node o185_2 (.node o313_3 (.node o569_3 .nil .nil) .nil) (.node o441_3 .nil .nil)) (.node o249_3 (.node o377_3 .nil .nil) (.node o505_3 .nil .nil)))))) (.node o13_1 (.node o21_2 (.node o37_2 (.node o69_2 (.node o133_2 (.node o261_3 (.node o517_3 .nil .nil) .nil) (.node (o389_3 P) .nil .nil)) (.node o197_2 (.node o325_3 (.node o581_3 .nil .nil) .nil) (.node o453_3 .nil .nil))) (.node o101_2 (.node o165_2 (.node o293_3 (.node o549_3 .nil .nil) .nil) (.node o421_3 .nil .nil)) (.node o229_3 (.node o357_3 (.node o613_4 .nil .nil) .nil) (.node o485_3 .nil .nil)))) (.node o53_2 (.node o85_2 (.node o149_2 (.node o277_3 (.node o533_3 .nil .nil) .nil) (.node o405_3 .nil .nil)) (.node o213_2 (.node o341_3 (.node o597_4 .nil .nil) .nil) (.node o469_3 .nil .nil))) (.node o117_2 (.node o181_2 (.node o309_3 (.node o565_3 .nil .nil) .nil) (.node o437_3 .nil .nil)) (.node o245_3 (.node o373_3 .nil .nil) (.node o501_3 .nil .nil))))) (.node o29_2 (.node (o45_2 P) (.node o77_2 (.node o141_2 (.node o269_3 (.node o525_3 .nil .nil) .nil) (.node o397_3 .nil .nil)) (.node o205_2 (.node o333_3 (.node o589_4 .nil .nil) .nil) (.node o461_3 .nil .nil))) (.node o109_2 (.node o173_2 (.node o301_3 (.node o557_3 .nil .nil) .nil) (.node o429_3 .nil .nil)) (.node o237_3 (.node o365_3 .nil .nil) (.node o493_3 .nil .nil)))) (.node o61_2 (.node o93_2 (.node o157_2 (.node o285_3 (.node o541_3 .nil .nil) .nil) (.node o413_3 .nil .nil)) (.node o221_2 (.node o349_3 (.node o605_4 .nil .nil) .nil) (.node o477_3 .nil .nil))) (.node o125_2 (.node o189_2 (.node o317_3 (.node o573_3 .nil .nil) .nil) (.node o445_3 .nil .nil)) (.node o253_3 (.node o381_3 .nil .nil) (.node o509_3 .nil .nil)))))))) (.node o2_0 (.node o4_0 (.node o8_0 (.node o16_2 (.node o32_2 (.node o64_2 (.node o128_2 (.node o256_3 (.node o512_3 .nil .nil) .nil) (.node o384_3 .nil .nil)) (.node o192_2 (.node o320_3 (.node o576_3 .nil .nil) .nil) (.node o448_3 .nil .nil))) (.node o96_2 (.node o160_2 (.node o288_3 (.node o544_3 .nil .nil) .nil) (.node o416_3 .nil .nil)) (.node o224_2 (.node o352_3 (.node o608_4 .nil .nil) .nil) (.node o480_3 .nil .nil)))) (.node o48_2 (.node o80_2 (.node o144_2 (.node o272_3 (.node o528_3 .nil .nil) .nil) (.node o400_3 .nil .nil)) (.node o208_2 (.node o336_3 (.node o592_4 .nil .nil) .nil) (.node o464_3 .nil .nil))) (.node o112_2 (.node o176_2 (.node o304_3 (.node o560_3 .nil .nil) .nil) (.node o432_3 .nil .nil)) (.node o240_3 (.node (o368_3 P) .nil .nil) (.node o496_3 .nil .nil))))) (.node o24_2 (.node o40_2 (.node (o72_2 P) (.node o136_2 (.node o264_3 (.node o520_3 .nil .nil) .nil) (.node o392_3 .nil .nil)) (.node o200_2 (.node o328_3 (.node o584_3 .nil .nil) .nil) (.node o456_3 .nil .nil))) (.node o104_2 (.node o168_2 (.node o296_3 (.node o552_3 .nil .nil) .nil) (.node o424_3 .nil .nil)) (.node o232_3 (.node o360_3 (.node o616_4 .nil .nil) .nil) (.node o488_3 .nil .nil)))) (.node o56_2 (.node o88_2 (.node o152_2 (.node o280_3 (.node o536_3 .nil .nil) .nil) (.node o408_3 .nil .nil)) (.node o216_2 (.node o344_3 (.node o600_4 .nil .nil) .nil) (.node o472_3 .nil .nil))) (.node o120_2 (.node (o184_2 P) (.node o312_3 (.node o568_3 .nil .nil) .nil) (.node o440_3 .nil .nil)) (.node o248_3 (.node (o376_3 P) .nil .nil) (.node o504_3 .nil .nil)))))) (.node o12_4 (.node o20_2 (.node o36_2 (.node o68_2 (.node o132_2 (.node o260_3 (.node o516_3 .nil .nil) .nil) (.node o388_3 .nil .nil)) (.node o196_2 (.node o324_3 (.node o580_3 .nil .nil) .nil) (.node o452_3 .nil .nil))) (.node o100_2 (.node o164_2 (.node o292_3 (.node o548_3 .nil .nil) .nil) (.node o420_3 .nil .nil)) (.node o228_3 (.node o356_3 (.node o612_4 .nil .nil) .nil) (.node o484_3 .nil .nil)))) (.node o52_2 (.node o84_2 (.node o148_2 (.node o276_3 (.node o532_3 .nil .nil) .nil) (.node o404_3 .nil .nil)) (.node o212_2 (.node o340_3 (.node o596_4 .nil .nil) .nil) (.node o468_3 .nil .nil))) (.node o116_2 (.node o180_2 (.node o308_3 (.node o564_3 .nil .nil) .nil) (.node o436_3 .nil .nil)) (.node o244_3 (.node o372_3 .nil .nil) (.node o500_3 .nil .nil))))) (.node o28_2 (.node o44_2 (.node o76_2 (.node o140_2 (.node o268_3 (.node o524_3 .nil .nil) .nil) (.node o396_3 .nil .nil)) (.node o204_2 (.node o332_3 (.node o588_4 .nil .nil) .nil) (.node o460_3 .nil .nil))) (.node o108_2 (.node o172_2 (.node o300_3 (.node o556_3 .nil .nil) .nil) (.node o428_3 .nil .nil)) (.node o236_3 (.node o364_3 .nil .nil) (.node o492_3 .nil .nil)))) (.node o60_2 (.node o92_2 (.node o156_2 (.node o284_3 (.node o540_3 .nil .nil) .nil) (.node o412_3 .nil .nil)) (.node o220_2 (.node o348_3 (.node o604_4 .nil .nil) .nil) (.node o476_3 .nil .nil))) (.node o124_2 (.node o188_2 (.node o316_3 (.node o572_3 .nil .nil) .nil) (.node o444_3 .nil .nil)) (.node o252_3 (.node o380_3 .nil .nil) (.node o508_3 .nil .nil))))))) (.node o6_0 (.node o10_0 (.node o18_2 (.node o34_2 (.node (o66_2 P) (.node o130_2 (.node o258_3 (.node o514_3 .nil .nil) .nil) (.node o386_3 .nil .nil)) (.node o194_2 (.node o322_3 (.node o578_3 .nil .nil) .nil) (.node o450_3 .nil .nil))) (.node o98_2 (.node o162_2 (.node o290_3 (.node o546_3 .nil .nil) .nil) (.node o418_3 .nil .nil)) (.node o226_2 (.node o354_3 (.node o610_4 .nil .nil) .nil) (.node o482_3 .nil .nil)))) (.node o50_2 (.node o82_2 (.node o146_2 (.node o274_3 (.node o530_3 .nil .nil) .nil) (.node o402_3 .nil .nil)) (.node o210_2 (.node o338_3 (.node o594_4 .nil .nil) .nil) (.node o466_3 .nil .nil))) (.node o114_2 (.node o178_2 (.node o306_3 (.node o562_3 .nil .nil) .nil) (.node o434_3 .nil .nil)) (.node o242_3 (.node o370_3 .nil .nil) (.node o498_3 .nil .nil))))) (.node o26_2 (.node o42_2 (.node o74_2 (.node o138_2 (.node o266_3 (.node o522_3 .nil .nil) .nil) (.node o394_3 .nil .nil)) (.node o202_2 (.node o330_3 (.node o586_3 .nil .nil) .nil) (.node o458_3 .nil .nil))) (.node o106_2 (.node o170_2 (.node o298_3 (.node o554_3 .nil .nil) .nil) (.node o426_3 .nil .nil)) (.node o234_3 (.node o362_3 (.node o618_4 .nil .nil) .nil) (.node o490_3 .nil .nil)))) (.node o58_2 (.node o90_2 (.node o154_2 (.node o282_3 (.node o538_3 .nil .nil) .nil) (.node o410_3 .nil .nil)) (.node o218_2 (.node o346_3 (.node o602_4 .nil .nil) .nil) (.node o474_3 .nil .nil))) (.node o122_2 (.node o186_2 (.node o314_3 (.node o570_3 .nil .nil) .nil) (.node o442_3 .nil .nil)) (.node o250_3 (.node o378_3 .nil .nil) (.node o506_3 .nil .nil)))))) (.node o14_1 (.node o22_2 (.node o38_2 (.node o70_2 (.node o134_2 (.node o262_3 (.node o518_3 .nil .nil) .nil) (.node o390_3 .nil .nil)) (.node o198_2 (.node o326_3 (.node o582_3 .nil .nil) .nil) (.node o454_3 .nil .nil))) (.node o102_2 (.node o166_2 (.node o294_3 (.node o550_3 .nil .nil) .nil) (.node o422_3 .nil .nil)) (.node (o230_3 P) (.node o358_3 (.node o614_4 .nil .nil) .nil) (.node o486_3 .nil .nil)))) (.node o54_2 (.node o86_2 (.node o150_2 (.node o278_3 (.node o534_3 .nil .nil) .nil) (.node o406_3 .nil .nil)) (.node o214_2 (.node o342_3 (.node o598_4 .nil .nil) .nil) (.node o470_3 .nil .nil))) (.node o118_2 (.node o182_2 (.node o310_3 (.node o566_3 .nil .nil) .nil) (.node o438_3 .nil .nil)) (.node o246_3 (.node o374_3 .nil .nil) (.node o502_3 .nil .nil))))) (.node (o30_2 P) (.node o46_2 (.node o78_2 (.node o142_2 (.node o270_3 (.node o526_3 .nil .nil) .nil) (.node o398_3 .nil .nil)) (.node o206_2 (.node o334_3 (.node o590_4 .nil .nil) .nil) (.node o462_3 .nil .nil))) (.node o110_2 (.node o174_2 (.node o302_3 (.node o558_3 .nil .nil) .nil) (.node o430_3 .nil .nil)) (.node o238_3 (.node o366_3 .nil .nil) (.node o494_3 .nil .nil)))) (.node o62_2 (.node o94_2 (.node o158_2 (.node o286_3 (.node o542_3 .nil .nil) .nil) (.node o414_3 .nil .nil)) (.node o222_2 (.node o350_3 (.node o606_4 .nil .nil) .nil) (.node o478_3 .nil .nil))) (.node o126_2 (.node o190_2 (.node o318_3 (.node o574_3 .nil .nil) .nil) (.node o446_3 .nil .nil)) (.node o254_3 (.node o382_3 .nil .nil) (.node o510_3 .nil .nil)))))))))
end K2H
set_option maxHeartbeats 0
/-! Q1: the run of a segment, over the tree; the first segment. -/
namespace K2H
open PySem PySem.W PySem.Calls PyProof.Rows L2 HandSHeadRun
def segF (st : SharedT → Thread → Option (SharedT × Thread)) (n0 : Nat) (ann : Option Value) (b : Nat) : Nat → SharedT → Thread → Option (Flow × SharedT × Code × Pos)
  | 0, _, _ => none
  | n + 1, s, t => match endAt b t with
    | some f => some (f, s, t.code, t.pos)
    | none => match stepOk n0 ann t with
      | false => none
      | true => match st s t with
        | some (s', t') => frS s' fun s' => segF st n0 ann b n s' t'
        | none => none
theorem segF_eq {p : Program} {w : World} {n0 : Nat} {ann : Option Value} {b : Nat} : ∀ (n : Nat) (s : SharedT) (t : Thread), segF (stepQ (denQ tabQ) p w) n0 ann b n s t = segRunT treeTable p w n0 ann b n s t := by
  rw [← stepQ_eq, ← denQ_eq, ← tabQ_eq]
  intro n
  induction n with
  | zero => intro s t; rfl
  | succ n ih =>
    intro s t
    unfold segF segRunT
    cases endAt b t with
    | some f => rfl
    | none =>
      cases stepOk n0 ann t with
      | false => rfl
      | true =>
        cases stepT (denote treeTable) p w s t with
        | none => rfl
        | some r =>
          obtain ⟨s', t'⟩ := r
          show frS s' (fun s' => segF _ n0 ann b n s' t') = _
          rw [frS_eq, ih]
def S (t : Params → BT) (n k : Nat) (w : World) (os : OsState) : SharedT := ⟨t w.params, n, {}, ⟨[]⟩, {}, k, os⟩
def ps (l c el ec : Nat) : Pos := ⟨l, c, el, ec⟩
def env : Env := { scope := prg.main.scope, locals := mainNs, globals := mainNs, cells := [], code := .ref 13, frame := some 14 }
def cB : Code := .body (behindTheImports prg) env
def fB : List Frame := [topFrame ⟨0, 0, 0, 0⟩]
def ann : Option Value := some (.ref 6)
def bE : List Stmt := behindTheImports prg
def Seg (w : World) (n : Nat) (s : OsState → SharedT) (l : List Stmt) (p : Pos) (s' : OsState → SharedT) (p' : Pos) : Prop := (fun os => segF (stepQ (denQ tabQ) prg w) 11 ann 1 n (s os) (piecesOf l env cB p fB)) = fun os => some (.next, s' os, cB, p')
theorem seg1f (w : World) : Seg (w.withFollow "special-get-raises" false) 1889 (S t1 15 187 (w.withFollow "special-get-raises" false)) (bE.take 45) ⟨0, 0, 0, 0⟩ (S t2 228 510 (w.withFollow "special-get-raises" false)) ⟨117, 0, 117, 4⟩ := by
  unfold Seg; kernel_rfl
theorem seg1t (w : World) : Seg (w.withFollow "special-get-raises" true) 1889 (S t1 15 187 (w.withFollow "special-get-raises" true)) (bE.take 45) ⟨0, 0, 0, 0⟩ (S t2 228 510 (w.withFollow "special-get-raises" true)) ⟨117, 0, 117, 4⟩ := by
  unfold Seg; kernel_rfl
theorem seg1 (w : World) : Seg w 1889 (S t1 15 187 w) (bE.take 45) ⟨0, 0, 0, 0⟩ (S t2 228 510 w) ⟨117, 0, 117, 4⟩ :=
  byRow2 "special-get-raises" (P := fun w => Seg w 1889 (S t1 15 187 w) (bE.take 45) ⟨0, 0, 0, 0⟩ (S t2 228 510 w) ⟨117, 0, 117, 4⟩) seg1f seg1t w
end K2H
set_option maxHeartbeats 0
/-! Q2: the other segments. -/
namespace K2H
open PySem PySem.W PySem.Calls PyProof.Rows L2 HandSHeadRun
theorem seg2 (w : World) : Seg w 1993 (S t2 228 510 w) ((bE.drop 45).take 39) ⟨117, 0, 117, 4⟩ (S t3 588 1001 w) ⟨438, 0, 439, 95⟩ := by
  unfold Seg; kernel_rfl
end K2H
set_option maxHeartbeats 0
/-! Q3: the last segment; the steps ahead of the first statement and behind the last one. -/
namespace K2H
open PySem PySem.W PySem.Calls PyProof.Rows L2 HandSHeadRun
theorem seg3 (w : World) : Seg w 160 (S t3 588 1001 w) (bE.drop 84) ⟨438, 0, 439, 95⟩ (S t4 619 1054 w) ⟨494, 0, 495, 95⟩ := by
  unfold Seg; kernel_rfl
def goK (st : SharedT → Thread → Option (SharedT × Thread)) (n0 : Nat) (ann : Option Value) : Nat → SharedT → Thread → Option (SharedT × Thread)
  | 0, s, t => some (s, t)
  | m + 1, s, t => match through t with
    | true => none
    | false => match stepOk n0 ann t with
      | false => none
      | true => match st s t with
        | some (s', t') => frS s' fun s' => goK st n0 ann m s' t'
        | none => none
theorem goK_ok {tb : String → Option Builtin} {p : Program} {w : World} {n0 : Nat} {ann : Option Value} : ∀ {m : Nat} {s s' : SharedT} {t t' : Thread}, goK (stepT (denote tb) p w) n0 ann m s t = some (s', t') → topGo tb p w n0 ann m s.abs t = some (s'.abs, t')
  | 0, s, s', t, t', h => by
    cases h
    rfl
  | m + 1, s, s', t, t', h => by
    have h1 : (match through t with
      | true => none
      | false => match stepOk n0 ann t with
        | false => none
        | true => match stepT (denote tb) p w s t with
          | some (s', t') => frS s' fun s' => goK (stepT (denote tb) p w) n0 ann m s' t'
          | none => none) = some (s', t') := h
    unfold topGo
    cases ht : through t with
    | true =>
      rw [ht] at h1
      cases h1
    | false =>
      rw [ht] at h1
      cases hk : stepOk n0 ann t with
      | false =>
        rw [hk] at h1
        cases h1
      | true =>
        rw [hk] at h1
        cases hs : stepT (denote tb) p w s t with
        | none =>
          rw [hs] at h1
          cases h1
        | some r =>
          obtain ⟨s2, t2⟩ := r
          rw [hs] at h1
          have h3 : (frS s2 fun s' => goK (stepT (denote tb) p w) n0 ann m s' t2) = some (s', t') := h1
          rw [frS_eq] at h3
          have q := goK_ok h3
          show (match step (denote tb) p w s.abs t with
            | .go s' t' => topGo tb p w n0 ann m s' t'
            | .halt _ _ => none) = some (s'.abs, t')
          rw [stepT_spec hs]
          exact q
theorem pre (w : World) (os : OsState) : goK (stepQ (denQ tabQ) prg w) 11 ann 12 (S t0 11 181 w os) (topStub prg) = some (S t1 15 187 w os, ⟨denQ tabQ cB, cB, ⟨0, 0, 0, 0⟩, fB⟩) := by
  kernel_rfl
theorem fin (w : World) (os : OsState) : goF (stepQ (denQ tabQ) prg w) 11 ann 2 (S t4 619 1054 w os) ⟨doneF .next, cB, ⟨494, 0, 495, 95⟩, fB⟩ = some (S t4 619 1054 w os) := by
  kernel_rfl
theorem blk (w : World) (os : OsState) : segF (stepQ (denQ tabQ) prg w) 11 ann 1 1 (S t1 15 187 w os) (blockOf bE env cB ⟨0, 0, 0, 0⟩ fB) = some (.next, S t1 15 187 w os, cB, ⟨0, 0, 0, 0⟩) := by
  kernel_rfl
end K2H
set_option maxHeartbeats 0
/-! Q4: the whole top, from the segments; the opening. -/
namespace K2H
open PySem PySem.W PySem.Calls PyProof.Rows L2 HandSHeadRun
theorem go {w : World} {os : OsState} {n N : Nat} {s s' : OsState → SharedT} {l rest : List Stmt} {p p' : Pos} {r : Shared} (h : Seg w n s l p s' p') (k : topRun treeTable prg w 11 ann N (s' os).abs (restOf rest env cB p' fB) = some r) :
    topRun treeTable prg w 11 ann (n + N) (s os).abs (restOf (l ++ rest) env cB p fB) = some r := by
  have h1 := congrFun h os
  have h2 : segF (stepQ (denQ tabQ) prg w) 11 ann 1 n (s os) (piecesOf l env cB p fB) = some (.next, s' os, cB, p') := h1
  rw [segF_eq] at h2
  exact piece_app (segRun_of h2) k
theorem cut (a k : Nat) : bE.drop a = (bE.drop a).take k ++ bE.drop (a + k) := by
  rw [← List.drop_drop, List.take_append_drop]
theorem whole (w : World) (os : OsState) : topRun treeTable prg w 11 ann (12 + (1 + (1889 + (1993 + (160 + 2))))) (S t0 11 181 w os).abs (topStub prg) = some (S t4 619 1054 w os).abs := by
  have k5 : topRun treeTable prg w 11 ann 2 (S t4 619 1054 w os).abs (restOf [] env cB ⟨494, 0, 495, 95⟩ fB) = some (S t4 619 1054 w os).abs := by
    refine piece_nil (q := ⟨0, 0, 0, 0⟩) (goF_ok ?_)
    rw [stepQ_eq, denQ_eq, tabQ_eq]
    exact fin w os
  have k4 := go (os := os) (seg3 w) k5
  rw [List.append_nil] at k4
  have k3 := go (os := os) (seg2 w) k4
  rw [← cut 45 39] at k3
  have k2 := go (os := os) (seg1 w) k3
  rw [List.take_append_drop] at k2
  have b1 := blk w os
  rw [segF_eq] at b1
  have k1 := piece_block (q := ⟨0, 0, 0, 0⟩) (segRun_of b1) k2
  have p1 := pre w os
  rw [← stepQ_eq, ← denQ_eq, ← tabQ_eq] at p1
  exact go_top (goK_ok p1) k1
/-- the heap at the opening's end, and behind the top -/
noncomputable def H0 (P : Params) : Heap := absHeap (t0 P) 11 {}
noncomputable def H1 (P : Params) : Heap := absHeap (t4 P) 619 {}
noncomputable def opn (w : World) : Option (Heap × Array GenState × Drawn × Nat) := match impF (stepQ (denQ tabQ) (opening prg) w) 3000 (startT (opening prg)) (start (opening prg)).2 with
  | some s => (fenceQ prg s.abs).map fun s => (s.heap, s.gens, s.drawn, s.toks)
  | none => none
theorem opn_ok (w : World) : opn w = some (H0 w.params, ⟨[]⟩, {}, 181) := by
  kernel_rfl
end K2H
set_option maxHeartbeats 0
/-! Q5: the looks behind the top. -/
namespace K2H
open PySem PySem.W PySem.Calls PyProof.Rows L2 HandSHeadRun
theorem looks (w : World) (os : OsState) : looksF prg (H0 w.params) (S t4 619 1054 w os).abs = true := by
  kernel_rfl
end K2H
set_option maxHeartbeats 0
/-! Q6: what is seen behind the top; view: the import and the law. -/
namespace K2H
open PySem PySem.W PySem.Calls PyProof.Rows L2 HandSHeadRun
abbrev R : OpenRow := OpenLaw.row PySem.Challenge.rw_frametongue_k02_whole_trees_told_and_rea
abbrev qv : Program := view R.prog [88]
def n0 : List PySem.Str := ["_wall", "__name__", "FrameError", "InvalidText", "InvalidTree", "NotWellRead", "is_whole", "is_between", "is_string", "is_row", "are_same", "is_simple", "LETTERS", "FIGURES", "OTHERS", "BLANK", "MOST_LETTERS", "MOST_FIGURES", "wrong_sign", "sort_of", "row_words", "is_run_of", "is_any_name", "is_name_word", "is_any_number", "is_number_word", "DEEDS", "MOST_PLACES", "MOST_NUMBER", "MOST_POWER"]
def n1 : List PySem.Str := ["MOST_OWN", "SIZES", "GIVEN_HEADS", "is_name", "is_headed", "is_leaf", "is_branch", "has_tree_form", "parts_of", "MOST_DEEP", "SIGN", "FORM", "RowParser", "ReadRow", "column_behind", "read_by", "row_by", "sum_by", "SUM", "TERM", "POWER", "ATOM", "at_least", "deed_text", "leveled", "sum_text", "check_text", "own_tree", "read_row", "read_tree"]
def n2 : List PySem.Str := ["is_tree", "tree_text", "_law_purse", "_law_take", "_law_pick", "_law_same", "_law_name_of", "_law_tree", "_law_program", "_law_within", "_law_row_text", "_law_rows_text", "_law_text", "_law_any", "_law_blank", "_law_glued", "_law_wrapped", "_law_loose_words", "_law_loose_text", "_law_is_read", "_law_right"]
def names : List PySem.Str := n0 ++ n1 ++ n2
theorem seen_ok (w : World) (os : OsState) : seenQ qv names (importedModules R.prog.main.body) (fun s => xlAt qv [] s && recOk R.toRowW.records s) (S t4 619 1054 w os).abs = openGood qv names := by
  kernel_rfl
end K2H
set_option maxHeartbeats 0
/-! Q7: the head. -/
namespace K2H
open PySem PySem.W PySem.Calls PyProof.Rows L2 HandSHeadRun
theorem opening_ (w : World) : (fencedOpening treeTable prg w 30000).map (fun s => (s.heap, s.gens, s.drawn, s.toks)) = some (H0 w.params, ⟨[]⟩, {}, 181) := by
  have z := opn_ok w
  unfold opn at z
  cases e : impF (stepQ (denQ tabQ) (opening prg) w) 3000 (startT (opening prg)) (start (opening prg)).2 with
  | none =>
    rw [e] at z
    cases z
  | some s =>
    rw [e] at z
    rw [← stepQ_eq, ← denQ_eq, ← tabQ_eq] at e
    have a := importEnds_mono 27000 _ _ _ _ (impF_ok e)
    rw [startT_eq] at a
    unfold fencedOpening
    rw [show (30000 : Nat) = 3000 + 27000 from rfl, a]
    show (fenceModules? prg s.abs).map _ = _
    rw [fenceQ_eq]
    exact z
theorem size_ (w : World) : ((H0 w.params).isNs mainGlobals && (⟨[]⟩ : Array GenState).size == 0, (H0 w.params).objs.size, (H0 w.params).nsMap mainGlobals "__annotations__") = (true, 11, ann) := by
  kernel_rfl
theorem left_ : LeftO prg qv names (fun s => xlAt qv [] s && recOk R.toRowW.records s) (fun s => s.heap) (fun w => H1 w.params) 30000 true := by
  refine LeftO.of_pieces (H₀ := H0) (H₁ := H1) (gs₀ := ⟨[]⟩) (gs₁ := ⟨[]⟩) (d₀ := {}) (d₁ := {}) (k₀ := 181) (k₁ := 1054) (m₀ := 11) (ann := ann) (M := 12 + (1 + (1889 + (1993 + (160 + 2))))) opening_ size_ (fun w os => whole w os) (by decide +kernel) fun w => funext fun os => ?_
  have l := looks w os
  have sn := seen_ok w os
  rw [← seenQ_eq] at sn
  exact Prod.ext l (Prod.ext sn rfl)
end K2H
set_option maxHeartbeats 0
namespace K2H
open PySem PySem.W PySem.Calls PyProof.Rows L2 HandSHeadRun
theorem hdef_ : defOf qv R.name = some (⟨"law", defArgs (topS 88), defBody (topS 88), defScope (topS 88), ((defOf qv "law").map (·.1.pos)).getD default⟩, []) := by kernel_rfl
theorem hp_ : R.prog.theDef R.name = some (defArgs (topS 88), defBody (topS 88), defScope (topS 88)) := by kernel_rfl
theorem chains_ : chainsOk qv = true := by decide +kernel
end K2H
set_option maxHeartbeats 0
namespace K2H
open PySem PySem.W PySem.Calls PyProof.Rows L2 HandSHeadRun
theorem frees_ : (frees R.toRowW && R.within.isEmpty) = true := by decide +kernel
theorem opens_ : opensWell R.prog = true := by kernel_rfl
end K2H
set_option maxHeartbeats 0
/-! Q8c: the tables of the scopes are whole, looked at in pieces. -/
namespace K2H
open PySem PySem.W PySem.Calls PyProof.Rows L2 HandSHeadRun
theorem hold_app (top : Scope) (cx : TablesWhole.Ctx) (sc : Scope) : ∀ a b : List Stmt, TablesWhole.wSs TablesWhole.holds top cx sc (a ++ b) = (TablesWhole.wSs TablesWhole.holds top cx sc a && TablesWhole.wSs TablesWhole.holds top cx sc b)
  | [], b => by rw [List.nil_append, TablesWhole.wSs]; rfl
  | s :: a, b => by
    rw [List.cons_append, TablesWhole.wSs, TablesWhole.wSs, hold_app top cx sc a b]
    show (_ && (_ && _)) = ((_ && _) && _)
    rw [Bool.and_assoc]
theorem gath_app (top : Scope) (cx : TablesWhole.Ctx) (sc : Scope) : ∀ a b : List Stmt, TablesWhole.wSs TablesWhole.gather top cx sc (a ++ b) = TablesWhole.wSs TablesWhole.gather top cx sc a ++ TablesWhole.wSs TablesWhole.gather top cx sc b
  | [], b => by rw [List.nil_append, TablesWhole.wSs]; rfl
  | s :: a, b => by
    rw [List.cons_append, TablesWhole.wSs, TablesWhole.wSs, gath_app top cx sc a b]
    show _ ++ (_ ++ _) = (_ ++ _) ++ _
    rw [List.append_assoc]
abbrev pB : List Stmt := prg.main.body
abbrev pS : Scope := prg.main.scope
def piece (k : Nat) : List Stmt := (pB.drop (48 * k)).take 48
theorem pieces : pB = piece 0 ++ (piece 1) := by kernel_rfl
abbrev cx0 : TablesWhole.Ctx := ⟨pS, [], [], [], none⟩
abbrev okP (k : Nat) : Prop := TablesWhole.wSs TablesWhole.holds pS cx0 pS (piece k) = true
abbrev noP (k : Nat) : Prop := TablesWhole.wSs TablesWhole.gather pS cx0 pS (piece k) = []
theorem ok0 : okP 0 := by kernel_rfl
theorem ok1 : okP 1 := by kernel_rfl
theorem no0 : noP 0 := by kernel_rfl
theorem no1 : noP 1 := by kernel_rfl
theorem told_ : TablesWhole.wSs TablesWhole.gather pS cx0 pS pB = [] := by
  rw [pieces, gath_app, no0, no1]
  rfl
theorem all_ok : TablesWhole.wSs TablesWhole.holds pS cx0 pS pB = true := by
  rw [pieces, hold_app, ok0, ok1]
  rfl
theorem twice_ : TablesWhole.noTwice pS = true := by kernel_rfl
theorem main_ : TablesWhole.wModule TablesWhole.holds prg.main = true := by
  have e : TablesWhole.wModule TablesWhole.holds prg.main = TablesWhole.holds.all [TablesWhole.holds.enter pS, TablesWhole.holds.check "no name twice in a table, but a class's lawful pair" pS ("(the table)" : Str) (TablesWhole.noTwice pS), TablesWhole.wSs TablesWhole.holds pS ⟨pS, [], TablesWhole.wSs TablesWhole.gather pS cx0 pS pB, [], none⟩ pS pB] := rfl
  rw [e, told_, all_ok, twice_]
  rfl
theorem whole_ : R.prog.tablesWhole = true := by
  have e : R.prog.tablesWhole = TablesWhole.holds.all [TablesWhole.wModule TablesWhole.holds prg.main, TablesWhole.holds.all [], TablesWhole.holds.all [], TablesWhole.holds.all []] := rfl
  rw [e, main_]
  rfl
theorem bare_ : R.prog.bare := ⟨rfl, rfl, rfl, rfl, rfl, whole_⟩
end K2H
set_option maxHeartbeats 0
namespace K2H
open PySem PySem.W PySem.Calls PyProof.Rows L2 HandSHeadRun
theorem prom_ : R.toRowW.promised := by w_witness2
end K2H
set_option maxHeartbeats 0
/-! Q8: the law of the row from a walk that knows all objects behind the top. -/
namespace K2H
open PySem PySem.W PySem.Calls PyProof.Rows L2 HandSHeadRun
/-- all objects of the top stand -/
def Stands (w : World) (h : Heap) : Prop := ∀ b o, (H1 w.params).get? b = some o → h.get? b = some o
/-- an object of the last state -/
theorem H1_get {P : Params} {a : Addr} {o : Obj} (lt : Nat.blt a 619 = true) (e : (t4 P).get a = some o) (nf : (match o.data with | .freed => false | _ => true) = true) : (H1 P).get? a = some o := by
  have h : a < 619 := by simpa using Nat.blt_eq.mp lt
  have z := absHeap_at (t4 P) 619 {} a
  rw [if_pos h, e] at z
  unfold H1 Heap.get?
  rw [z]
  obtain ⟨c, d, dt, sl⟩ := o
  cases dt <;> first | rfl | cases nf
theorem row_of (said : R.wellSaid = true) (call : WalkO qv names (XL qv []) Stands R.toRowW ⟨"law", defArgs (topS 88), defBody (topS 88), defScope (topS 88), ((defOf qv "law").map (·.1.pos)).getD default⟩ [] fun f vs => PySem.call f vs) : R.Holds := by
  refine holds_open (r := R) (q := qv) (loose := names) (XP := XL qv []) (YP := Stands) (kwd := []) left_ (fun w s e => ?_) (fun w h h' k e b o z => e b o (k b o z)) (fun s z => xl_of s (Bool.and_eq_true_iff.mp z).1) XL.keeps hdef_ hp_ (by rfl) (fun s z => recFacts_of (Bool.and_eq_true_iff.mp z).2) (by first | rfl | decide +kernel) said ?ok bare_ prom_ call
  · intro b o z
    have e' : s.heap = H1 w.params := e
    rw [e']
    exact z
  case ok => exact Bool.and_eq_true_iff.mpr ⟨Bool.and_eq_true_iff.mpr ⟨chains_, opens_⟩, frees_⟩
end K2H
set_option maxHeartbeats 0
/-! Q9: .. and of the law. -/
namespace K2H
open PySem PySem.W PySem.Calls PyProof.Rows L2 HandSHeadRun
theorem holds_of (call : WalkO qv names (XL qv []) Stands R.toRowW ⟨"law", defArgs (topS 88), defBody (topS 88), defScope (topS 88), ((defOf qv "law").map (·.1.pos)).getD default⟩ [] fun f vs => PySem.call f vs) :
    PySem.Challenge.rw_frametongue_k02_whole_trees_told_and_rea.Holds := by
  w_on; o_law
  rename_i said
  exact row_of said call
end K2H
set_option maxHeartbeats 0
/-! P25: the written part as a literal. -/
namespace K2H
open PySem PySem.W PySem.Calls PyProof.Rows L2 HandSHeadRun
/-- the objects that the walk looks at -/
noncomputable def KL (P : Params) : Frag := [(0, (o0_0 P)), (1, (o1_0 P)), (2, o2_0), (3, (o3_4 P)), (4, o4_0), (5, o5_0), (6, o6_0), (7, o7_0), (8, o8_0), (9, o9_0), (10, o10_0), (11, o11_1), (12, o12_4), (13, o13_1), (14, o14_1), (15, o15_2), (16, o16_2), (17, (o17_2 P)), (18, o18_2), (19, o19_2), (20, o20_2), (21, o21_2), (22, o22_2), (23, (o23_2 P)), (24, o24_2), (25, o25_2), (26, o26_2), (27, o27_2), (28, o28_2), (29, o29_2), (30, (o30_2 P)), (31, o31_2), (32, o32_2), (33, o33_2), (34, o34_2), (35, o35_2), (36, o36_2), (37, o37_2), (38, o38_2), (96, o96_2), (97, o97_2), (103, o103_2), (104, o104_2), (110, o110_2), (111, o111_2), (117, o117_2), (118, o118_2), (122, o122_2), (123, o123_2), (129, o129_2), (130, o130_2), (134, o134_2), (135, o135_2), (141, o141_2), (142, o142_2), (148, o148_2), (149, o149_2), (153, o153_2), (154, o154_2), (160, o160_2), (161, o161_2), (167, o167_2), (168, o168_2), (174, o174_2), (175, o175_2), (181, o181_2), (182, o182_2), (183, o183_2), (184, (o184_2 P)), (185, o185_2), (191, o191_2), (192, o192_2), (198, o198_2), (199, o199_2), (205, o205_2), (206, o206_2), (212, o212_2), (213, o213_2), (219, o219_2), (220, o220_2), (226, o226_2), (227, o227_2), (240, o240_3), (241, o241_3), (247, o247_3), (248, o248_3), (254, o254_3), (255, o255_3), (261, o261_3), (262, o262_3), (268, o268_3), (269, o269_3), (270, o270_3), (276, o276_3), (277, o277_3), (283, o283_3), (284, o284_3), (290, o290_3), (291, o291_3), (297, o297_3), (298, o298_3), (304, o304_3), (305, o305_3), (311, o311_3), (312, o312_3), (318, o318_3), (319, o319_3), (323, o323_3), (324, o324_3), (330, o330_3), (331, o331_3), (337, o337_3), (338, o338_3), (344, o344_3), (345, o345_3), (351, o351_3), (352, o352_3), (358, o358_3), (359, o359_3), (365, o365_3), (366, o366_3), (368, (o368_3 P)), (369, o369_3), (386, o386_3), (387, o387_3), (389, (o389_3 P)), (390, o390_3), (400, o400_3), (401, o401_3), (407, o407_3), (408, o408_3), (414, o414_3), (415, o415_3), (421, o421_3), (422, o422_3), (428, o428_3), (429, o429_3), (435, o435_3), (436, o436_3), (440, o440_3), (441, o441_3), (447, o447_3), (448, o448_3), (454, o454_3), (455, o455_3), (461, o461_3), (462, o462_3), (468, o468_3), (469, o469_3), (475, o475_3), (476, o476_3), (482, o482_3), (483, o483_3), (489, o489_3), (490, o490_3), (496, o496_3), (497, o497_3), (503, o503_3), (504, o504_3), (510, o510_3), (511, o511_3), (517, o517_3), (518, o518_3), (524, o524_3), (525, o525_3), (531, o531_3), (532, o532_3), (543, o543_3), (544, o544_3), (548, o548_3), (549, o549_3), (565, o565_3), (566, o566_3), (572, o572_3), (573, o573_3), (579, o579_3), (580, o580_3), (586, o586_3), (587, o587_3), (593, o593_4), (594, o594_4), (605, o605_4), (606, o606_4), (612, o612_4), (613, o613_4), (617, o617_4), (618, o618_4)]
theorem KL_eq (P : Params) : (KL P).map (fun p => (t4 P).get p.1) = (KL P).map fun p => some p.2 := by kernel_rfl
def liveO (o : Obj) : Bool := match o.data with | .freed => false | _ => true
theorem KL_ok (P : Params) : (KL P).all (fun p => Nat.blt p.1 619 && liveO p.2) = true := by kernel_rfl
theorem look_mem {a : Addr} {o : Obj} : ∀ {l : Frag}, l.lookup a = some o → (a, o) ∈ l
  | [], h => by cases h
  | (b, u) :: l, h => by
    rw [List.lookup_cons] at h
    cases q : a == b with
    | true =>
      rw [q] at h
      cases h
      rw [beq_iff_eq.mp q]
      exact List.mem_cons_self
    | false =>
      rw [q] at h
      exact List.mem_cons_of_mem _ (look_mem h)
theorem map_mem {α β : Type} {f g : α → β} {a : α} : ∀ {l : List α}, l.map f = l.map g → a ∈ l → f a = g a
  | x :: l, h, m => by
    have h1 := List.cons.inj h
    rcases List.mem_cons.mp m with rfl | m
    · exact h1.1
    · exact map_mem h1.2 m
theorem KL_in {w : World} {h : Heap} (st : Stands w h) : (KL w.params).In h := fun a o e => by
  have m := look_mem e
  have e1 := map_mem (KL_eq w.params) m
  have e2 := List.all_eq_true.mp (KL_ok w.params) _ m
  obtain ⟨q1, q2⟩ := Bool.and_eq_true_iff.mp e2
  exact st a o (H1_get q1 e1 q2)
end K2H
set_option maxHeartbeats 0
/-! P26: facts of the written part. -/
namespace K2H
open PySem PySem.Spec PySem.Calls PyProof.Rows L2 HandSHeadRun DL
open PySem.W (Frag keepIn findIn typeIn subIn nsIn clsIn hasDictIn specialIn takesIn fnIn codeIn fnX fnOf isFn plainGet plainOver makesIn)
variable (P : Params)
abbrev fd_is_whole : FuncData := fnOf "is_whole" "is_whole" (defArgs K2.s_is_whole) (defBody K2.s_is_whole) (defScope K2.s_is_whole) (.none) (.none) (.none) (.str "frametongue.values" 290) none (.ref 96) (.none)
theorem f_is_whole : L2.Fun (KL P) "is_whole" "is_whole" K2.s_is_whole 97 fd_is_whole := fun_mk (oc := .type "function") (od := none) (osl := ⟨[]⟩) (by kernel_rfl) (by kernel_rfl) (by kernel_rfl)
abbrev fd_is_between : FuncData := fnOf "is_between" "is_between" (defArgs K2.s_is_between) (defBody K2.s_is_between) (defScope K2.s_is_between) (.none) (.none) (.none) (.str "frametongue.values" 290) none (.ref 103) (.none)
theorem f_is_between : L2.Fun (KL P) "is_between" "is_between" K2.s_is_between 104 fd_is_between := fun_mk (oc := .type "function") (od := none) (osl := ⟨[]⟩) (by kernel_rfl) (by kernel_rfl) (by kernel_rfl)
abbrev fd_is_string : FuncData := fnOf "is_string" "is_string" (defArgs K2.s_is_string) (defBody K2.s_is_string) (defScope K2.s_is_string) (.none) (.none) (.none) (.str "frametongue.values" 290) none (.ref 110) (.none)
theorem f_is_string : L2.Fun (KL P) "is_string" "is_string" K2.s_is_string 111 fd_is_string := fun_mk (oc := .type "function") (od := none) (osl := ⟨[]⟩) (by kernel_rfl) (by kernel_rfl) (by kernel_rfl)
abbrev fd_is_row : FuncData := fnOf "is_row" "is_row" (defArgs K2.s_is_row) (defBody K2.s_is_row) (defScope K2.s_is_row) (.none) (.none) (.none) (.str "frametongue.values" 290) none (.ref 117) (.none)
theorem f_is_row : L2.Fun (KL P) "is_row" "is_row" K2.s_is_row 118 fd_is_row := fun_mk (oc := .type "function") (od := none) (osl := ⟨[]⟩) (by kernel_rfl) (by kernel_rfl) (by kernel_rfl)
abbrev fd_are_same : FuncData := fnOf "are_same" "are_same" (defArgs K2.s_are_same) (defBody K2.s_are_same) (defScope K2.s_are_same) (.none) (.none) (.none) (.str "frametongue.values" 290) none (.ref 122) (.none)
theorem f_are_same : L2.Fun (KL P) "are_same" "are_same" K2.s_are_same 123 fd_are_same := fun_mk (oc := .type "function") (od := none) (osl := ⟨[]⟩) (by kernel_rfl) (by kernel_rfl) (by kernel_rfl)
abbrev fd_is_simple : FuncData := fnOf "is_simple" "is_simple" (defArgs K2.s_is_simple) (defBody K2.s_is_simple) (defScope K2.s_is_simple) (.none) (.none) (.none) (.str "frametongue.values" 290) none (.ref 129) (.none)
theorem f_is_simple : L2.Fun (KL P) "is_simple" "is_simple" K2.s_is_simple 130 fd_is_simple := fun_mk (oc := .type "function") (od := none) (osl := ⟨[]⟩) (by kernel_rfl) (by kernel_rfl) (by kernel_rfl)
abbrev fd_wrong_sign : FuncData := fnOf "wrong_sign" "wrong_sign" (defArgs K2.s_wrong_sign) (defBody K2.s_wrong_sign) (defScope K2.s_wrong_sign) (.none) (.none) (.none) (.str "frametongue.words" 337) none (.ref 134) (.none)
theorem f_wrong_sign : L2.Fun (KL P) "wrong_sign" "wrong_sign" K2.s_wrong_sign 135 fd_wrong_sign := fun_mk (oc := .type "function") (od := none) (osl := ⟨[]⟩) (by kernel_rfl) (by kernel_rfl) (by kernel_rfl)
abbrev fd_sort_of : FuncData := fnOf "sort_of" "sort_of" (defArgs K2.s_sort_of) (defBody K2.s_sort_of) (defScope K2.s_sort_of) (.none) (.none) (.none) (.str "frametongue.words" 337) none (.ref 141) (.none)
theorem f_sort_of : L2.Fun (KL P) "sort_of" "sort_of" K2.s_sort_of 142 fd_sort_of := fun_mk (oc := .type "function") (od := none) (osl := ⟨[]⟩) (by kernel_rfl) (by kernel_rfl) (by kernel_rfl)
abbrev fd_row_words : FuncData := fnOf "row_words" "row_words" (defArgs K2.s_row_words) (defBody K2.s_row_words) (defScope K2.s_row_words) (.none) (.none) (.none) (.str "frametongue.words" 337) none (.ref 148) (.none)
theorem f_row_words : L2.Fun (KL P) "row_words" "row_words" K2.s_row_words 149 fd_row_words := fun_mk (oc := .type "function") (od := none) (osl := ⟨[]⟩) (by kernel_rfl) (by kernel_rfl) (by kernel_rfl)
abbrev fd_is_run_of : FuncData := fnOf "is_run_of" "is_run_of" (defArgs K2.s_is_run_of) (defBody K2.s_is_run_of) (defScope K2.s_is_run_of) (.none) (.none) (.none) (.str "frametongue.words" 337) none (.ref 153) (.none)
theorem f_is_run_of : L2.Fun (KL P) "is_run_of" "is_run_of" K2.s_is_run_of 154 fd_is_run_of := fun_mk (oc := .type "function") (od := none) (osl := ⟨[]⟩) (by kernel_rfl) (by kernel_rfl) (by kernel_rfl)
abbrev fd_is_any_name : FuncData := fnOf "is_any_name" "is_any_name" (defArgs K2.s_is_any_name) (defBody K2.s_is_any_name) (defScope K2.s_is_any_name) (.none) (.none) (.none) (.str "frametongue.words" 337) none (.ref 160) (.none)
theorem f_is_any_name : L2.Fun (KL P) "is_any_name" "is_any_name" K2.s_is_any_name 161 fd_is_any_name := fun_mk (oc := .type "function") (od := none) (osl := ⟨[]⟩) (by kernel_rfl) (by kernel_rfl) (by kernel_rfl)
abbrev fd_is_name_word : FuncData := fnOf "is_name_word" "is_name_word" (defArgs K2.s_is_name_word) (defBody K2.s_is_name_word) (defScope K2.s_is_name_word) (.none) (.none) (.none) (.str "frametongue.words" 337) none (.ref 167) (.none)
theorem f_is_name_word : L2.Fun (KL P) "is_name_word" "is_name_word" K2.s_is_name_word 168 fd_is_name_word := fun_mk (oc := .type "function") (od := none) (osl := ⟨[]⟩) (by kernel_rfl) (by kernel_rfl) (by kernel_rfl)
abbrev fd_is_any_number : FuncData := fnOf "is_any_number" "is_any_number" (defArgs K2.s_is_any_number) (defBody K2.s_is_any_number) (defScope K2.s_is_any_number) (.none) (.none) (.none) (.str "frametongue.words" 337) none (.ref 174) (.none)
theorem f_is_any_number : L2.Fun (KL P) "is_any_number" "is_any_number" K2.s_is_any_number 175 fd_is_any_number := fun_mk (oc := .type "function") (od := none) (osl := ⟨[]⟩) (by kernel_rfl) (by kernel_rfl) (by kernel_rfl)
abbrev fd_is_number_word : FuncData := fnOf "is_number_word" "is_number_word" (defArgs K2.s_is_number_word) (defBody K2.s_is_number_word) (defScope K2.s_is_number_word) (.none) (.none) (.none) (.str "frametongue.words" 337) none (.ref 181) (.none)
theorem f_is_number_word : L2.Fun (KL P) "is_number_word" "is_number_word" K2.s_is_number_word 182 fd_is_number_word := fun_mk (oc := .type "function") (od := none) (osl := ⟨[]⟩) (by kernel_rfl) (by kernel_rfl) (by kernel_rfl)
abbrev fd_is_name : FuncData := fnOf "is_name" "is_name" (defArgs K2.s_is_name) (defBody K2.s_is_name) (defScope K2.s_is_name) (.none) (.none) (.none) (.str "frametongue.trees" 409) none (.ref 191) (.none)
theorem f_is_name : L2.Fun (KL P) "is_name" "is_name" K2.s_is_name 192 fd_is_name := fun_mk (oc := .type "function") (od := none) (osl := ⟨[]⟩) (by kernel_rfl) (by kernel_rfl) (by kernel_rfl)
abbrev fd_is_headed : FuncData := fnOf "is_headed" "is_headed" (defArgs K2.s_is_headed) (defBody K2.s_is_headed) (defScope K2.s_is_headed) (.none) (.none) (.none) (.str "frametongue.trees" 409) none (.ref 198) (.none)
theorem f_is_headed : L2.Fun (KL P) "is_headed" "is_headed" K2.s_is_headed 199 fd_is_headed := fun_mk (oc := .type "function") (od := none) (osl := ⟨[]⟩) (by kernel_rfl) (by kernel_rfl) (by kernel_rfl)
abbrev fd_is_leaf : FuncData := fnOf "is_leaf" "is_leaf" (defArgs K2.s_is_leaf) (defBody K2.s_is_leaf) (defScope K2.s_is_leaf) (.none) (.none) (.none) (.str "frametongue.trees" 409) none (.ref 205) (.none)
theorem f_is_leaf : L2.Fun (KL P) "is_leaf" "is_leaf" K2.s_is_leaf 206 fd_is_leaf := fun_mk (oc := .type "function") (od := none) (osl := ⟨[]⟩) (by kernel_rfl) (by kernel_rfl) (by kernel_rfl)
abbrev fd_is_branch : FuncData := fnOf "is_branch" "is_branch" (defArgs K2.s_is_branch) (defBody K2.s_is_branch) (defScope K2.s_is_branch) (.none) (.none) (.none) (.str "frametongue.trees" 409) none (.ref 212) (.none)
theorem f_is_branch : L2.Fun (KL P) "is_branch" "is_branch" K2.s_is_branch 213 fd_is_branch := fun_mk (oc := .type "function") (od := none) (osl := ⟨[]⟩) (by kernel_rfl) (by kernel_rfl) (by kernel_rfl)
abbrev fd_has_tree_form : FuncData := fnOf "has_tree_form" "has_tree_form" (defArgs K2.s_has_tree_form) (defBody K2.s_has_tree_form) (defScope K2.s_has_tree_form) (.none) (.none) (.none) (.str "frametongue.trees" 409) none (.ref 219) (.none)
theorem f_has_tree_form : L2.Fun (KL P) "has_tree_form" "has_tree_form" K2.s_has_tree_form 220 fd_has_tree_form := fun_mk (oc := .type "function") (od := none) (osl := ⟨[]⟩) (by kernel_rfl) (by kernel_rfl) (by kernel_rfl)
abbrev fd_parts_of : FuncData := fnOf "parts_of" "parts_of" (defArgs K2.s_parts_of) (defBody K2.s_parts_of) (defScope K2.s_parts_of) (.none) (.none) (.none) (.str "frametongue.trees" 409) none (.ref 226) (.none)
theorem f_parts_of : L2.Fun (KL P) "parts_of" "parts_of" K2.s_parts_of 227 fd_parts_of := fun_mk (oc := .type "function") (od := none) (osl := ⟨[]⟩) (by kernel_rfl) (by kernel_rfl) (by kernel_rfl)
abbrev fd_column_behind : FuncData := fnOf "column_behind" "column_behind" (defArgs K2.s_column_behind) (defBody K2.s_column_behind) (defScope K2.s_column_behind) (.none) (.none) (.none) (.str "frametongue.parsing" 502) none (.ref 400) (.none)
theorem f_column_behind : L2.Fun (KL P) "column_behind" "column_behind" K2.s_column_behind 401 fd_column_behind := fun_mk (oc := .type "function") (od := none) (osl := ⟨[]⟩) (by kernel_rfl) (by kernel_rfl) (by kernel_rfl)
abbrev fd_read_by : FuncData := fnOf "read_by" "read_by" (defArgs K2.s_read_by) (defBody K2.s_read_by) (defScope K2.s_read_by) (.none) (.none) (.none) (.str "frametongue.parsing" 502) none (.ref 407) (.none)
theorem f_read_by : L2.Fun (KL P) "read_by" "read_by" K2.s_read_by 408 fd_read_by := fun_mk (oc := .type "function") (od := none) (osl := ⟨[]⟩) (by kernel_rfl) (by kernel_rfl) (by kernel_rfl)
abbrev fd_row_by : FuncData := fnOf "row_by" "row_by" (defArgs K2.s_row_by) (defBody K2.s_row_by) (defScope K2.s_row_by) (.none) (.none) (.none) (.str "frametongue.parsing" 502) none (.ref 414) (.none)
theorem f_row_by : L2.Fun (KL P) "row_by" "row_by" K2.s_row_by 415 fd_row_by := fun_mk (oc := .type "function") (od := none) (osl := ⟨[]⟩) (by kernel_rfl) (by kernel_rfl) (by kernel_rfl)
abbrev fd_sum_by : FuncData := fnOf "sum_by" "sum_by" (defArgs K2.s_sum_by) (defBody K2.s_sum_by) (defScope K2.s_sum_by) (.none) (.none) (.none) (.str "frametongue.parsing" 502) none (.ref 421) (.none)
theorem f_sum_by : L2.Fun (KL P) "sum_by" "sum_by" K2.s_sum_by 422 fd_sum_by := fun_mk (oc := .type "function") (od := none) (osl := ⟨[]⟩) (by kernel_rfl) (by kernel_rfl) (by kernel_rfl)
abbrev fd_at_least : FuncData := fnOf "at_least" "at_least" (defArgs K2.s_at_least) (defBody K2.s_at_least) (defScope K2.s_at_least) (.none) (.none) (.none) (.str "frametongue.printing" 782) none (.ref 428) (.none)
theorem f_at_least : L2.Fun (KL P) "at_least" "at_least" K2.s_at_least 429 fd_at_least := fun_mk (oc := .type "function") (od := none) (osl := ⟨[]⟩) (by kernel_rfl) (by kernel_rfl) (by kernel_rfl)
abbrev fd_deed_text : FuncData := fnOf "deed_text" "deed_text" (defArgs K2.s_deed_text) (defBody K2.s_deed_text) (defScope K2.s_deed_text) (.none) (.none) (.none) (.str "frametongue.printing" 782) none (.ref 435) (.none)
theorem f_deed_text : L2.Fun (KL P) "deed_text" "deed_text" K2.s_deed_text 436 fd_deed_text := fun_mk (oc := .type "function") (od := none) (osl := ⟨[]⟩) (by kernel_rfl) (by kernel_rfl) (by kernel_rfl)
abbrev fd_leveled : FuncData := fnOf "leveled" "leveled" (defArgs K2.s_leveled) (defBody K2.s_leveled) (defScope K2.s_leveled) (.none) (.none) (.none) (.str "frametongue.printing" 782) none (.ref 440) (.none)
theorem f_leveled : L2.Fun (KL P) "leveled" "leveled" K2.s_leveled 441 fd_leveled := fun_mk (oc := .type "function") (od := none) (osl := ⟨[]⟩) (by kernel_rfl) (by kernel_rfl) (by kernel_rfl)
abbrev fd_sum_text : FuncData := fnOf "sum_text" "sum_text" (defArgs K2.s_sum_text) (defBody K2.s_sum_text) (defScope K2.s_sum_text) (.none) (.none) (.none) (.str "frametongue.printing" 782) none (.ref 447) (.none)
theorem f_sum_text : L2.Fun (KL P) "sum_text" "sum_text" K2.s_sum_text 448 fd_sum_text := fun_mk (oc := .type "function") (od := none) (osl := ⟨[]⟩) (by kernel_rfl) (by kernel_rfl) (by kernel_rfl)
abbrev fd_check_text : FuncData := fnOf "check_text" "check_text" (defArgs K2.s_check_text) (defBody K2.s_check_text) (defScope K2.s_check_text) (.none) (.none) (.none) (.str "frametongue.reader" 823) none (.ref 454) (.none)
theorem f_check_text : L2.Fun (KL P) "check_text" "check_text" K2.s_check_text 455 fd_check_text := fun_mk (oc := .type "function") (od := none) (osl := ⟨[]⟩) (by kernel_rfl) (by kernel_rfl) (by kernel_rfl)
abbrev fd_own_tree : FuncData := fnOf "own_tree" "own_tree" (defArgs K2.s_own_tree) (defBody K2.s_own_tree) (defScope K2.s_own_tree) (.none) (.none) (.none) (.str "frametongue.reader" 823) none (.ref 461) (.none)
theorem f_own_tree : L2.Fun (KL P) "own_tree" "own_tree" K2.s_own_tree 462 fd_own_tree := fun_mk (oc := .type "function") (od := none) (osl := ⟨[]⟩) (by kernel_rfl) (by kernel_rfl) (by kernel_rfl)
abbrev fd_read_row : FuncData := fnOf "read_row" "read_row" (defArgs K2.s_read_row) (defBody K2.s_read_row) (defScope K2.s_read_row) (.none) (.none) (.none) (.str "frametongue.reader" 823) none (.ref 468) (.none)
theorem f_read_row : L2.Fun (KL P) "read_row" "read_row" K2.s_read_row 469 fd_read_row := fun_mk (oc := .type "function") (od := none) (osl := ⟨[]⟩) (by kernel_rfl) (by kernel_rfl) (by kernel_rfl)
abbrev fd_read_tree : FuncData := fnOf "read_tree" "read_tree" (defArgs K2.s_read_tree) (defBody K2.s_read_tree) (defScope K2.s_read_tree) (.none) (.none) (.none) (.str "frametongue.reader" 823) none (.ref 475) (.none)
theorem f_read_tree : L2.Fun (KL P) "read_tree" "read_tree" K2.s_read_tree 476 fd_read_tree := fun_mk (oc := .type "function") (od := none) (osl := ⟨[]⟩) (by kernel_rfl) (by kernel_rfl) (by kernel_rfl)
abbrev fd_is_tree : FuncData := fnOf "is_tree" "is_tree" (defArgs K2.s_is_tree) (defBody K2.s_is_tree) (defScope K2.s_is_tree) (.none) (.none) (.none) (.str "frametongue.printer" 853) none (.ref 482) (.none)
theorem f_is_tree : L2.Fun (KL P) "is_tree" "is_tree" K2.s_is_tree 483 fd_is_tree := fun_mk (oc := .type "function") (od := none) (osl := ⟨[]⟩) (by kernel_rfl) (by kernel_rfl) (by kernel_rfl)
abbrev fd_tree_text : FuncData := fnOf "tree_text" "tree_text" (defArgs K2.s_tree_text) (defBody K2.s_tree_text) (defScope K2.s_tree_text) (.none) (.none) (.none) (.str "frametongue.printer" 853) none (.ref 489) (.none)
theorem f_tree_text : L2.Fun (KL P) "tree_text" "tree_text" K2.s_tree_text 490 fd_tree_text := fun_mk (oc := .type "function") (od := none) (osl := ⟨[]⟩) (by kernel_rfl) (by kernel_rfl) (by kernel_rfl)
abbrev fd__law_purse : FuncData := fnOf "_law_purse" "_law_purse" (defArgs K2.s_law_purse) (defBody K2.s_law_purse) (defScope K2.s_law_purse) (.none) (.none) (.none) (.str "law_frametongue_k02_whole_trees_told_and_rea" 869) none (.ref 496) (.none)
theorem f__law_purse : L2.Fun (KL P) "_law_purse" "_law_purse" K2.s_law_purse 497 fd__law_purse := fun_mk (oc := .type "function") (od := none) (osl := ⟨[]⟩) (by kernel_rfl) (by kernel_rfl) (by kernel_rfl)
abbrev fd__law_take : FuncData := fnOf "_law_take" "_law_take" (defArgs K2.s_law_take) (defBody K2.s_law_take) (defScope K2.s_law_take) (.none) (.none) (.none) (.str "law_frametongue_k02_whole_trees_told_and_rea" 869) none (.ref 503) (.none)
theorem f__law_take : L2.Fun (KL P) "_law_take" "_law_take" K2.s_law_take 504 fd__law_take := fun_mk (oc := .type "function") (od := none) (osl := ⟨[]⟩) (by kernel_rfl) (by kernel_rfl) (by kernel_rfl)
abbrev fd__law_pick : FuncData := fnOf "_law_pick" "_law_pick" (defArgs K2.s_law_pick) (defBody K2.s_law_pick) (defScope K2.s_law_pick) (.none) (.none) (.none) (.str "law_frametongue_k02_whole_trees_told_and_rea" 869) none (.ref 510) (.none)
theorem f__law_pick : L2.Fun (KL P) "_law_pick" "_law_pick" K2.s_law_pick 511 fd__law_pick := fun_mk (oc := .type "function") (od := none) (osl := ⟨[]⟩) (by kernel_rfl) (by kernel_rfl) (by kernel_rfl)
abbrev fd__law_same : FuncData := fnOf "_law_same" "_law_same" (defArgs K2.s_law_same) (defBody K2.s_law_same) (defScope K2.s_law_same) (.none) (.none) (.none) (.str "law_frametongue_k02_whole_trees_told_and_rea" 869) none (.ref 517) (.none)
theorem f__law_same : L2.Fun (KL P) "_law_same" "_law_same" K2.s_law_same 518 fd__law_same := fun_mk (oc := .type "function") (od := none) (osl := ⟨[]⟩) (by kernel_rfl) (by kernel_rfl) (by kernel_rfl)
abbrev fd__law_name_of : FuncData := fnOf "_law_name_of" "_law_name_of" (defArgs K2.s_law_name_of) (defBody K2.s_law_name_of) (defScope K2.s_law_name_of) (.none) (.none) (.none) (.str "law_frametongue_k02_whole_trees_told_and_rea" 869) none (.ref 524) (.none)
theorem f__law_name_of : L2.Fun (KL P) "_law_name_of" "_law_name_of" K2.s_law_name_of 525 fd__law_name_of := fun_mk (oc := .type "function") (od := none) (osl := ⟨[]⟩) (by kernel_rfl) (by kernel_rfl) (by kernel_rfl)
abbrev fd__law_tree : FuncData := fnOf "_law_tree" "_law_tree" (defArgs K2.s_law_tree) (defBody K2.s_law_tree) (defScope K2.s_law_tree) (.none) (.none) (.none) (.str "law_frametongue_k02_whole_trees_told_and_rea" 869) none (.ref 531) (.none)
theorem f__law_tree : L2.Fun (KL P) "_law_tree" "_law_tree" K2.s_law_tree 532 fd__law_tree := fun_mk (oc := .type "function") (od := none) (osl := ⟨[]⟩) (by kernel_rfl) (by kernel_rfl) (by kernel_rfl)
abbrev fd__law_within : FuncData := fnOf "_law_within" "_law_within" (defArgs K2.s_law_within) (defBody K2.s_law_within) (defScope K2.s_law_within) (.none) (.none) (.none) (.str "law_frametongue_k02_whole_trees_told_and_rea" 869) none (.ref 543) (.none)
theorem f__law_within : L2.Fun (KL P) "_law_within" "_law_within" K2.s_law_within 544 fd__law_within := fun_mk (oc := .type "function") (od := none) (osl := ⟨[]⟩) (by kernel_rfl) (by kernel_rfl) (by kernel_rfl)
abbrev fd__law_row_text : FuncData := fnOf "_law_row_text" "_law_row_text" (defArgs K2.s_law_row_text) (defBody K2.s_law_row_text) (defScope K2.s_law_row_text) (.none) (.none) (.none) (.str "law_frametongue_k02_whole_trees_told_and_rea" 869) none (.ref 548) (.none)
theorem f__law_row_text : L2.Fun (KL P) "_law_row_text" "_law_row_text" K2.s_law_row_text 549 fd__law_row_text := fun_mk (oc := .type "function") (od := none) (osl := ⟨[]⟩) (by kernel_rfl) (by kernel_rfl) (by kernel_rfl)
abbrev fd__law_any : FuncData := fnOf "_law_any" "_law_any" (defArgs K2.s_law_any) (defBody K2.s_law_any) (defScope K2.s_law_any) (.none) (.none) (.none) (.str "law_frametongue_k02_whole_trees_told_and_rea" 869) none (.ref 565) (.none)
theorem f__law_any : L2.Fun (KL P) "_law_any" "_law_any" K2.s_law_any 566 fd__law_any := fun_mk (oc := .type "function") (od := none) (osl := ⟨[]⟩) (by kernel_rfl) (by kernel_rfl) (by kernel_rfl)
abbrev fd__law_blank : FuncData := fnOf "_law_blank" "_law_blank" (defArgs K2.s_law_blank) (defBody K2.s_law_blank) (defScope K2.s_law_blank) (.none) (.none) (.none) (.str "law_frametongue_k02_whole_trees_told_and_rea" 869) none (.ref 572) (.none)
theorem f__law_blank : L2.Fun (KL P) "_law_blank" "_law_blank" K2.s_law_blank 573 fd__law_blank := fun_mk (oc := .type "function") (od := none) (osl := ⟨[]⟩) (by kernel_rfl) (by kernel_rfl) (by kernel_rfl)
abbrev fd__law_glued : FuncData := fnOf "_law_glued" "_law_glued" (defArgs K2.s_law_glued) (defBody K2.s_law_glued) (defScope K2.s_law_glued) (.none) (.none) (.none) (.str "law_frametongue_k02_whole_trees_told_and_rea" 869) none (.ref 579) (.none)
theorem f__law_glued : L2.Fun (KL P) "_law_glued" "_law_glued" K2.s_law_glued 580 fd__law_glued := fun_mk (oc := .type "function") (od := none) (osl := ⟨[]⟩) (by kernel_rfl) (by kernel_rfl) (by kernel_rfl)
abbrev fd__law_wrapped : FuncData := fnOf "_law_wrapped" "_law_wrapped" (defArgs K2.s_law_wrapped) (defBody K2.s_law_wrapped) (defScope K2.s_law_wrapped) (.none) (.none) (.none) (.str "law_frametongue_k02_whole_trees_told_and_rea" 869) none (.ref 586) (.none)
theorem f__law_wrapped : L2.Fun (KL P) "_law_wrapped" "_law_wrapped" K2.s_law_wrapped 587 fd__law_wrapped := fun_mk (oc := .type "function") (od := none) (osl := ⟨[]⟩) (by kernel_rfl) (by kernel_rfl) (by kernel_rfl)
abbrev fd__law_loose_words : FuncData := fnOf "_law_loose_words" "_law_loose_words" (defArgs K2.s_law_loose_words) (defBody K2.s_law_loose_words) (defScope K2.s_law_loose_words) (.none) (.none) (.none) (.str "law_frametongue_k02_whole_trees_told_and_rea" 869) none (.ref 593) (.none)
theorem f__law_loose_words : L2.Fun (KL P) "_law_loose_words" "_law_loose_words" K2.s_law_loose_words 594 fd__law_loose_words := fun_mk (oc := .type "function") (od := none) (osl := ⟨[]⟩) (by kernel_rfl) (by kernel_rfl) (by kernel_rfl)
abbrev fd__law_is_read : FuncData := fnOf "_law_is_read" "_law_is_read" (defArgs K2.s_law_is_read) (defBody K2.s_law_is_read) (defScope K2.s_law_is_read) (.none) (.none) (.none) (.str "law_frametongue_k02_whole_trees_told_and_rea" 869) none (.ref 605) (.none)
theorem f__law_is_read : L2.Fun (KL P) "_law_is_read" "_law_is_read" K2.s_law_is_read 606 fd__law_is_read := fun_mk (oc := .type "function") (od := none) (osl := ⟨[]⟩) (by kernel_rfl) (by kernel_rfl) (by kernel_rfl)
abbrev fd__law_right : FuncData := fnOf "_law_right" "_law_right" (defArgs K2.s_law_right) (defBody K2.s_law_right) (defScope K2.s_law_right) (.none) (.none) (.none) (.str "law_frametongue_k02_whole_trees_told_and_rea" 869) none (.ref 612) (.none)
theorem f__law_right : L2.Fun (KL P) "_law_right" "_law_right" K2.s_law_right 613 fd__law_right := fun_mk (oc := .type "function") (od := none) (osl := ⟨[]⟩) (by kernel_rfl) (by kernel_rfl) (by kernel_rfl)
abbrev fd_law : FuncData := fnOf "law" "law" (defArgs K2.s_law) (defBody K2.s_law) (defScope K2.s_law) (.none) (.none) (.none) (.str "law_frametongue_k02_whole_trees_told_and_rea" 869) none (.ref 617) (.none)
theorem f_law : L2.Fun (KL P) "law" "law" K2.s_law 618 fd_law := fun_mk (oc := .type "function") (od := none) (osl := ⟨[]⟩) (by kernel_rfl) (by kernel_rfl) (by kernel_rfl)
abbrev fd_P_init : FuncData := fnOf "__init__" "RowParser.__init__" (defArgs K2.s_P_init) (defBody K2.s_P_init) (defScope K2.s_P_init) (.none) (.none) (.none) (.str "frametongue.parsing" 502) none (.ref 240) (.none)
theorem f_P_init : L2.Fun (KL P) "__init__" "RowParser.__init__" K2.s_P_init 241 fd_P_init := fun_mk (oc := .type "function") (od := none) (osl := ⟨[]⟩) (by kernel_rfl) (by kernel_rfl) (by kernel_rfl)
abbrev fd_P_word : FuncData := fnOf "word" "RowParser.word" (defArgs K2.s_P_word) (defBody K2.s_P_word) (defScope K2.s_P_word) (.none) (.none) (.none) (.str "frametongue.parsing" 502) none (.ref 247) (.none)
theorem f_P_word : L2.Fun (KL P) "word" "RowParser.word" K2.s_P_word 248 fd_P_word := fun_mk (oc := .type "function") (od := none) (osl := ⟨[]⟩) (by kernel_rfl) (by kernel_rfl) (by kernel_rfl)
abbrev fd_P_takes : FuncData := fnOf "takes" "RowParser.takes" (defArgs K2.s_P_takes) (defBody K2.s_P_takes) (defScope K2.s_P_takes) (.none) (.none) (.none) (.str "frametongue.parsing" 502) none (.ref 254) (.none)
theorem f_P_takes : L2.Fun (KL P) "takes" "RowParser.takes" K2.s_P_takes 255 fd_P_takes := fun_mk (oc := .type "function") (od := none) (osl := ⟨[]⟩) (by kernel_rfl) (by kernel_rfl) (by kernel_rfl)
abbrev fd_P_bound : FuncData := fnOf "bound" "RowParser.bound" (defArgs K2.s_P_bound) (defBody K2.s_P_bound) (defScope K2.s_P_bound) (.none) (.none) (.none) (.str "frametongue.parsing" 502) none (.ref 261) (.none)
theorem f_P_bound : L2.Fun (KL P) "bound" "RowParser.bound" K2.s_P_bound 262 fd_P_bound := fun_mk (oc := .type "function") (od := none) (osl := ⟨[]⟩) (by kernel_rfl) (by kernel_rfl) (by kernel_rfl)
abbrev fd_P_any_name : FuncData := fnOf "any_name" "RowParser.any_name" (defArgs K2.s_P_any_name) (defBody K2.s_P_any_name) (defScope K2.s_P_any_name) (.none) (.none) (.none) (.str "frametongue.parsing" 502) none (.ref 268) (.none)
theorem f_P_any_name : L2.Fun (KL P) "any_name" "RowParser.any_name" K2.s_P_any_name 269 fd_P_any_name := fun_mk (oc := .type "function") (od := none) (osl := ⟨[]⟩) (by kernel_rfl) (by kernel_rfl) (by kernel_rfl)
abbrev fd_P_any_number : FuncData := fnOf "any_number" "RowParser.any_number" (defArgs K2.s_P_any_number) (defBody K2.s_P_any_number) (defScope K2.s_P_any_number) (.ref 270) (.none) (.none) (.str "frametongue.parsing" 502) none (.ref 276) (.none)
theorem f_P_any_number : L2.FunD (KL P) "any_number" "RowParser.any_number" (defArgs K2.s_P_any_number) (defBody K2.s_P_any_number) (defScope K2.s_P_any_number) [.non] [] 277 fd_P_any_number :=
  ⟨⟨.type "function", none, (.ref 270), (.none), (.none), (.str "frametongue.parsing" 502), none, (.ref 276), (.none), ⟨[]⟩, rfl, by kernel_rfl, by kernel_rfl, .inr ⟨by simp, 270, o270_3, [.none], 0, rfl, by kernel_rfl, rfl, .cons rfl .nil⟩, .inl rfl⟩, by kernel_rfl⟩
abbrev fd_P_sited : FuncData := fnOf "sited" "RowParser.sited" (defArgs K2.s_P_sited) (defBody K2.s_P_sited) (defScope K2.s_P_sited) (.none) (.none) (.none) (.str "frametongue.parsing" 502) none (.ref 283) (.none)
theorem f_P_sited : L2.Fun (KL P) "sited" "RowParser.sited" K2.s_P_sited 284 fd_P_sited := fun_mk (oc := .type "function") (od := none) (osl := ⟨[]⟩) (by kernel_rfl) (by kernel_rfl) (by kernel_rfl)
abbrev fd_P_any_sum : FuncData := fnOf "any_sum" "RowParser.any_sum" (defArgs K2.s_P_any_sum) (defBody K2.s_P_any_sum) (defScope K2.s_P_any_sum) (.none) (.none) (.none) (.str "frametongue.parsing" 502) none (.ref 290) (.none)
theorem f_P_any_sum : L2.Fun (KL P) "any_sum" "RowParser.any_sum" K2.s_P_any_sum 291 fd_P_any_sum := fun_mk (oc := .type "function") (od := none) (osl := ⟨[]⟩) (by kernel_rfl) (by kernel_rfl) (by kernel_rfl)
abbrev fd_P_any_term : FuncData := fnOf "any_term" "RowParser.any_term" (defArgs K2.s_P_any_term) (defBody K2.s_P_any_term) (defScope K2.s_P_any_term) (.none) (.none) (.none) (.str "frametongue.parsing" 502) none (.ref 297) (.none)
theorem f_P_any_term : L2.Fun (KL P) "any_term" "RowParser.any_term" K2.s_P_any_term 298 fd_P_any_term := fun_mk (oc := .type "function") (od := none) (osl := ⟨[]⟩) (by kernel_rfl) (by kernel_rfl) (by kernel_rfl)
abbrev fd_P_deed : FuncData := fnOf "deed" "RowParser.deed" (defArgs K2.s_P_deed) (defBody K2.s_P_deed) (defScope K2.s_P_deed) (.none) (.none) (.none) (.str "frametongue.parsing" 502) none (.ref 304) (.none)
theorem f_P_deed : L2.Fun (KL P) "deed" "RowParser.deed" K2.s_P_deed 305 fd_P_deed := fun_mk (oc := .type "function") (od := none) (osl := ⟨[]⟩) (by kernel_rfl) (by kernel_rfl) (by kernel_rfl)
abbrev fd_P_any_power : FuncData := fnOf "any_power" "RowParser.any_power" (defArgs K2.s_P_any_power) (defBody K2.s_P_any_power) (defScope K2.s_P_any_power) (.none) (.none) (.none) (.str "frametongue.parsing" 502) none (.ref 311) (.none)
theorem f_P_any_power : L2.Fun (KL P) "any_power" "RowParser.any_power" K2.s_P_any_power 312 fd_P_any_power := fun_mk (oc := .type "function") (od := none) (osl := ⟨[]⟩) (by kernel_rfl) (by kernel_rfl) (by kernel_rfl)
abbrev fd_P_any_atom : FuncData := fnOf "any_atom" "RowParser.any_atom" (defArgs K2.s_P_any_atom) (defBody K2.s_P_any_atom) (defScope K2.s_P_any_atom) (.none) (.none) (.none) (.str "frametongue.parsing" 502) none (.ref 318) (.none)
theorem f_P_any_atom : L2.Fun (KL P) "any_atom" "RowParser.any_atom" K2.s_P_any_atom 319 fd_P_any_atom := fun_mk (oc := .type "function") (od := none) (osl := ⟨[]⟩) (by kernel_rfl) (by kernel_rfl) (by kernel_rfl)
abbrev fd_P_called : FuncData := fnOf "called" "RowParser.called" (defArgs K2.s_P_called) (defBody K2.s_P_called) (defScope K2.s_P_called) (.none) (.none) (.none) (.str "frametongue.parsing" 502) none (.ref 323) (.none)
theorem f_P_called : L2.Fun (KL P) "called" "RowParser.called" K2.s_P_called 324 fd_P_called := fun_mk (oc := .type "function") (od := none) (osl := ⟨[]⟩) (by kernel_rfl) (by kernel_rfl) (by kernel_rfl)
abbrev fd_P_bracketed : FuncData := fnOf "bracketed" "RowParser.bracketed" (defArgs K2.s_P_bracketed) (defBody K2.s_P_bracketed) (defScope K2.s_P_bracketed) (.none) (.none) (.none) (.str "frametongue.parsing" 502) none (.ref 330) (.none)
theorem f_P_bracketed : L2.Fun (KL P) "bracketed" "RowParser.bracketed" K2.s_P_bracketed 331 fd_P_bracketed := fun_mk (oc := .type "function") (od := none) (osl := ⟨[]⟩) (by kernel_rfl) (by kernel_rfl) (by kernel_rfl)
abbrev fd_P_whole_sum : FuncData := fnOf "whole_sum" "RowParser.whole_sum" (defArgs K2.s_P_whole_sum) (defBody K2.s_P_whole_sum) (defScope K2.s_P_whole_sum) (.none) (.none) (.none) (.str "frametongue.parsing" 502) none (.ref 337) (.none)
theorem f_P_whole_sum : L2.Fun (KL P) "whole_sum" "RowParser.whole_sum" K2.s_P_whole_sum 338 fd_P_whole_sum := fun_mk (oc := .type "function") (od := none) (osl := ⟨[]⟩) (by kernel_rfl) (by kernel_rfl) (by kernel_rfl)
abbrev fd_P_any_row : FuncData := fnOf "any_row" "RowParser.any_row" (defArgs K2.s_P_any_row) (defBody K2.s_P_any_row) (defScope K2.s_P_any_row) (.none) (.none) (.none) (.str "frametongue.parsing" 502) none (.ref 344) (.none)
theorem f_P_any_row : L2.Fun (KL P) "any_row" "RowParser.any_row" K2.s_P_any_row 345 fd_P_any_row := fun_mk (oc := .type "function") (od := none) (osl := ⟨[]⟩) (by kernel_rfl) (by kernel_rfl) (by kernel_rfl)
abbrev fd_P_ended : FuncData := fnOf "ended" "RowParser.ended" (defArgs K2.s_P_ended) (defBody K2.s_P_ended) (defScope K2.s_P_ended) (.none) (.none) (.none) (.str "frametongue.parsing" 502) none (.ref 351) (.none)
theorem f_P_ended : L2.Fun (KL P) "ended" "RowParser.ended" K2.s_P_ended 352 fd_P_ended := fun_mk (oc := .type "function") (od := none) (osl := ⟨[]⟩) (by kernel_rfl) (by kernel_rfl) (by kernel_rfl)
abbrev fd_P_equal : FuncData := fnOf "equal" "RowParser.equal" (defArgs K2.s_P_equal) (defBody K2.s_P_equal) (defScope K2.s_P_equal) (.none) (.none) (.none) (.str "frametongue.parsing" 502) none (.ref 358) (.none)
theorem f_P_equal : L2.Fun (KL P) "equal" "RowParser.equal" K2.s_P_equal 359 fd_P_equal := fun_mk (oc := .type "function") (od := none) (osl := ⟨[]⟩) (by kernel_rfl) (by kernel_rfl) (by kernel_rfl)
abbrev fd_P_rule_row : FuncData := fnOf "rule_row" "RowParser.rule_row" (defArgs K2.s_P_rule_row) (defBody K2.s_P_rule_row) (defScope K2.s_P_rule_row) (.none) (.none) (.none) (.str "frametongue.parsing" 502) none (.ref 365) (.none)
theorem f_P_rule_row : L2.Fun (KL P) "rule_row" "RowParser.rule_row" K2.s_P_rule_row 366 fd_P_rule_row := fun_mk (oc := .type "function") (od := none) (osl := ⟨[]⟩) (by kernel_rfl) (by kernel_rfl) (by kernel_rfl)
abbrev fd_R_init : FuncData := fnOf "__init__" "ReadRow.__init__" (defArgs K2.s_R_init) (defBody K2.s_R_init) (defScope K2.s_R_init) (.none) (.none) (.none) (.str "frametongue.parsing" 502) none (.ref 386) (.none)
theorem f_R_init : L2.Fun (KL P) "__init__" "ReadRow.__init__" K2.s_R_init 387 fd_R_init := fun_mk (oc := .type "function") (od := none) (osl := ⟨[]⟩) (by kernel_rfl) (by kernel_rfl) (by kernel_rfl)
theorem g_is_whole : nsIn (KL P) mainGlobals "is_whole" = some (some (.ref 97)) := by kernel_rfl
theorem g_is_between : nsIn (KL P) mainGlobals "is_between" = some (some (.ref 104)) := by kernel_rfl
theorem g_is_string : nsIn (KL P) mainGlobals "is_string" = some (some (.ref 111)) := by kernel_rfl
theorem g_is_row : nsIn (KL P) mainGlobals "is_row" = some (some (.ref 118)) := by kernel_rfl
theorem g_are_same : nsIn (KL P) mainGlobals "are_same" = some (some (.ref 123)) := by kernel_rfl
theorem g_is_simple : nsIn (KL P) mainGlobals "is_simple" = some (some (.ref 130)) := by kernel_rfl
theorem g_wrong_sign : nsIn (KL P) mainGlobals "wrong_sign" = some (some (.ref 135)) := by kernel_rfl
theorem g_sort_of : nsIn (KL P) mainGlobals "sort_of" = some (some (.ref 142)) := by kernel_rfl
theorem g_row_words : nsIn (KL P) mainGlobals "row_words" = some (some (.ref 149)) := by kernel_rfl
theorem g_is_run_of : nsIn (KL P) mainGlobals "is_run_of" = some (some (.ref 154)) := by kernel_rfl
theorem g_is_any_name : nsIn (KL P) mainGlobals "is_any_name" = some (some (.ref 161)) := by kernel_rfl
theorem g_is_name_word : nsIn (KL P) mainGlobals "is_name_word" = some (some (.ref 168)) := by kernel_rfl
theorem g_is_any_number : nsIn (KL P) mainGlobals "is_any_number" = some (some (.ref 175)) := by kernel_rfl
theorem g_is_number_word : nsIn (KL P) mainGlobals "is_number_word" = some (some (.ref 182)) := by kernel_rfl
theorem g_is_name : nsIn (KL P) mainGlobals "is_name" = some (some (.ref 192)) := by kernel_rfl
theorem g_is_headed : nsIn (KL P) mainGlobals "is_headed" = some (some (.ref 199)) := by kernel_rfl
theorem g_is_leaf : nsIn (KL P) mainGlobals "is_leaf" = some (some (.ref 206)) := by kernel_rfl
theorem g_is_branch : nsIn (KL P) mainGlobals "is_branch" = some (some (.ref 213)) := by kernel_rfl
theorem g_has_tree_form : nsIn (KL P) mainGlobals "has_tree_form" = some (some (.ref 220)) := by kernel_rfl
theorem g_parts_of : nsIn (KL P) mainGlobals "parts_of" = some (some (.ref 227)) := by kernel_rfl
theorem g_column_behind : nsIn (KL P) mainGlobals "column_behind" = some (some (.ref 401)) := by kernel_rfl
theorem g_read_by : nsIn (KL P) mainGlobals "read_by" = some (some (.ref 408)) := by kernel_rfl
theorem g_row_by : nsIn (KL P) mainGlobals "row_by" = some (some (.ref 415)) := by kernel_rfl
theorem g_sum_by : nsIn (KL P) mainGlobals "sum_by" = some (some (.ref 422)) := by kernel_rfl
theorem g_at_least : nsIn (KL P) mainGlobals "at_least" = some (some (.ref 429)) := by kernel_rfl
theorem g_deed_text : nsIn (KL P) mainGlobals "deed_text" = some (some (.ref 436)) := by kernel_rfl
theorem g_leveled : nsIn (KL P) mainGlobals "leveled" = some (some (.ref 441)) := by kernel_rfl
theorem g_sum_text : nsIn (KL P) mainGlobals "sum_text" = some (some (.ref 448)) := by kernel_rfl
theorem g_check_text : nsIn (KL P) mainGlobals "check_text" = some (some (.ref 455)) := by kernel_rfl
theorem g_own_tree : nsIn (KL P) mainGlobals "own_tree" = some (some (.ref 462)) := by kernel_rfl
theorem g_read_row : nsIn (KL P) mainGlobals "read_row" = some (some (.ref 469)) := by kernel_rfl
theorem g_read_tree : nsIn (KL P) mainGlobals "read_tree" = some (some (.ref 476)) := by kernel_rfl
theorem g_is_tree : nsIn (KL P) mainGlobals "is_tree" = some (some (.ref 483)) := by kernel_rfl
theorem g_tree_text : nsIn (KL P) mainGlobals "tree_text" = some (some (.ref 490)) := by kernel_rfl
theorem g__law_purse : nsIn (KL P) mainGlobals "_law_purse" = some (some (.ref 497)) := by kernel_rfl
theorem g__law_take : nsIn (KL P) mainGlobals "_law_take" = some (some (.ref 504)) := by kernel_rfl
theorem g__law_pick : nsIn (KL P) mainGlobals "_law_pick" = some (some (.ref 511)) := by kernel_rfl
theorem g__law_same : nsIn (KL P) mainGlobals "_law_same" = some (some (.ref 518)) := by kernel_rfl
theorem g__law_name_of : nsIn (KL P) mainGlobals "_law_name_of" = some (some (.ref 525)) := by kernel_rfl
theorem g__law_tree : nsIn (KL P) mainGlobals "_law_tree" = some (some (.ref 532)) := by kernel_rfl
theorem g__law_within : nsIn (KL P) mainGlobals "_law_within" = some (some (.ref 544)) := by kernel_rfl
theorem g__law_row_text : nsIn (KL P) mainGlobals "_law_row_text" = some (some (.ref 549)) := by kernel_rfl
theorem g__law_any : nsIn (KL P) mainGlobals "_law_any" = some (some (.ref 566)) := by kernel_rfl
theorem g__law_blank : nsIn (KL P) mainGlobals "_law_blank" = some (some (.ref 573)) := by kernel_rfl
theorem g__law_glued : nsIn (KL P) mainGlobals "_law_glued" = some (some (.ref 580)) := by kernel_rfl
theorem g__law_wrapped : nsIn (KL P) mainGlobals "_law_wrapped" = some (some (.ref 587)) := by kernel_rfl
theorem g__law_loose_words : nsIn (KL P) mainGlobals "_law_loose_words" = some (some (.ref 594)) := by kernel_rfl
theorem g__law_is_read : nsIn (KL P) mainGlobals "_law_is_read" = some (some (.ref 606)) := by kernel_rfl
theorem g__law_right : nsIn (KL P) mainGlobals "_law_right" = some (some (.ref 613)) := by kernel_rfl
theorem g_law : nsIn (KL P) mainGlobals "law" = some (some (.ref 618)) := by kernel_rfl
theorem g_RowParser : nsIn (KL P) mainGlobals "RowParser" = some (some (.ref 369)) := by kernel_rfl
theorem g_ReadRow : nsIn (KL P) mainGlobals "ReadRow" = some (some (.ref 390)) := by kernel_rfl
theorem g_DEEDS : nsIn (KL P) mainGlobals "DEEDS" = some (some (.ref 183)) := by kernel_rfl
theorem g_GIVEN_HEADS : nsIn (KL P) mainGlobals "GIVEN_HEADS" = some (some (.ref 185)) := by kernel_rfl
theorem g_SIZES : nsIn (KL P) mainGlobals "SIZES" = some (some (.ref 184)) := by kernel_rfl
theorem g_LETTERS : nsIn (KL P) mainGlobals "LETTERS" = some (some (.str "abcdefghijklmnopqrstuvwxyz" 339)) := by kernel_rfl
theorem g_FIGURES : nsIn (KL P) mainGlobals "FIGURES" = some (some (.str "0123456789" 341)) := by kernel_rfl
theorem g_OTHERS : nsIn (KL P) mainGlobals "OTHERS" = some (some (.str "+-*/^(),=" 343)) := by kernel_rfl
theorem g_BLANK : nsIn (KL P) mainGlobals "BLANK" = some (some (.str " " 345)) := by kernel_rfl
theorem g_MOST_LETTERS : nsIn (KL P) mainGlobals "MOST_LETTERS" = some (some (.int 8 347)) := by kernel_rfl
theorem g_MOST_FIGURES : nsIn (KL P) mainGlobals "MOST_FIGURES" = some (some (.int 6 349)) := by kernel_rfl
theorem g_MOST_PLACES : nsIn (KL P) mainGlobals "MOST_PLACES" = some (some (.int 40 416)) := by kernel_rfl
theorem g_MOST_NUMBER : nsIn (KL P) mainGlobals "MOST_NUMBER" = some (some (.int 999999 418)) := by kernel_rfl
theorem g_MOST_POWER : nsIn (KL P) mainGlobals "MOST_POWER" = some (some (.int 4 420)) := by kernel_rfl
theorem g_MOST_OWN : nsIn (KL P) mainGlobals "MOST_OWN" = some (some (.int 3 422)) := by kernel_rfl
theorem g_MOST_DEEP : nsIn (KL P) mainGlobals "MOST_DEEP" = some (some (.int 12 504)) := by kernel_rfl
theorem g_SUM : nsIn (KL P) mainGlobals "SUM" = some (some (.int 0 784)) := by kernel_rfl
theorem g_TERM : nsIn (KL P) mainGlobals "TERM" = some (some (.int 1 786)) := by kernel_rfl
theorem g_POWER : nsIn (KL P) mainGlobals "POWER" = some (some (.int 2 788)) := by kernel_rfl
theorem g_ATOM : nsIn (KL P) mainGlobals "ATOM" = some (some (.int 3 790)) := by kernel_rfl
theorem g_SIGN : nsIn (KL P) mainGlobals "SIGN" = some (some (.str "sign" 506)) := by kernel_rfl
theorem g_FORM : nsIn (KL P) mainGlobals "FORM" = some (some (.str "form" 508)) := by kernel_rfl
theorem n_len : nsIn (KL P) mainGlobals "len" = some none := by kernel_rfl
theorem n_int : nsIn (KL P) mainGlobals "int" = some none := by kernel_rfl
theorem n_abs : nsIn (KL P) mainGlobals "abs" = some none := by kernel_rfl
theorem n_range : nsIn (KL P) mainGlobals "range" = some none := by kernel_rfl
theorem n_max : nsIn (KL P) mainGlobals "max" = some none := by kernel_rfl
theorem n_min : nsIn (KL P) mainGlobals "min" = some none := by kernel_rfl
theorem n_all : nsIn (KL P) mainGlobals "all" = some none := by kernel_rfl
theorem n_isinstance : nsIn (KL P) mainGlobals "isinstance" = some none := by kernel_rfl
theorem n_repr : nsIn (KL P) mainGlobals "repr" = some none := by kernel_rfl
theorem n_str : nsIn (KL P) mainGlobals "str" = some none := by kernel_rfl
theorem n_tuple : nsIn (KL P) mainGlobals "tuple" = some none := by kernel_rfl
theorem n_bool : nsIn (KL P) mainGlobals "bool" = some none := by kernel_rfl
theorem n_list : nsIn (KL P) mainGlobals "list" = some none := by kernel_rfl
theorem n_enumerate : nsIn (KL P) mainGlobals "enumerate" = some none := by kernel_rfl
theorem n_zip : nsIn (KL P) mainGlobals "zip" = some none := by kernel_rfl
theorem n_dict : nsIn (KL P) mainGlobals "dict" = some none := by kernel_rfl
theorem dP_pg : plainGet (KL P) 369 Str.empty = true := by kernel_rfl
theorem dP_hd : hasDictIn (KL P) 369 = true := by kernel_rfl
theorem dP_po : plainOver (KL P) 369 = true := by kernel_rfl
theorem dP_sa : findIn (KL P) (.ref 369) "__setattr__" = some (some (.builtin "object.__setattr__")) := by kernel_rfl
theorem dP_mk : makesIn (KL P) 369 = true := by kernel_rfl
theorem dP_kc : keepIn (KL P) (.ref 369) = true := by kernel_rfl
theorem dR_pg : plainGet (KL P) 390 Str.empty = true := by kernel_rfl
theorem dR_hd : hasDictIn (KL P) 390 = true := by kernel_rfl
theorem dR_po : plainOver (KL P) 390 = true := by kernel_rfl
theorem dR_sa : findIn (KL P) (.ref 390) "__setattr__" = some (some (.builtin "object.__setattr__")) := by kernel_rfl
theorem dR_mk : makesIn (KL P) 390 = true := by kernel_rfl
theorem dR_kc : keepIn (KL P) (.ref 390) = true := by kernel_rfl
theorem dP_n_words : findIn (KL P) (.ref 369) "words" = some none := by kernel_rfl
theorem dP_n_at : findIn (KL P) (.ref 369) "at" = some none := by kernel_rfl
theorem dP_n_deep : findIn (KL P) (.ref 369) "deep" = some none := by kernel_rfl
theorem dP_n_places : findIn (KL P) (.ref 369) "places" = some none := by kernel_rfl
theorem dP_n_is_bound : findIn (KL P) (.ref 369) "is_bound" = some none := by kernel_rfl
theorem dP_n_names : findIn (KL P) (.ref 369) "names" = some none := by kernel_rfl
theorem dR_n_word : findIn (KL P) (.ref 390) "word" = some none := by kernel_rfl
theorem dR_n_column : findIn (KL P) (.ref 390) "column" = some none := by kernel_rfl
theorem dR_n_tree : findIn (KL P) (.ref 390) "tree" = some none := by kernel_rfl
theorem dR_n_sited : findIn (KL P) (.ref 390) "sited" = some none := by kernel_rfl
theorem dR_n_words : findIn (KL P) (.ref 390) "words" = some none := by kernel_rfl
theorem dR_n_names : findIn (KL P) (.ref 390) "names" = some none := by kernel_rfl
theorem m_P_init : findIn (KL P) (.ref 369) "__init__" = some (some (.ref 241)) := by kernel_rfl
theorem i_P_init : isFn (KL P) (.ref 241) = true := by kernel_rfl
theorem m_P_word : findIn (KL P) (.ref 369) "word" = some (some (.ref 248)) := by kernel_rfl
theorem i_P_word : isFn (KL P) (.ref 248) = true := by kernel_rfl
theorem m_P_takes : findIn (KL P) (.ref 369) "takes" = some (some (.ref 255)) := by kernel_rfl
theorem i_P_takes : isFn (KL P) (.ref 255) = true := by kernel_rfl
theorem m_P_bound : findIn (KL P) (.ref 369) "bound" = some (some (.ref 262)) := by kernel_rfl
theorem i_P_bound : isFn (KL P) (.ref 262) = true := by kernel_rfl
theorem m_P_any_name : findIn (KL P) (.ref 369) "any_name" = some (some (.ref 269)) := by kernel_rfl
theorem i_P_any_name : isFn (KL P) (.ref 269) = true := by kernel_rfl
theorem m_P_any_number : findIn (KL P) (.ref 369) "any_number" = some (some (.ref 277)) := by kernel_rfl
theorem i_P_any_number : isFn (KL P) (.ref 277) = true := by kernel_rfl
theorem m_P_sited : findIn (KL P) (.ref 369) "sited" = some (some (.ref 284)) := by kernel_rfl
theorem i_P_sited : isFn (KL P) (.ref 284) = true := by kernel_rfl
theorem m_P_any_sum : findIn (KL P) (.ref 369) "any_sum" = some (some (.ref 291)) := by kernel_rfl
theorem i_P_any_sum : isFn (KL P) (.ref 291) = true := by kernel_rfl
theorem m_P_any_term : findIn (KL P) (.ref 369) "any_term" = some (some (.ref 298)) := by kernel_rfl
theorem i_P_any_term : isFn (KL P) (.ref 298) = true := by kernel_rfl
theorem m_P_deed : findIn (KL P) (.ref 369) "deed" = some (some (.ref 305)) := by kernel_rfl
theorem i_P_deed : isFn (KL P) (.ref 305) = true := by kernel_rfl
theorem m_P_any_power : findIn (KL P) (.ref 369) "any_power" = some (some (.ref 312)) := by kernel_rfl
theorem i_P_any_power : isFn (KL P) (.ref 312) = true := by kernel_rfl
theorem m_P_any_atom : findIn (KL P) (.ref 369) "any_atom" = some (some (.ref 319)) := by kernel_rfl
theorem i_P_any_atom : isFn (KL P) (.ref 319) = true := by kernel_rfl
theorem m_P_called : findIn (KL P) (.ref 369) "called" = some (some (.ref 324)) := by kernel_rfl
theorem i_P_called : isFn (KL P) (.ref 324) = true := by kernel_rfl
theorem m_P_bracketed : findIn (KL P) (.ref 369) "bracketed" = some (some (.ref 331)) := by kernel_rfl
theorem i_P_bracketed : isFn (KL P) (.ref 331) = true := by kernel_rfl
theorem m_P_whole_sum : findIn (KL P) (.ref 369) "whole_sum" = some (some (.ref 338)) := by kernel_rfl
theorem i_P_whole_sum : isFn (KL P) (.ref 338) = true := by kernel_rfl
theorem m_P_any_row : findIn (KL P) (.ref 369) "any_row" = some (some (.ref 345)) := by kernel_rfl
theorem i_P_any_row : isFn (KL P) (.ref 345) = true := by kernel_rfl
theorem m_P_ended : findIn (KL P) (.ref 369) "ended" = some (some (.ref 352)) := by kernel_rfl
theorem i_P_ended : isFn (KL P) (.ref 352) = true := by kernel_rfl
theorem m_P_equal : findIn (KL P) (.ref 369) "equal" = some (some (.ref 359)) := by kernel_rfl
theorem i_P_equal : isFn (KL P) (.ref 359) = true := by kernel_rfl
theorem m_P_rule_row : findIn (KL P) (.ref 369) "rule_row" = some (some (.ref 366)) := by kernel_rfl
theorem i_P_rule_row : isFn (KL P) (.ref 366) = true := by kernel_rfl
theorem m_R_init : findIn (KL P) (.ref 390) "__init__" = some (some (.ref 387)) := by kernel_rfl
theorem i_R_init : isFn (KL P) (.ref 387) = true := by kernel_rfl
theorem gf_P_any_term : specialIn (KL P) (.ref 298) "__get__" = some (some (.builtin "function.__get__")) := by kernel_rfl
theorem tk_P_any_term : takesIn (KL P) (.ref 298) = some false := by kernel_rfl
theorem fi_P_any_term : fnIn (KL P) 298 = true := by kernel_rfl
theorem gf_P_any_power : specialIn (KL P) (.ref 312) "__get__" = some (some (.builtin "function.__get__")) := by kernel_rfl
theorem tk_P_any_power : takesIn (KL P) (.ref 312) = some false := by kernel_rfl
theorem fi_P_any_power : fnIn (KL P) 312 = true := by kernel_rfl
theorem l_DEEDS : (KL P).lookup 183 = some (o183_2) := by kernel_rfl
theorem l_GIVEN_HEADS : (KL P).lookup 185 = some (o185_2) := by kernel_rfl
theorem l_SIZES : (KL P).lookup 184 = some ((o184_2 P)) := by kernel_rfl
theorem k_DEEDS (H : Hp) : SqT (KL P) H 183 K2.deedsV := .inr ⟨o183_2, ⟨[.str "+" 411, .str "-" 412, .str "*" 413, .str "/" 414]⟩, 0, l_DEEDS P, rfl, rfl, by show 4 ≤ sizeLine; decide, .cons ⟨_, rfl⟩ (.cons ⟨_, rfl⟩ (.cons ⟨_, rfl⟩ (.cons ⟨_, rfl⟩ (.nil))))⟩
theorem k_GIVEN_HEADS (H : Hp) : SqT (KL P) H 185 K2.headsV := .inr ⟨o185_2, ⟨[.str "point" 452, .str "arrow" 453, .str "number" 454]⟩, 0, l_GIVEN_HEADS P, rfl, rfl, by show 3 ≤ sizeLine; decide, .cons ⟨_, rfl⟩ (.cons ⟨_, rfl⟩ (.cons ⟨_, rfl⟩ (.nil)))⟩
theorem keys_S (w : World) : KeysOf (mixKind K2.prg w) ⟨[⟨PyData.keyHash w.params "value", .str "value" 424, .int 2 425⟩, ⟨PyData.keyHash w.params "name", .str "name" 426, .int 2 427⟩, ⟨PyData.keyHash w.params "call", .str "call" 428, .int 3 429⟩, ⟨PyData.keyHash w.params "minus", .str "minus" 430, .int 2 431⟩, ⟨PyData.keyHash w.params "+", .str "+" 432, .int 3 433⟩, ⟨PyData.keyHash w.params "-", .str "-" 434, .int 3 435⟩, ⟨PyData.keyHash w.params "*", .str "*" 436, .int 3 437⟩, ⟨PyData.keyHash w.params "/", .str "/" 438, .int 3 439⟩, ⟨PyData.keyHash w.params "power", .str "power" 440, .int 3 441⟩]⟩ := fun e m => by
  have m := Array.mem_toList_iff.mpr m
  simp only [List.mem_cons, List.not_mem_nil, or_false] at m
  rcases m with rfl | rfl | rfl | rfl | rfl | rfl | rfl | rfl | rfl
  · exact ⟨.inr "value", (show keyIs (.inr "value") (.str "value" 424) = true by decide +kernel), rfl⟩
  · exact ⟨.inr "name", (show keyIs (.inr "name") (.str "name" 426) = true by decide +kernel), rfl⟩
  · exact ⟨.inr "call", (show keyIs (.inr "call") (.str "call" 428) = true by decide +kernel), rfl⟩
  · exact ⟨.inr "minus", (show keyIs (.inr "minus") (.str "minus" 430) = true by decide +kernel), rfl⟩
  · exact ⟨.inr "+", (show keyIs (.inr "+") (.str "+" 432) = true by decide +kernel), rfl⟩
  · exact ⟨.inr "-", (show keyIs (.inr "-") (.str "-" 434) = true by decide +kernel), rfl⟩
  · exact ⟨.inr "*", (show keyIs (.inr "*") (.str "*" 436) = true by decide +kernel), rfl⟩
  · exact ⟨.inr "/", (show keyIs (.inr "/") (.str "/" 438) = true by decide +kernel), rfl⟩
  · exact ⟨.inr "power", (show keyIs (.inr "power") (.str "power" 440) = true by decide +kernel), rfl⟩
theorem pairs_S (w : World) : Pairs (mixKind K2.prg w) [⟨PyData.keyHash w.params "value", .str "value" 424, .int 2 425⟩, ⟨PyData.keyHash w.params "name", .str "name" 426, .int 2 427⟩, ⟨PyData.keyHash w.params "call", .str "call" 428, .int 3 429⟩, ⟨PyData.keyHash w.params "minus", .str "minus" 430, .int 2 431⟩, ⟨PyData.keyHash w.params "+", .str "+" 432, .int 3 433⟩, ⟨PyData.keyHash w.params "-", .str "-" 434, .int 3 435⟩, ⟨PyData.keyHash w.params "*", .str "*" 436, .int 3 437⟩, ⟨PyData.keyHash w.params "/", .str "/" 438, .int 3 439⟩, ⟨PyData.keyHash w.params "power", .str "power" 440, .int 3 441⟩] [(Sum.inr "value", .int 2 425), (Sum.inr "name", .int 2 427), (Sum.inr "call", .int 3 429), (Sum.inr "minus", .int 2 431), (Sum.inr "+", .int 3 433), (Sum.inr "-", .int 3 435), (Sum.inr "*", .int 3 437), (Sum.inr "/", .int 3 439), (Sum.inr "power", .int 3 441)] := .cons (show keyIs (.inr "value") (.str "value" 424) = true by decide +kernel) rfl (.cons (show keyIs (.inr "name") (.str "name" 426) = true by decide +kernel) rfl (.cons (show keyIs (.inr "call") (.str "call" 428) = true by decide +kernel) rfl (.cons (show keyIs (.inr "minus") (.str "minus" 430) = true by decide +kernel) rfl (.cons (show keyIs (.inr "+") (.str "+" 432) = true by decide +kernel) rfl (.cons (show keyIs (.inr "-") (.str "-" 434) = true by decide +kernel) rfl (.cons (show keyIs (.inr "*") (.str "*" 436) = true by decide +kernel) rfl (.cons (show keyIs (.inr "/") (.str "/" 438) = true by decide +kernel) rfl (.cons (show keyIs (.inr "power") (.str "power" 440) = true by decide +kernel) rfl (.nil)))))))))
theorem k_SIZES (w : World) : DictK (KL w.params) K2.prg w 184 K2.sizesKv :=
  ⟨by decide, by show 9 ≤ sizeLine; decide, [(Sum.inr "value", .int 2 425), (Sum.inr "name", .int 2 427), (Sum.inr "call", .int 3 429), (Sum.inr "minus", .int 2 431), (Sum.inr "+", .int 3 433), (Sum.inr "-", .int 3 435), (Sum.inr "*", .int 3 437), (Sum.inr "/", .int 3 439), (Sum.inr "power", .int 3 441)], .cons ⟨rfl, _, rfl⟩ (.cons ⟨rfl, _, rfl⟩ (.cons ⟨rfl, _, rfl⟩ (.cons ⟨rfl, _, rfl⟩ (.cons ⟨rfl, _, rfl⟩ (.cons ⟨rfl, _, rfl⟩ (.cons ⟨rfl, _, rfl⟩ (.cons ⟨rfl, _, rfl⟩ (.cons ⟨rfl, _, rfl⟩ (.nil))))))))), fun h X => ⟨_, _, _, X _ _ (l_SIZES w.params), ⟨rfl, rfl, rfl⟩, rfl, keys_S w, pairs_S w, by decide +kernel⟩⟩
end K2H
set_option maxHeartbeats 0
/-! P27: all defs, and the law. -/
namespace K2H
open PySem PySem.Spec PySem.Calls PyProof.Rows L2 HandSHeadRun DL
open PySem.W (Frag keepIn findIn typeIn subIn nsIn clsIn hasDictIn specialIn takesIn fnIn codeIn fnX fnOf isFn plainGet plainOver makesIn)
theorem b_is_whole (P : Params) : L2.Binds (KL P) fd_is_whole ["value"] [] := (f_is_whole P).binds fun _ _ _ _ _ _ us hl => match us, hl with | [_], _ => rfl
theorem b_is_between (P : Params) : L2.Binds (KL P) fd_is_between ["value", "least", "most"] [] := (f_is_between P).binds fun _ _ _ _ _ _ us hl => match us, hl with | [_, _, _], _ => rfl
theorem b_is_string (P : Params) : L2.Binds (KL P) fd_is_string ["value"] [] := (f_is_string P).binds fun _ _ _ _ _ _ us hl => match us, hl with | [_], _ => rfl
theorem b_is_row (P : Params) : L2.Binds (KL P) fd_is_row ["value", "least", "most"] [] := (f_is_row P).binds fun _ _ _ _ _ _ us hl => match us, hl with | [_, _, _], _ => rfl
theorem b_are_same (P : Params) : L2.Binds (KL P) fd_are_same ["one", "two"] [] := (f_are_same P).binds fun _ _ _ _ _ _ us hl => match us, hl with | [_, _], _ => rfl
theorem b_is_simple (P : Params) : L2.Binds (KL P) fd_is_simple ["value"] [] := (f_is_simple P).binds fun _ _ _ _ _ _ us hl => match us, hl with | [_], _ => rfl
theorem b_wrong_sign (P : Params) : L2.Binds (KL P) fd_wrong_sign ["row"] [] := (f_wrong_sign P).binds fun _ _ _ _ _ _ us hl => match us, hl with | [_], _ => rfl
theorem b_sort_of (P : Params) : L2.Binds (KL P) fd_sort_of ["sign"] [] := (f_sort_of P).binds fun _ _ _ _ _ _ us hl => match us, hl with | [_], _ => rfl
theorem b_row_words (P : Params) : L2.Binds (KL P) fd_row_words ["row"] [] := (f_row_words P).binds fun _ _ _ _ _ _ us hl => match us, hl with | [_], _ => rfl
theorem b_is_run_of (P : Params) : L2.Binds (KL P) fd_is_run_of ["text", "signs"] [] := (f_is_run_of P).binds fun _ _ _ _ _ _ us hl => match us, hl with | [_, _], _ => rfl
theorem b_is_any_name (P : Params) : L2.Binds (KL P) fd_is_any_name ["text"] [] := (f_is_any_name P).binds fun _ _ _ _ _ _ us hl => match us, hl with | [_], _ => rfl
theorem b_is_name_word (P : Params) : L2.Binds (KL P) fd_is_name_word ["text"] [] := (f_is_name_word P).binds fun _ _ _ _ _ _ us hl => match us, hl with | [_], _ => rfl
theorem b_is_any_number (P : Params) : L2.Binds (KL P) fd_is_any_number ["text"] [] := (f_is_any_number P).binds fun _ _ _ _ _ _ us hl => match us, hl with | [_], _ => rfl
theorem b_is_number_word (P : Params) : L2.Binds (KL P) fd_is_number_word ["text"] [] := (f_is_number_word P).binds fun _ _ _ _ _ _ us hl => match us, hl with | [_], _ => rfl
theorem b_is_name (P : Params) : L2.Binds (KL P) fd_is_name ["value"] [] := (f_is_name P).binds fun _ _ _ _ _ _ us hl => match us, hl with | [_], _ => rfl
theorem b_is_headed (P : Params) : L2.Binds (KL P) fd_is_headed ["value", "sizes"] [] := (f_is_headed P).binds fun _ _ _ _ _ _ us hl => match us, hl with | [_, _], _ => rfl
theorem b_is_leaf (P : Params) : L2.Binds (KL P) fd_is_leaf ["value"] [] := (f_is_leaf P).binds fun _ _ _ _ _ _ us hl => match us, hl with | [_], _ => rfl
theorem b_is_branch (P : Params) : L2.Binds (KL P) fd_is_branch ["value"] [] := (f_is_branch P).binds fun _ _ _ _ _ _ us hl => match us, hl with | [_], _ => rfl
theorem b_has_tree_form (P : Params) : L2.Binds (KL P) fd_has_tree_form ["value"] [] := (f_has_tree_form P).binds fun _ _ _ _ _ _ us hl => match us, hl with | [_], _ => rfl
theorem b_parts_of (P : Params) : L2.Binds (KL P) fd_parts_of ["tree"] [] := (f_parts_of P).binds fun _ _ _ _ _ _ us hl => match us, hl with | [_], _ => rfl
theorem b_column_behind (P : Params) : L2.Binds (KL P) fd_column_behind ["words", "at", "end"] [] := (f_column_behind P).binds fun _ _ _ _ _ _ us hl => match us, hl with | [_, _, _], _ => rfl
theorem b_read_by (P : Params) : L2.Binds (KL P) fd_read_by ["row", "is_sum"] [] := (f_read_by P).binds fun _ _ _ _ _ _ us hl => match us, hl with | [_, _], _ => rfl
theorem b_row_by (P : Params) : L2.Binds (KL P) fd_row_by ["row"] [] := (f_row_by P).binds fun _ _ _ _ _ _ us hl => match us, hl with | [_], _ => rfl
theorem b_sum_by (P : Params) : L2.Binds (KL P) fd_sum_by ["text"] [] := (f_sum_by P).binds fun _ _ _ _ _ _ us hl => match us, hl with | [_], _ => rfl
theorem b_at_least (P : Params) : L2.Binds (KL P) fd_at_least ["told", "level"] [] := (f_at_least P).binds fun _ _ _ _ _ _ us hl => match us, hl with | [_, _], _ => rfl
theorem b_deed_text (P : Params) : L2.Binds (KL P) fd_deed_text ["deed", "one", "other"] [] := (f_deed_text P).binds fun _ _ _ _ _ _ us hl => match us, hl with | [_, _, _], _ => rfl
theorem b_leveled (P : Params) : L2.Binds (KL P) fd_leveled ["tree"] [] := (f_leveled P).binds fun _ _ _ _ _ _ us hl => match us, hl with | [_], _ => rfl
theorem b_sum_text (P : Params) : L2.Binds (KL P) fd_sum_text ["tree"] [] := (f_sum_text P).binds fun _ _ _ _ _ _ us hl => match us, hl with | [_], _ => rfl
theorem b_check_text (P : Params) : L2.Binds (KL P) fd_check_text ["value"] [] := (f_check_text P).binds fun _ _ _ _ _ _ us hl => match us, hl with | [_], _ => rfl
theorem b_own_tree (P : Params) : L2.Binds (KL P) fd_own_tree ["read"] [] := (f_own_tree P).binds fun _ _ _ _ _ _ us hl => match us, hl with | [_], _ => rfl
theorem b_read_row (P : Params) : L2.Binds (KL P) fd_read_row ["text"] [] := (f_read_row P).binds fun _ _ _ _ _ _ us hl => match us, hl with | [_], _ => rfl
theorem b_read_tree (P : Params) : L2.Binds (KL P) fd_read_tree ["text"] [] := (f_read_tree P).binds fun _ _ _ _ _ _ us hl => match us, hl with | [_], _ => rfl
theorem b_is_tree (P : Params) : L2.Binds (KL P) fd_is_tree ["value"] [] := (f_is_tree P).binds fun _ _ _ _ _ _ us hl => match us, hl with | [_], _ => rfl
theorem b_tree_text (P : Params) : L2.Binds (KL P) fd_tree_text ["tree"] [] := (f_tree_text P).binds fun _ _ _ _ _ _ us hl => match us, hl with | [_], _ => rfl
theorem b__law_purse (P : Params) : L2.Binds (KL P) fd__law_purse ["cells", "at"] [] := (f__law_purse P).binds fun _ _ _ _ _ _ us hl => match us, hl with | [_, _], _ => rfl
theorem b__law_take (P : Params) : L2.Binds (KL P) fd__law_take ["draws", "many"] [] := (f__law_take P).binds fun _ _ _ _ _ _ us hl => match us, hl with | [_, _], _ => rfl
theorem b__law_pick (P : Params) : L2.Binds (KL P) fd__law_pick ["draws", "some"] [] := (f__law_pick P).binds fun _ _ _ _ _ _ us hl => match us, hl with | [_, _], _ => rfl
theorem b__law_same (P : Params) : L2.Binds (KL P) fd__law_same ["told", "due"] [] := (f__law_same P).binds fun _ _ _ _ _ _ us hl => match us, hl with | [_, _], _ => rfl
theorem b__law_name_of (P : Params) : L2.Binds (KL P) fd__law_name_of ["spec", "item", "own"] [] := (f__law_name_of P).binds fun _ _ _ _ _ _ us hl => match us, hl with | [_, _, _], _ => rfl
theorem b__law_tree (P : Params) : L2.Binds (KL P) fd__law_tree ["spec", "row", "own"] [] := (f__law_tree P).binds fun _ _ _ _ _ _ us hl => match us, hl with | [_, _, _], _ => rfl
theorem b__law_within (P : Params) : L2.Binds (KL P) fd__law_within ["part", "least"] [] := (f__law_within P).binds fun _ _ _ _ _ _ us hl => match us, hl with | [_, _], _ => rfl
theorem b__law_row_text (P : Params) : L2.Binds (KL P) fd__law_row_text ["spec", "row", "own"] [] := (f__law_row_text P).binds fun _ _ _ _ _ _ us hl => match us, hl with | [_, _, _], _ => rfl
theorem b__law_any (P : Params) : L2.Binds (KL P) fd__law_any ["draws", "spec"] [] := (f__law_any P).binds fun _ _ _ _ _ _ us hl => match us, hl with | [_, _], _ => rfl
theorem b__law_blank (P : Params) : L2.Binds (KL P) fd__law_blank ["draws"] [] := (f__law_blank P).binds fun _ _ _ _ _ _ us hl => match us, hl with | [_], _ => rfl
theorem b__law_glued (P : Params) : L2.Binds (KL P) fd__law_glued ["draws", "words"] [] := (f__law_glued P).binds fun _ _ _ _ _ _ us hl => match us, hl with | [_, _], _ => rfl
theorem b__law_wrapped (P : Params) : L2.Binds (KL P) fd__law_wrapped ["draws", "part", "least"] [] := (f__law_wrapped P).binds fun _ _ _ _ _ _ us hl => match us, hl with | [_, _, _], _ => rfl
theorem b__law_loose_words (P : Params) : L2.Binds (KL P) fd__law_loose_words ["draws", "spec", "row", "own"] [] := (f__law_loose_words P).binds fun _ _ _ _ _ _ us hl => match us, hl with | [_, _, _, _], _ => rfl
theorem b__law_is_read (P : Params) : L2.Binds (KL P) fd__law_is_read ["draws", "spec", "row"] [] := (f__law_is_read P).binds fun _ _ _ _ _ _ us hl => match us, hl with | [_, _, _], _ => rfl
theorem b__law_right (P : Params) : L2.Binds (KL P) fd__law_right ["draws"] [] := (f__law_right P).binds fun _ _ _ _ _ _ us hl => match us, hl with | [_], _ => rfl
theorem b_law (P : Params) : L2.Binds (KL P) fd_law ["cells"] [] := (f_law P).binds fun _ _ _ _ _ _ us hl => match us, hl with | [_], _ => rfl
theorem b_P_init (P : Params) : L2.Binds (KL P) fd_P_init ["self", "words"] [] := (f_P_init P).binds fun _ _ _ _ _ _ us hl => match us, hl with | [_, _], _ => rfl
theorem b_P_word (P : Params) : L2.Binds (KL P) fd_P_word ["self"] [] := (f_P_word P).binds fun _ _ _ _ _ _ us hl => match us, hl with | [_], _ => rfl
theorem b_P_takes (P : Params) : L2.Binds (KL P) fd_P_takes ["self", "text"] [] := (f_P_takes P).binds fun _ _ _ _ _ _ us hl => match us, hl with | [_, _], _ => rfl
theorem b_P_bound (P : Params) : L2.Binds (KL P) fd_P_bound ["self", "is_right"] [] := (f_P_bound P).binds fun _ _ _ _ _ _ us hl => match us, hl with | [_, _], _ => rfl
theorem b_P_any_name (P : Params) : L2.Binds (KL P) fd_P_any_name ["self", "does"] [] := (f_P_any_name P).binds fun _ _ _ _ _ _ us hl => match us, hl with | [_, _], _ => rfl
theorem b_P_sited (P : Params) : L2.Binds (KL P) fd_P_sited ["self", "tree", "begin", "parts"] [] := (f_P_sited P).binds fun _ _ _ _ _ _ us hl => match us, hl with | [_, _, _, _], _ => rfl
theorem b_P_any_sum (P : Params) : L2.Binds (KL P) fd_P_any_sum ["self"] [] := (f_P_any_sum P).binds fun _ _ _ _ _ _ us hl => match us, hl with | [_], _ => rfl
theorem b_P_any_term (P : Params) : L2.Binds (KL P) fd_P_any_term ["self"] [] := (f_P_any_term P).binds fun _ _ _ _ _ _ us hl => match us, hl with | [_], _ => rfl
theorem b_P_deed (P : Params) : L2.Binds (KL P) fd_P_deed ["self", "one", "begin", "read_other"] [] := (f_P_deed P).binds fun _ _ _ _ _ _ us hl => match us, hl with | [_, _, _, _], _ => rfl
theorem b_P_any_power (P : Params) : L2.Binds (KL P) fd_P_any_power ["self"] [] := (f_P_any_power P).binds fun _ _ _ _ _ _ us hl => match us, hl with | [_], _ => rfl
theorem b_P_any_atom (P : Params) : L2.Binds (KL P) fd_P_any_atom ["self"] [] := (f_P_any_atom P).binds fun _ _ _ _ _ _ us hl => match us, hl with | [_], _ => rfl
theorem b_P_called (P : Params) : L2.Binds (KL P) fd_P_called ["self", "name", "begin"] [] := (f_P_called P).binds fun _ _ _ _ _ _ us hl => match us, hl with | [_, _, _], _ => rfl
theorem b_P_bracketed (P : Params) : L2.Binds (KL P) fd_P_bracketed ["self", "may_be_more"] [] := (f_P_bracketed P).binds fun _ _ _ _ _ _ us hl => match us, hl with | [_, _], _ => rfl
theorem b_P_whole_sum (P : Params) : L2.Binds (KL P) fd_P_whole_sum ["self"] [] := (f_P_whole_sum P).binds fun _ _ _ _ _ _ us hl => match us, hl with | [_], _ => rfl
theorem b_P_any_row (P : Params) : L2.Binds (KL P) fd_P_any_row ["self"] [] := (f_P_any_row P).binds fun _ _ _ _ _ _ us hl => match us, hl with | [_], _ => rfl
theorem b_P_ended (P : Params) : L2.Binds (KL P) fd_P_ended ["self", "tree", "sited"] [] := (f_P_ended P).binds fun _ _ _ _ _ _ us hl => match us, hl with | [_, _, _], _ => rfl
theorem b_P_equal (P : Params) : L2.Binds (KL P) fd_P_equal ["self", "head", "begun"] [] := (f_P_equal P).binds fun _ _ _ _ _ _ us hl => match us, hl with | [_, _, _], _ => rfl
theorem b_P_rule_row (P : Params) : L2.Binds (KL P) fd_P_rule_row ["self", "name"] [] := (f_P_rule_row P).binds fun _ _ _ _ _ _ us hl => match us, hl with | [_, _], _ => rfl
theorem b_R_init (P : Params) : L2.Binds (KL P) fd_R_init ["self", "word", "column", "told", "words", "names"] [] := (f_R_init P).binds fun _ _ _ _ _ _ us hl => match us, hl with | [_, _, _, _, _, _], _ => rfl
theorem b0_P_any_number (P : Params) : ∃ ds, L2.Vals [.non] ds ∧ L2.Binds (KL P) fd_P_any_number ["self", "most"] ds := (f_P_any_number P).binds1 1 0 (by simp) rfl fun T kV doc pm an cdv ct us its h1 h2 => match us, its, h1, h2 with
  | [_], [_], _, _ => ⟨_, rfl, rfl⟩
theorem b1_P_any_number (P : Params) : ∃ ds, L2.Vals [] ds ∧ L2.Binds (KL P) fd_P_any_number ["self", "most"] ds := (f_P_any_number P).binds1 2 1 (by simp) rfl fun T kV doc pm an cdv ct us its h1 h2 => match us, its, h1, h2 with
  | [_, _], [_], _, _ => ⟨_, rfl, rfl⟩
section
variable {w : World} {mg : Str → Option Value} {h : Heap}
theorem nms_ (X : (KL w.params).In h) (G : h.Ns mainGlobals mg) : K2.Nms mg := ⟨PySem.W.mg_none_of X G (n_len _), PySem.W.mg_none_of X G (n_int _), PySem.W.mg_none_of X G (n_abs _), PySem.W.mg_none_of X G (n_range _), PySem.W.mg_none_of X G (n_max _), PySem.W.mg_none_of X G (n_min _), PySem.W.mg_none_of X G (n_all _), PySem.W.mg_none_of X G (n_isinstance _), PySem.W.mg_none_of X G (n_repr _), PySem.W.mg_none_of X G (n_str _), PySem.W.mg_none_of X G (n_tuple _), PySem.W.mg_none_of X G (n_bool _), PySem.W.mg_none_of X G (n_list _), PySem.W.mg_none_of X G (n_enumerate _), PySem.W.mg_none_of X G (n_zip _), PySem.W.mg_none_of X G (n_dict _)⟩
theorem cns_ (X : (KL w.params).In h) (G : h.Ns mainGlobals mg) : K2.Cns (KL w.params) w mg 183 185 184 := ⟨⟨_, PySem.W.mg_of X G (g_LETTERS _)⟩, ⟨_, PySem.W.mg_of X G (g_FIGURES _)⟩, ⟨_, PySem.W.mg_of X G (g_OTHERS _)⟩, ⟨_, PySem.W.mg_of X G (g_BLANK _)⟩, ⟨_, PySem.W.mg_of X G (g_MOST_LETTERS _)⟩, ⟨_, PySem.W.mg_of X G (g_MOST_FIGURES _)⟩, ⟨_, PySem.W.mg_of X G (g_MOST_PLACES _)⟩, ⟨_, PySem.W.mg_of X G (g_MOST_NUMBER _)⟩, ⟨_, PySem.W.mg_of X G (g_MOST_POWER _)⟩, ⟨_, PySem.W.mg_of X G (g_MOST_OWN _)⟩, ⟨_, PySem.W.mg_of X G (g_MOST_DEEP _)⟩, ⟨_, PySem.W.mg_of X G (g_SUM _)⟩, ⟨_, PySem.W.mg_of X G (g_TERM _)⟩, ⟨_, PySem.W.mg_of X G (g_POWER _)⟩, ⟨_, PySem.W.mg_of X G (g_ATOM _)⟩, ⟨_, PySem.W.mg_of X G (g_SIGN _)⟩, ⟨_, PySem.W.mg_of X G (g_FORM _)⟩, PySem.W.mg_of X G (g_DEEDS _), k_DEEDS _, PySem.W.mg_of X G (g_GIVEN_HEADS _), k_GIVEN_HEADS _, PySem.W.mg_of X G (g_SIZES _), k_SIZES w⟩
theorem pc_ (P : Params) : K2.PC (KL P) 369 := ⟨⟨dP_pg _, dP_hd _, dP_po _, dP_sa _⟩, dP_n_words _, dP_n_at _, dP_n_deep _, dP_n_places _, dP_n_is_bound _, dP_n_names _⟩
theorem rc_ (P : Params) : K2.RC (KL P) 390 := ⟨⟨dR_pg _, dR_hd _, dR_po _, dR_sa _⟩, dR_n_word _, dR_n_column _, dR_n_tree _, dR_n_sited _, dR_n_words _, dR_n_names _⟩
theorem bm_any_term (P : Params) : BMeth (KL P) 369 "any_term" 298 := ⟨⟨m_P_any_term _, i_P_any_term _, (f_P_any_term _).kp⟩, gf_P_any_term _, tk_P_any_term _, by decide, fi_P_any_term _⟩
theorem bm_any_power (P : Params) : BMeth (KL P) 369 "any_power" 312 := ⟨⟨m_P_any_power _, i_P_any_power _, (f_P_any_power _).kp⟩, gf_P_any_power _, tk_P_any_power _, by decide, fi_P_any_power _⟩
theorem clm_mono {P : Program} {w : World} {K : Frag} {mg : Str → Option Value} {base : Heap} {j k : Nat} {C : Addr} {m : Str} {sp : Sp} {dvs : List V} (c : K2.ClM P w K mg base j C m sp dvs) (hk : j ≤ k) : K2.ClM P w K mg base k C m sp dvs := by
  obtain ⟨f, fd, ps, ds, a, b, c, d⟩ := c.ex
  exact ⟨⟨f, fd, ps, ds, a, b.mono hk, c, d⟩⟩
theorem fnr_ {P : Program} {w : World} {K : Frag} {mg : Str → Option Value} {base : Heap} {k : Nat} {f : Addr} {fd : FuncData} {ps : List Str} {sp : Sp} (F : FnOk P w K mg base CX0 k f fd ps sp) (b : L2.Binds K fd ps []) : FnR P w K mg base CX0 k f sp :=
  (F.raw b .nil).imp fun vs H Q E q => by rw [List.append_nil]; exact q
theorem all_ (X : (KL w.params).In h) (G : h.Ns mainGlobals mg) (base : Heap) : FnG K2.prg w (KL w.params) mg base 127 618 fd_law ["cells"] (K2.spLaw (KL w.params)) := by
  have T := nms_ X G
  have Z := cns_ X G
  have D := pc_ w.params
  have R := rc_ w.params
  have c_is_whole : ClO K2.prg w (KL w.params) mg base CX0 1 "is_whole" K2.spIntT [] := ⟨97, fd_is_whole, ["value"], [], K2.ok_is_whole (f_is_whole _) T, PySem.W.mg_of X G (g_is_whole _), (f_is_whole _).kp, b_is_whole _, .nil⟩
  have c_is_between : ClO K2.prg w (KL w.params) mg base CX0 2 "is_between" K2.spBetween [] := ⟨104, fd_is_between, ["value", "least", "most"], [], K2.ok_is_between (f_is_between _) c_is_whole, PySem.W.mg_of X G (g_is_between _), (f_is_between _).kp, b_is_between _, .nil⟩
  have c_is_string : ClO K2.prg w (KL w.params) mg base CX0 1 "is_string" K2.spStrT [] := ⟨111, fd_is_string, ["value"], [], K2.ok_is_string (f_is_string _) T, PySem.W.mg_of X G (g_is_string _), (f_is_string _).kp, b_is_string _, .nil⟩
  have c_is_row : ClO K2.prg w (KL w.params) mg base CX0 1 "is_row" K2.spRowT [] := ⟨118, fd_is_row, ["value", "least", "most"], [], K2.ok_is_row (f_is_row _) T, PySem.W.mg_of X G (g_is_row _), (f_is_row _).kp, b_is_row _, .nil⟩
  have c_is_run_of : ClO K2.prg w (KL w.params) mg base CX0 1 "is_run_of" K2.spRun [] := ⟨154, fd_is_run_of, ["text", "signs"], [], K2.ok_is_run_of (f_is_run_of _) T, PySem.W.mg_of X G (g_is_run_of _), (f_is_run_of _).kp, b_is_run_of _, .nil⟩
  have c_is_any_name : ClO K2.prg w (KL w.params) mg base CX0 2 "is_any_name" (K2.spWord K2.isNm) [] := ⟨161, fd_is_any_name, ["text"], [], K2.ok_is_any_name (f_is_any_name _) Z c_is_run_of, PySem.W.mg_of X G (g_is_any_name _), (f_is_any_name _).kp, b_is_any_name _, .nil⟩
  have c_is_any_number : ClO K2.prg w (KL w.params) mg base CX0 2 "is_any_number" (K2.spWord K2.isNu) [] := ⟨175, fd_is_any_number, ["text"], [], K2.ok_is_any_number (f_is_any_number _) Z c_is_run_of, PySem.W.mg_of X G (g_is_any_number _), (f_is_any_number _).kp, b_is_any_number _, .nil⟩
  have c_is_name_word : ClO K2.prg w (KL w.params) mg base CX0 3 "is_name_word" (K2.spWord K2.nmOk) [] := ⟨168, fd_is_name_word, ["text"], [], K2.ok_is_name_word (f_is_name_word _) T Z c_is_any_name, PySem.W.mg_of X G (g_is_name_word _), (f_is_name_word _).kp, b_is_name_word _, .nil⟩
  have c_is_number_word : ClO K2.prg w (KL w.params) mg base CX0 3 "is_number_word" (K2.spWord K2.nuOk) [] := ⟨182, fd_is_number_word, ["text"], [], K2.ok_is_number_word (f_is_number_word _) T Z c_is_any_number, PySem.W.mg_of X G (g_is_number_word _), (f_is_number_word _).kp, b_is_number_word _, .nil⟩
  have c_is_name : ClO K2.prg w (KL w.params) mg base CX0 4 "is_name" (K2.spWord K2.nmOk) [] := ⟨192, fd_is_name, ["value"], [], K2.ok_is_name (f_is_name _) c_is_string c_is_name_word, PySem.W.mg_of X G (g_is_name _), (f_is_name _).kp, b_is_name _, .nil⟩
  have c_sort_of : ClO K2.prg w (KL w.params) mg base CX0 1 "sort_of" K2.spSort [] := ⟨142, fd_sort_of, ["sign"], [], K2.ok_sort_of (f_sort_of _) Z, PySem.W.mg_of X G (g_sort_of _), (f_sort_of _).kp, b_sort_of _, .nil⟩
  have c_wrong_sign : ClO K2.prg w (KL w.params) mg base CX0 1 "wrong_sign" K2.spWrong [] := ⟨135, fd_wrong_sign, ["row"], [], K2.ok_wrong_sign (f_wrong_sign _) T Z, PySem.W.mg_of X G (g_wrong_sign _), (f_wrong_sign _).kp, b_wrong_sign _, .nil⟩
  have c_row_words : ClO K2.prg w (KL w.params) mg base CX0 2 "row_words" K2.spWords [] := ⟨149, fd_row_words, ["row"], [], K2.ok_row_words (f_row_words _) T Z c_sort_of, PySem.W.mg_of X G (g_row_words _), (f_row_words _).kp, b_row_words _, .nil⟩
  have c_is_headed : ClO K2.prg w (KL w.params) mg base CX0 2 "is_headed" K2.spHeaded [] := ⟨199, fd_is_headed, ["value", "sizes"], [], K2.ok_is_headed (f_is_headed _) T c_is_string, PySem.W.mg_of X G (g_is_headed _), (f_is_headed _).kp, b_is_headed _, .nil⟩
  have c_is_leaf : ClO K2.prg w (KL w.params) mg base CX0 5 "is_leaf" K2.spLeaf [] := ⟨206, fd_is_leaf, ["value"], [], K2.ok_is_leaf (f_is_leaf _) Z c_is_between c_is_name, PySem.W.mg_of X G (g_is_leaf _), (f_is_leaf _).kp, b_is_leaf _, .nil⟩
  have c_is_branch : ClO K2.prg w (KL w.params) mg base CX0 5 "is_branch" K2.spBranch [] := ⟨213, fd_is_branch, ["value"], [], K2.ok_is_branch (f_is_branch _) Z c_is_between c_is_row c_is_name, PySem.W.mg_of X G (g_is_branch _), (f_is_branch _).kp, b_is_branch _, .nil⟩
  have c_parts_of : ClO K2.prg w (KL w.params) mg base CX0 1 "parts_of" K2.spParts [] := ⟨227, fd_parts_of, ["tree"], [], K2.ok_parts_of (f_parts_of _) Z, PySem.W.mg_of X G (g_parts_of _), (f_parts_of _).kp, b_parts_of _, .nil⟩
  have c_has_tree_form : ClO K2.prg w (KL w.params) mg base CX0 6 "has_tree_form" K2.spForm [] := ⟨220, fd_has_tree_form, ["value"], [], K2.ok_has_tree_form (f_has_tree_form _) T Z c_is_headed c_is_leaf c_is_branch c_parts_of, PySem.W.mg_of X G (g_has_tree_form _), (f_has_tree_form _).kp, b_has_tree_form _, .nil⟩
  have c_is_simple : ClO K2.prg w (KL w.params) mg base CX0 1 "is_simple" K2.spSimple [] := ⟨130, fd_is_simple, ["value"], [], K2.ok_is_simple (f_is_simple _) T, PySem.W.mg_of X G (g_is_simple _), (f_is_simple _).kp, b_is_simple _, .nil⟩
  have c_are_same : ClO K2.prg w (KL w.params) mg base CX0 25 "are_same" (K2.spSame 24) [] := K2.all_same (f_are_same _) T c_is_simple (PySem.W.mg_of X G (g_are_same _)) (f_are_same _).kp (b_are_same _) 24
  have c_at_least : ClO K2.prg w (KL w.params) mg base CX0 1 "at_least" K2.spAtLeast [] := ⟨429, fd_at_least, ["told", "level"], [], K2.ok_at_least (f_at_least _), PySem.W.mg_of X G (g_at_least _), (f_at_least _).kp, b_at_least _, .nil⟩
  have c_deed_text : ClO K2.prg w (KL w.params) mg base CX0 2 "deed_text" K2.spDeedT [] := ⟨436, fd_deed_text, ["deed", "one", "other"], [], K2.ok_deed_text (f_deed_text _) Z c_at_least, PySem.W.mg_of X G (g_deed_text _), (f_deed_text _).kp, b_deed_text _, .nil⟩
  have c_leveled : ClO K2.prg w (KL w.params) mg base CX0 15 "leveled" (K2.spLev 12) [] := K2.all_lev (f_leveled _) T Z c_at_least c_deed_text (PySem.W.mg_of X G (g_leveled _)) (f_leveled _).kp (b_leveled _) 12
  have c_sum_text : ClO K2.prg w (KL w.params) mg base CX0 16 "sum_text" K2.spSumT [] := ⟨448, fd_sum_text, ["tree"], [], K2.ok_sum_text (f_sum_text _) c_leveled, PySem.W.mg_of X G (g_sum_text _), (f_sum_text _).kp, b_sum_text _, .nil⟩
  have c_column_behind : ClO K2.prg w (KL w.params) mg base CX0 1 "column_behind" K2.spNo [] := ⟨401, fd_column_behind, ["words", "at", "end"], [], K2.fnOk_no, PySem.W.mg_of X G (g_column_behind _), (f_column_behind _).kp, b_column_behind _, .nil⟩
  have c_RowParser : K2.ClI K2.prg w (KL w.params) mg base 1 "RowParser" 369 (K2.spInit 369) := ⟨⟨241, fd_P_init, ["self", "words"], ⟨dP_mk _, m_P_init _, i_P_init _, dP_kc _⟩, K2.ok_P_init (f_P_init _) D, b_P_init _, PySem.W.mg_of X G (g_RowParser _)⟩⟩
  have c_ReadRow : K2.ClI K2.prg w (KL w.params) mg base 1 "ReadRow" 390 (K2.spRInit 390) := ⟨⟨387, fd_R_init, ["self", "word", "column", "told", "words", "names"], ⟨dR_mk _, m_R_init _, i_R_init _, dR_kc _⟩, K2.ok_R_init (f_R_init _) R, b_R_init _, PySem.W.mg_of X G (g_ReadRow _)⟩⟩
  have c_word : K2.ClM K2.prg w (KL w.params) mg base 1 369 "word" (K2.spWd 369) [] := ⟨⟨248, fd_P_word, ["self"], [], ⟨m_P_word _, i_P_word _, (f_P_word _).kp⟩, K2.ok_P_word (f_P_word _) T D, b_P_word _, .nil⟩⟩
  have c_takes : K2.ClM K2.prg w (KL w.params) mg base 2 369 "takes" (K2.spTakes 369) [] := ⟨⟨255, fd_P_takes, ["self", "text"], [], ⟨m_P_takes _, i_P_takes _, (f_P_takes _).kp⟩, K2.ok_P_takes (f_P_takes _) D c_word, b_P_takes _, .nil⟩⟩
  have c_bound : K2.ClM K2.prg w (KL w.params) mg base 1 369 "bound" (K2.spBound 369) [] := ⟨⟨262, fd_P_bound, ["self", "is_right"], [], ⟨m_P_bound _, i_P_bound _, (f_P_bound _).kp⟩, K2.ok_P_bound (f_P_bound _) D, b_P_bound _, .nil⟩⟩
  have c_any_name : K2.ClM K2.prg w (KL w.params) mg base 4 369 "any_name" (K2.spAnyName 369) [] := ⟨⟨269, fd_P_any_name, ["self", "does"], [], ⟨m_P_any_name _, i_P_any_name _, (f_P_any_name _).kp⟩, K2.ok_P_any_name (f_P_any_name _) D c_word c_bound c_is_any_name c_is_name_word, b_P_any_name _, .nil⟩⟩
  have c_sited : K2.ClM K2.prg w (KL w.params) mg base 2 369 "sited" (K2.spSited 369) [] := ⟨⟨284, fd_P_sited, ["self", "tree", "begin", "parts"], [], ⟨m_P_sited _, i_P_sited _, (f_P_sited _).kp⟩, K2.ok_P_sited (f_P_sited _) T Z D c_bound, b_P_sited _, .nil⟩⟩
  obtain ⟨ds_n, dv_n, bd_n⟩ := b0_P_any_number w.params
  have c_any_number_n : K2.ClM K2.prg w (KL w.params) mg base 4 369 "any_number" (K2.spAnyNum 369) [.non] := ⟨⟨277, fd_P_any_number, ["self", "most"], ds_n, ⟨m_P_any_number _, i_P_any_number _, (f_P_any_number _).kp⟩, K2.ok_P_any_number (f_P_any_number _) T D c_word c_bound c_is_any_number c_is_number_word, bd_n, dv_n⟩⟩
  obtain ⟨ds_e, dv_e, bd_e⟩ := b1_P_any_number w.params
  have c_any_number_e : K2.ClM K2.prg w (KL w.params) mg base 4 369 "any_number" (K2.spAnyNum 369) [] := ⟨⟨277, fd_P_any_number, ["self", "most"], ds_e, ⟨m_P_any_number _, i_P_any_number _, (f_P_any_number _).kp⟩, K2.ok_P_any_number (f_P_any_number _) T D c_word c_bound c_is_any_number c_is_number_word, bd_e, dv_e⟩⟩
  have sumOf : ∀ dm : Nat, K2.ClM K2.prg w (KL w.params) mg base (8 * dm + 8) 369 "any_atom" (K2.spLv 369 3 dm) [] → K2.ClM K2.prg w (KL w.params) mg base (8 * dm + 13) 369 "any_sum" (K2.spLv 369 0 dm) [] := fun dm A => by
    have p1 := K2.ok_P_any_power (8 * dm + 8) dm (by omega) (f_P_any_power _) Z D A c_takes c_any_number_e c_sited
    have cp : K2.ClM K2.prg w (KL w.params) mg base (8 * dm + 10) 369 "any_power" (K2.spLv 369 2 dm) [] := ⟨⟨312, fd_P_any_power, ["self"], [], ⟨m_P_any_power _, i_P_any_power _, (f_P_any_power _).kp⟩, p1.mono (Nat.le_succ _), b_P_any_power _, .nil⟩⟩
    have d2 := K2.ok_P_deed (8 * dm + 9) 2 dm 312 (by omega) (.inr rfl) (f_P_deed _) D (fnr_ p1 (b_P_any_power _)) (fi_P_any_power _) c_word c_sited
    have cd2 : K2.ClM K2.prg w (KL w.params) mg base (8 * dm + 10) 369 "deed" (K2.spDeed 369 312 2 dm) [] := ⟨⟨305, fd_P_deed, ["self", "one", "begin", "read_other"], [], ⟨m_P_deed _, i_P_deed _, (f_P_deed _).kp⟩, d2, b_P_deed _, .nil⟩⟩
    have t1 := K2.ok_P_any_term (8 * dm + 10) dm (by omega) (f_P_any_term _) D (bm_any_power _) cp cd2 c_word
    have ct : K2.ClM K2.prg w (KL w.params) mg base (8 * dm + 12) 369 "any_term" (K2.spLv 369 1 dm) [] := ⟨⟨298, fd_P_any_term, ["self"], [], ⟨m_P_any_term _, i_P_any_term _, (f_P_any_term _).kp⟩, t1.mono (Nat.le_succ _), b_P_any_term _, .nil⟩⟩
    have d1 := K2.ok_P_deed (8 * dm + 11) 1 dm 298 (by omega) (.inl rfl) (f_P_deed _) D (fnr_ t1 (b_P_any_term _)) (fi_P_any_term _) c_word c_sited
    have cd1 : K2.ClM K2.prg w (KL w.params) mg base (8 * dm + 12) 369 "deed" (K2.spDeed 369 298 1 dm) [] := ⟨⟨305, fd_P_deed, ["self", "one", "begin", "read_other"], [], ⟨m_P_deed _, i_P_deed _, (f_P_deed _).kp⟩, d1, b_P_deed _, .nil⟩⟩
    exact ⟨⟨291, fd_P_any_sum, ["self"], [], ⟨m_P_any_sum _, i_P_any_sum _, (f_P_any_sum _).kp⟩, K2.ok_P_any_sum (8 * dm + 12) dm (by omega) (f_P_any_sum _) D (bm_any_term _) ct cd1 c_word c_takes c_sited, b_P_any_sum _, .nil⟩⟩
  have atomOf : ∀ (n dm : Nat), 5 ≤ n → K2.ClM K2.prg w (KL w.params) mg base n 369 "bracketed" (K2.spBrk 369 dm) [] → K2.ClM K2.prg w (KL w.params) mg base n 369 "called" (K2.spCalled 369 dm) [] → K2.ClM K2.prg w (KL w.params) mg base (n + 1) 369 "any_atom" (K2.spLv 369 3 dm) [] := fun n dm hn A B => by
    exact ⟨⟨319, fd_P_any_atom, ["self"], [], ⟨m_P_any_atom _, i_P_any_atom _, (f_P_any_atom _).kp⟩, K2.ok_P_any_atom n dm hn (f_P_any_atom _) D A B c_word c_any_name c_any_number_n c_sited c_is_any_number, b_P_any_atom _, .nil⟩⟩
  have atoms : ∀ dm : Nat, K2.ClM K2.prg w (KL w.params) mg base (8 * dm + 8) 369 "any_atom" (K2.spLv 369 3 dm) [] := fun dm => by
    induction dm with
    | zero =>
      have b0 : K2.ClM K2.prg w (KL w.params) mg base 7 369 "bracketed" (K2.spBrk 369 0) [] := ⟨⟨331, fd_P_bracketed, ["self", "may_be_more"], [], ⟨m_P_bracketed _, i_P_bracketed _, (f_P_bracketed _).kp⟩, K2.fnOk_no, b_P_bracketed _, .nil⟩⟩
      have a0 : K2.ClM K2.prg w (KL w.params) mg base 7 369 "called" (K2.spCalled 369 0) [] := ⟨⟨324, fd_P_called, ["self", "name", "begin"], [], ⟨m_P_called _, i_P_called _, (f_P_called _).kp⟩, K2.fnOk_no, b_P_called _, .nil⟩⟩
      exact atomOf 7 0 (by decide) b0 a0
    | succ dm ih =>
      have s0 := sumOf dm ih
      have b0 : K2.ClM K2.prg w (KL w.params) mg base (8 * dm + 14) 369 "bracketed" (K2.spBrk 369 (dm + 1)) [] := ⟨⟨331, fd_P_bracketed, ["self", "may_be_more"], [], ⟨m_P_bracketed _, i_P_bracketed _, (f_P_bracketed _).kp⟩, K2.ok_P_bracketed (8 * dm + 13) dm (by omega) (f_P_bracketed _) Z D s0 c_takes, b_P_bracketed _, .nil⟩⟩
      have a0 : K2.ClM K2.prg w (KL w.params) mg base (8 * dm + 15) 369 "called" (K2.spCalled 369 (dm + 1)) [] := ⟨⟨324, fd_P_called, ["self", "name", "begin"], [], ⟨m_P_called _, i_P_called _, (f_P_called _).kp⟩, K2.ok_P_called (8 * dm + 14) dm (by omega) (f_P_called _) T Z D b0 c_bound c_sited, b_P_called _, .nil⟩⟩
      exact atomOf (8 * dm + 15) (dm + 1) (by omega) (clm_mono b0 (Nat.le_succ _)) a0
  have c_any_sum : K2.ClM K2.prg w (KL w.params) mg base 109 369 "any_sum" (K2.spLv 369 0 12) [] := sumOf 12 (atoms 12)
  have c_whole_sum : K2.ClM K2.prg w (KL w.params) mg base 112 369 "whole_sum" (K2.spWhole 369 12) [] := ⟨⟨338, fd_P_whole_sum, ["self"], [], ⟨m_P_whole_sum _, i_P_whole_sum _, (f_P_whole_sum _).kp⟩, (K2.ok_P_whole_sum 109 12 (by decide) (f_P_whole_sum _) D c_any_sum c_word).mono (by decide), b_P_whole_sum _, .nil⟩⟩
  have c_ended : K2.ClM K2.prg w (KL w.params) mg base 2 369 "ended" (K2.spEnded 369) [] := ⟨⟨352, fd_P_ended, ["self", "tree", "sited"], [], ⟨m_P_ended _, i_P_ended _, (f_P_ended _).kp⟩, K2.ok_P_ended (f_P_ended _) D c_word, b_P_ended _, .nil⟩⟩
  have c_equal : K2.ClM K2.prg w (KL w.params) mg base 110 369 "equal" (K2.spEqual 369 12) [] := ⟨⟨359, fd_P_equal, ["self", "head", "begun"], [], ⟨m_P_equal _, i_P_equal _, (f_P_equal _).kp⟩, K2.ok_P_equal 109 12 (by decide) (f_P_equal _) D c_any_sum c_takes c_ended, b_P_equal _, .nil⟩⟩
  have c_rule_row : K2.ClM K2.prg w (KL w.params) mg base 111 369 "rule_row" (K2.spRule 369 12) [] := ⟨⟨366, fd_P_rule_row, ["self", "name"], [], ⟨m_P_rule_row _, i_P_rule_row _, (f_P_rule_row _).kp⟩, K2.ok_P_rule_row 110 12 (by decide) (f_P_rule_row _) T Z D c_takes c_any_name c_bound c_equal, b_P_rule_row _, .nil⟩⟩
  have c_any_row : K2.ClM K2.prg w (KL w.params) mg base 112 369 "any_row" (K2.spAnyRow 369 12) [] := ⟨⟨345, fd_P_any_row, ["self"], [], ⟨m_P_any_row _, i_P_any_row _, (f_P_any_row _).kp⟩, K2.ok_P_any_row 111 12 (by decide) (f_P_any_row _) Z D c_word (clm_mono c_any_sum (by decide)) c_ended c_any_name (clm_mono c_equal (by decide)) c_rule_row, b_P_any_row _, .nil⟩⟩
  have c_read_by : ClO K2.prg w (KL w.params) mg base CX0 113 "read_by" (K2.spReadBy 390) [] := ⟨408, fd_read_by, ["row", "is_sum"], [], K2.ok_read_by 112 (by decide) (f_read_by _) T Z D c_wrong_sign c_row_words c_RowParser c_ReadRow c_whole_sum c_any_row c_column_behind, PySem.W.mg_of X G (g_read_by _), (f_read_by _).kp, b_read_by _, .nil⟩
  have c_row_by : ClO K2.prg w (KL w.params) mg base CX0 114 "row_by" (K2.spBy 390 false) [] := ⟨415, fd_row_by, ["row"], [], K2.ok_row_by 113 (f_row_by _) c_read_by, PySem.W.mg_of X G (g_row_by _), (f_row_by _).kp, b_row_by _, .nil⟩
  have c_sum_by : ClO K2.prg w (KL w.params) mg base CX0 114 "sum_by" (K2.spBy 390 true) [] := ⟨422, fd_sum_by, ["text"], [], K2.ok_sum_by 113 (f_sum_by _) c_read_by, PySem.W.mg_of X G (g_sum_by _), (f_sum_by _).kp, b_sum_by _, .nil⟩
  have c_check_text : ClO K2.prg w (KL w.params) mg base CX0 2 "check_text" (fun vs H Q _ => ∃ x : Str, vs = [.str x] ∧ Q .non H) [] := ⟨455, fd_check_text, ["value"], [], K2.ok_check_text (f_check_text _) c_is_string, PySem.W.mg_of X G (g_check_text _), (f_check_text _).kp, b_check_text _, .nil⟩
  have c_own_tree : ClO K2.prg w (KL w.params) mg base CX0 1 "own_tree" (K2.spOwn 390) [] := ⟨462, fd_own_tree, ["read"], [], K2.ok_own_tree (f_own_tree _) R, PySem.W.mg_of X G (g_own_tree _), (f_own_tree _).kp, b_own_tree _, .nil⟩
  have c_read_row : ClO K2.prg w (KL w.params) mg base CX0 123 "read_row" (K2.spRead false) [] := ⟨469, fd_read_row, ["text"], [], (K2.ok_read_row 114 (by decide) (f_read_row _) c_check_text c_own_tree c_row_by).mono (by decide), PySem.W.mg_of X G (g_read_row _), (f_read_row _).kp, b_read_row _, .nil⟩
  have c_read_tree : ClO K2.prg w (KL w.params) mg base CX0 123 "read_tree" (K2.spRead true) [] := ⟨476, fd_read_tree, ["text"], [], (K2.ok_read_tree 114 (by decide) (f_read_tree _) c_check_text c_own_tree c_sum_by).mono (by decide), PySem.W.mg_of X G (g_read_tree _), (f_read_tree _).kp, b_read_tree _, .nil⟩
  have k_read_row : K2.ClK K2.prg w (KL w.params) mg base 123 "read_row" "text" (K2.spRead false) := ⟨⟨469, fd_read_row, (K2.ok_read_row 114 (by decide) (f_read_row _) c_check_text c_own_tree c_row_by).mono (by decide), PySem.W.mg_of X G (g_read_row _), (f_read_row _).kp, fun s u => .of_eq rfl⟩⟩
  have k_read_tree : K2.ClK K2.prg w (KL w.params) mg base 123 "read_tree" "text" (K2.spRead true) := ⟨⟨476, fd_read_tree, (K2.ok_read_tree 114 (by decide) (f_read_tree _) c_check_text c_own_tree c_sum_by).mono (by decide), PySem.W.mg_of X G (g_read_tree _), (f_read_tree _).kp, fun s u => .of_eq rfl⟩⟩
  have c_is_tree : ClO K2.prg w (KL w.params) mg base CX0 115 "is_tree" K2.spIsTree [] := ⟨483, fd_is_tree, ["value"], [], K2.ok_is_tree 114 (by decide) (f_is_tree _) R c_has_tree_form c_are_same c_sum_by c_sum_text, PySem.W.mg_of X G (g_is_tree _), (f_is_tree _).kp, b_is_tree _, .nil⟩
  have c_tree_text : ClO K2.prg w (KL w.params) mg base CX0 124 "tree_text" K2.spTreeT [] := ⟨490, fd_tree_text, ["tree"], [], (K2.ok_tree_text 115 (by decide) (f_tree_text _) c_is_tree c_sum_text).mono (by decide), PySem.W.mg_of X G (g_tree_text _), (f_tree_text _).kp, b_tree_text _, .nil⟩
  have k_tree_text : K2.ClK K2.prg w (KL w.params) mg base 124 "tree_text" "tree" K2.spTreeT := ⟨⟨490, fd_tree_text, (K2.ok_tree_text 115 (by decide) (f_tree_text _) c_is_tree c_sum_text).mono (by decide), PySem.W.mg_of X G (g_tree_text _), (f_tree_text _).kp, fun s u => .of_eq rfl⟩⟩
  have c_law_take : Clb K2.prg w (KL w.params) mg base 1 "_law_take" K2.spTake [] := ⟨504, fd__law_take, ["draws", "many"], [], K2.ok_take (f__law_take _) T, PySem.W.mg_of X G (g__law_take _), (f__law_take _).kp, b__law_take _, .nil⟩
  have c_law_pick : Clb K2.prg w (KL w.params) mg base 2 "_law_pick" K2.spPick [] := ⟨511, fd__law_pick, ["draws", "some"], [], K2.ok_pick (f__law_pick _) T c_law_take, PySem.W.mg_of X G (g__law_pick _), (f__law_pick _).kp, b__law_pick _, .nil⟩
  have c_law_purse : Clb K2.prg w (KL w.params) mg base 1 "_law_purse" (K2.spPurse (KL w.params)) [] := ⟨497, fd__law_purse, ["cells", "at"], [], K2.ok_purse (f__law_purse _) T, PySem.W.mg_of X G (g__law_purse _), (f__law_purse _).kp, b__law_purse _, .nil⟩
  have c_law_same : Clb K2.prg w (KL w.params) mg base 1 "_law_same" K2.spLawSame [] := ⟨518, fd__law_same, ["told", "due"], [], K2.ok_law_same (f__law_same _) T, PySem.W.mg_of X G (g__law_same _), (f__law_same _).kp, b__law_same _, .nil⟩
  have c_law_name_of : Clb K2.prg w (KL w.params) mg base 1 "_law_name_of" K2.spNameOf [] := ⟨525, fd__law_name_of, ["spec", "item", "own"], [], K2.ok_law_name_of (f__law_name_of _), PySem.W.mg_of X G (g__law_name_of _), (f__law_name_of _).kp, b__law_name_of _, .nil⟩
  have c_law_tree : Clb K2.prg w (KL w.params) mg base 2 "_law_tree" K2.spTree [] := ⟨532, fd__law_tree, ["spec", "row", "own"], [], K2.ok_law_tree (f__law_tree _) T c_law_name_of, PySem.W.mg_of X G (g__law_tree _), (f__law_tree _).kp, b__law_tree _, .nil⟩
  have c_law_within : Clb K2.prg w (KL w.params) mg base 1 "_law_within" K2.spAtLeast [] := ⟨544, fd__law_within, ["part", "least"], [], K2.ok_law_within (f__law_within _), PySem.W.mg_of X G (g__law_within _), (f__law_within _).kp, b__law_within _, .nil⟩
  have c_law_row_text : Clb K2.prg w (KL w.params) mg base 2 "_law_row_text" K2.spRowText [] := ⟨549, fd__law_row_text, ["spec", "row", "own"], [], K2.ok_law_row_text (f__law_row_text _) T c_law_name_of c_law_within, PySem.W.mg_of X G (g__law_row_text _), (f__law_row_text _).kp, b__law_row_text _, .nil⟩
  have c_law_any : Clb K2.prg w (KL w.params) mg base 3 "_law_any" K2.spAny [] := ⟨566, fd__law_any, ["draws", "spec"], [], K2.ok_law_any (f__law_any _) T c_law_take c_law_pick, PySem.W.mg_of X G (g__law_any _), (f__law_any _).kp, b__law_any _, .nil⟩
  have c_law_blank : Clb K2.prg w (KL w.params) mg base 2 "_law_blank" K2.spBlank [] := ⟨573, fd__law_blank, ["draws"], [], K2.ok_law_blank (f__law_blank _) c_law_take, PySem.W.mg_of X G (g__law_blank _), (f__law_blank _).kp, b__law_blank _, .nil⟩
  have c_law_glued : Clb K2.prg w (KL w.params) mg base 3 "_law_glued" K2.spGlued [] := ⟨580, fd__law_glued, ["draws", "words"], [], K2.ok_law_glued (f__law_glued _) c_law_blank, PySem.W.mg_of X G (g__law_glued _), (f__law_glued _).kp, b__law_glued _, .nil⟩
  have c_law_wrapped : Clb K2.prg w (KL w.params) mg base 2 "_law_wrapped" K2.spWrapped [] := ⟨587, fd__law_wrapped, ["draws", "part", "least"], [], K2.ok_law_wrapped (f__law_wrapped _) c_law_take, PySem.W.mg_of X G (g__law_wrapped _), (f__law_wrapped _).kp, b__law_wrapped _, .nil⟩
  have c_law_loose_words : Clb K2.prg w (KL w.params) mg base 3 "_law_loose_words" K2.spLoose [] := ⟨594, fd__law_loose_words, ["draws", "spec", "row", "own"], [], K2.ok_law_loose_words (f__law_loose_words _) T c_law_name_of c_law_wrapped, PySem.W.mg_of X G (g__law_loose_words _), (f__law_loose_words _).kp, b__law_loose_words _, .nil⟩
  have c_law_is_read : Clb K2.prg w (KL w.params) mg base 125 "_law_is_read" K2.spIsRead [] := ⟨606, fd__law_is_read, ["draws", "spec", "row"], [], K2.ok_law_is_read (f__law_is_read _) T c_law_tree c_law_row_text c_law_same c_law_glued c_law_loose_words c_tree_text k_tree_text c_read_tree k_read_tree c_read_row k_read_row, PySem.W.mg_of X G (g__law_is_read _), (f__law_is_read _).kp, b__law_is_read _, .nil⟩
  have c_law_right : Clb K2.prg w (KL w.params) mg base 126 "_law_right" K2.spRight [] := ⟨613, fd__law_right, ["draws"], [], K2.ok_law_right (f__law_right _) T c_law_is_read c_law_any c_law_same c_read_tree c_read_row, PySem.W.mg_of X G (g__law_right _), (f__law_right _).kp, b__law_right _, .nil⟩
  exact K2.ok_law (f_law _) T c_law_purse c_law_right
end
theorem fin_ : PySem.Challenge.rw_frametongue_k02_whole_trees_told_and_rea.Holds := by
  refine holds_of (walkG (l := PySem.Challenge.rw_frametongue_k02_whole_trees_told_and_rea) (n := 63) (k := 127) (K := KL) (sp := K2.spLaw) (x := "cells") rfl (by decide) rfl ⟨rfl, by decide, by decide⟩ (fun w h Y => KL_in Y) (fun w mg fa h X G e => ?_) (fun K H a ns hl hS => ⟨a, ns, rfl, hS, hl, fun _ => rfl⟩))
  have e2 := e.symm.trans (PySem.W.mg_of X G (g_law _))
  cases e2
  exact ⟨fd_law, fun s u => .of_eq rfl, fun base XB NB => all_ XB NB base⟩
end K2H
theorem PySem.Challenge.cw_frametongue_k02_whole_trees_told_and_rea_holds : PySem.Challenge.rw_frametongue_k02_whole_trees_told_and_rea.Holds := by
  with_reducible exact K2H.fin_
