import PyProof.Rows.All
import Wide.All
import OpenK.AllK
import Wide.FinOn
import HandS.ForMost
import HandS.Style
import HandS.Deep
import HandS.IsInst
import HandS.SortInts
import HandS.SortRule
import HandS.TupSets
import HandS.Wide
import HandS.Conv
import HandS.TupLe
import HandS.RaiseMore
import HandS.Flow
import PySem.Challenge.RW_unnoted_k14_whole_meetings_backward
set_option Elab.async false
set_option autoImplicit false
set_option linter.all false
set_option maxRecDepth 100000
set_option maxHeartbeats 4000000
/-! Own prelude, part 0: promises of defs where no repr is under way (G), calls by them, the law's end by them -/
namespace UN
open PySem PySem.Spec PyProof.Rows L2

/-- a def's promise; asked only where the guards are known to be none (repr, str of data) -/
structure FG (P : Program) (w : World) (K : PySem.W.Frag) (mg : Str → Option Value) (base : Heap) (C : CXT) (k : Nat) (f : Addr) (fd : FuncData) (ps : List Str) (sp : Sp) : Prop where
  many : ∀ xs H Q E, sp xs H Q E → xs.length = ps.length
  go : ∀ (A : Around) (out : List Env) (s : Shared) (H : Hp) (args : Args) (us : List Value) (xs : List V) (Q : VK) (E : XK),
    Room k A → A.guards = some [] → Env0 P w K mg base A out s H → BindsTo s fd args (ps.zip us) → Vals xs us → sp xs H Q E →
    codeAny (model P w) A (.call (.ref f) args) (CR C out P w H s Q E) s

section
variable {P : Program} {w : World} {K : PySem.W.Frag} {mg : Str → Option Value} {base : Heap} {C : CXT} {k : Nat} {f : Addr} {fd : FuncData} {ps : List Str} {sp : Sp}
theorem FG.of (F : FnOk P w K mg base C k f fd ps sp) : FG P w K mg base C k f fd ps sp :=
  ⟨F.len, fun A out s H args us xs Q E hr _ e0 hb hv hs => F.run A out s H args us xs Q E hr e0 hb hv hs⟩
theorem FG.mono {j : Nat} (F : FG P w K mg base C j f fd ps sp) (h : j ≤ k) : FG P w K mg base C k f fd ps sp :=
  ⟨F.many, fun A out s H args us xs Q E hr => F.go A out s H args us xs Q E (hr.mono h)⟩

/-- by the def's body -/
theorem fg_body {name qual : Str} {params : Arguments} {body : List Stmt} {scope : Scope} {dV kV doc pm cdv ct oc : Value} {an od : Option Addr} {osl : Array (Option Value)} {N : List Str}
    (at_f : K.lookup f = some ⟨oc, od, .func (PySem.W.fnOf name qual params body scope dV kV doc pm an cdv ct), osl⟩) (code : PySem.W.codeIn K cdv qual = true) (S : FnScope N ps scope)
    (many : ∀ xs H Q E, sp xs H Q E → xs.length = ps.length)
    (bd : ∀ (A : Around) (out : List Env) (s : Shared) (H : Hp) (xs : List V) (Q : VK) (E : XK), Room k (A.deeper (envOfC qual scope s.heap.objs.size f cdv)) → A.guards = some [] → sp xs H Q E →
      ∃ t, PSs (cxOf C P w K mg base N qual scope f cdv A out s H E) body t ∧ t { nx := fun _ H' => Q .non H', rt := Q } (start N xs) H) :
    FG P w K mg base C (k + 1) f (PySem.W.fnOf name qual params body scope dV kV doc pm an cdv ct) ps sp := by
  constructor
  · exact many
  intro A out s H args us xs Q E room hg e0 hb rel hs
  have nl := many _ _ _ _ hs
  have kin : K.In s.heap := e0.mod.kin.keeps (fun b o q => (e0.bs b o q).1)
  have nolim : s.heap.NoLimit := e0.mod.nolimit.keeps (fun b o q => (e0.bs b o q).1)
  have kinds : ∀ y ∈ ps.zip us, scope.names.lookup y.1 = some .local ∨ (scope.names.lookup y.1 = some .cell ∧ ((cellsFrom (s.heap.objs.size + 1) scope.names []).lookup y.1).isSome = true) := by
    rintro ⟨n, v⟩ hy
    cases S.par n (List.of_mem_zip hy).1 with
    | inl q => exact Or.inl q
    | inr q => exact Or.inr ⟨q, PySem.W.cellsFrom_some _ _ _ (Or.inl q)⟩
  apply codeAny_call_function room.depth (kin _ _ at_f) rfl S.co S.gen rfl (PySem.W.codeRec_of kin code)
  apply hb
  apply wpAny_newFunctionEnv_cells S.kind kinds
  intro env he s1 x
  cases he
  refine And.intro (nolim.keeps x.toInCall.keep) (codeAny_func ?_)
  obtain ⟨t, pt, ht⟩ := bd A out s H xs Q E (room.deeper _) hg hs
  have J := inv_start (CX := C) (P := P) (w := w) (K := K) (mg := mg) (base := base) (f := f) (cd := cdv) (E := E) S room.hd e0 nl rel x
  apply wpAny_mono (pt.run [] s1 (start N xs) H _ J ht) ?_ (fun _ _ q => q)
  intro fl s' q
  cases fl with
  | next => obtain ⟨_, _, J', q'⟩ := q; exact ⟨V.non, _, J'.os, J'.bare, J'.base, J'.hok, rfl, q'⟩
  | ret u => obtain ⟨_, _, _, J', r', q'⟩ := q; exact ⟨_, _, J'.os, J'.bare, J'.base, J'.hok, r', q'⟩
  | brk => obtain ⟨_, _, _, z⟩ := q; exact z.elim
  | cont => obtain ⟨_, _, _, z⟩ := q; exact z.elim

/-- the same of a def of the text, nothing raised -/
theorem fg_fun {x qual : Str} {st : Stmt} {N : List Str} (F : Fun K x qual st f fd) (S : FnScope N ps (defScope st))
    (many : ∀ xs H Q E, sp xs H Q E → xs.length = ps.length)
    (bd : ∀ (cdv : Value) (A : Around) (out : List Env) (s : Shared) (H : Hp) (xs : List V) (Q : VK) (E : XK),
      Room k (A.deeper (envOfC qual (defScope st) s.heap.objs.size f cdv)) → A.guards = some [] → sp xs H Q E →
      ∃ t, PSs (cxOf CX0 P w K mg base N qual (defScope st) f cdv A out s H E).nox (defBody st) t ∧ t { nx := fun _ H' => Q .non H', rt := Q } (start N xs) H) :
    FG P w K mg base CX0 (k + 1) f fd ps sp := by
  obtain ⟨oc, od, kV, doc, pm, an, cdv, ct, osl, e, lk, hc⟩ := F.ex
  cases e
  refine fg_body lk hc S many ?_
  intro A out s H xs Q E hr hg hs
  obtain ⟨t, h, q⟩ := bd cdv A out s H xs Q E hr hg hs
  exact ⟨t, h.nox, q⟩
end

/-- a def that may be called by its name -/
structure CalG (P : Program) (w : World) (K : PySem.W.Frag) (mg : Str → Option Value) (base : Heap) (k : Nat) (x : Str) (st : Stmt) (ps : List Str) (sp : Sp) : Prop where
  ex : ∃ f fd, FG P w K mg base CX0 k f fd ps sp ∧ mg x = some (.ref f) ∧ Fun K x x st f fd
  bd : ∀ (kV doc pm : Value) (an : Option Addr) (cdv ct : Value) (us : List Value), us.length = ps.length →
    bindArgs (PySem.W.fnOf x x (defArgs st) (defBody st) (defScope st) .none kV doc pm an cdv ct) ⟨us, []⟩ = pure (ps.zip us)
/-- a call by keywords alone: g puts the keywords' values into the parameters' order -/
def KwOk (x : Str) (st : Stmt) (ps ks : List Str) (g : List Value → List Value) (gV : List V → List V) : Prop :=
  (∀ (kV doc pm : Value) (an : Option Addr) (cdv ct : Value) (ws : List Value), ws.length = ks.length →
    bindArgs (PySem.W.fnOf x x (defArgs st) (defBody st) (defScope st) .none kV doc pm an cdv ct) ⟨[], ks.zip ws⟩ = pure (ps.zip (g ws))) ∧
  ∀ {zs : List V} {ws : List Value}, Vals zs ws → Vals (gV zs) (g ws)

def tG (sp : Sp) (t : TA) : TE := fun σ H Q => t σ H fun vs H1 => sp vs H1 Q E0
def tGK (sp : Sp) (n : Nat) (gV : List V → List V) (t : TA) : TE := fun σ H Q => t σ H fun vs H1 => vs.length = n ∧ sp (gV vs) H1 Q E0

section
variable {X : Cx} {k j : Nat} {x : Str} {st : Stmt} {ps ks : List Str} {sp : Sp} {p pos : Pos} {e : Expr} {es : List Expr} {t : TA}
theorem fg_end {pins : List (Addr × Obj)} {σ : L2.St} {H : Hp} {s : Shared} {Q : VK} (J : Inv X pins σ H s) (r : Result) (s' : Shared) : CR CX0 X.stack X.prog X.w H s Q E0 r s' →
    (match r with | .ok (.ret u) => EP X pins σ Q u s' | .ok _ => False | .error e => X.xe e s') := by
  intro h
  cases r with
  | error _ => exact False.elim h
  | ok fl =>
    cases fl with
    | ret _ => exact J.after h
    | next => exact h
    | brk => exact h
    | cont => exact h
theorem pe_cG (c : CalG X.prog X.w X.K X.mg X.base k x st ps sp) (hr : Room j X.A) (hk : k ≤ j) (hg : X.A.guards = some []) (gl : Gl X x) (ha : PA X (e :: es) t)
    (hdb : (x == ("__debug__" : Str)) = false := by decide) (he : starEach (e :: es) X.env = (false, eval e X.env) :: starEach es X.env := by rfl) (hpl : (backTo pos (starEach es X.env)).any (·.1) = false := by rfl) :
    PE X (.Call (.Name x p) (e :: es) [] pos) (tG sp t) := by
  constructor
  intro pins s σ H Q J h
  obtain ⟨f, fd, F, hm, fn⟩ := c.ex
  apply wpAny_Call_Name_kw
  apply ld_glob J gl hm _ hdb
  refine PySem.W.callWith_K (h₀ := X.base) J.ok.mod.kin fn.kp (thn (ha.run pos pins s σ H _ J h) ?_) he hpl
  rintro us s1 ⟨vs, H1, J1, r1, q1⟩
  refine And.intro J1.kIn ?_
  have nl : us.length = ps.length := by rw [← r1.length]; exact F.many _ _ _ _ q1
  have hb : BindsTo s1 fd ⟨us, []⟩ (ps.zip us) := by
    obtain ⟨_, _, kV, doc, pm, an, cdv, ct, _, e, _, _⟩ := fn.ex
    cases e
    exact .of_eq (c.bd kV doc pm an cdv ct us nl)
  apply wpAny_call
  refine codeAny_mono (F.go X.A X.stack s1 H1 ⟨us, []⟩ us vs Q E0 (hr.mono hk) hg J1.env0 hb r1 q1) ?_
  exact fg_end J1
theorem pe_cG0 (c : CalG X.prog X.w X.K X.mg X.base k x st [] sp) (hr : Room j X.A) (hk : k ≤ j) (hg : X.A.guards = some []) (gl : Gl X x)
    (hdb : (x == ("__debug__" : Str)) = false := by decide) : PE X (.Call (.Name x p) [] [] pos) (tG sp tNil) := by
  constructor
  intro pins s σ H Q J h
  obtain ⟨f, fd, F, hm, fn⟩ := c.ex
  apply wpAny_Call_Name_kw
  apply ld_glob J gl hm _ hdb
  refine PySem.W.callWith_K0 J.kIn fn.kp ?_
  have hb : BindsTo s fd ⟨[], []⟩ (([] : List Str).zip []) := by
    obtain ⟨_, _, kV, doc, pm, an, cdv, ct, _, e, _, _⟩ := fn.ex
    cases e
    exact .of_eq (c.bd kV doc pm an cdv ct [] rfl)
  apply wpAny_call
  refine codeAny_mono (F.go X.A X.stack s H ⟨[], []⟩ [] [] Q E0 (hr.mono hk) hg J.env0 hb .nil h) ?_
  exact fg_end J
theorem pe_ckG {kws : List Keyword} {g : List Value → List Value} {gV : List V → List V} (c : CalG X.prog X.w X.K X.mg X.base k x st ps sp) (kb : KwOk x st ps ks g gV) (hr : Room j X.A) (hk : k ≤ j) (hg : X.A.guards = some []) (gl : Gl X x)
    (hkw : PK X kws t) (hall : (backToKw pos (keywordEach kws X.env)).all (·.1.isSome) = true := by rfl) (hks : (backToKw pos (keywordEach kws X.env)).filterMap (·.1) = ks := by rfl)
    (hdb : (x == ("__debug__" : Str)) = false := by decide) (hpl : ((backTo pos (starEach [] X.env)).any (·.1) || (backToKw pos (keywordEach kws X.env)).any (·.1.isNone)) = false := by rfl) :
    PE X (.Call (.Name x p) [] kws pos) (tGK sp ks.length gV t) := by
  constructor
  intro pins s σ H Q J h
  obtain ⟨f, fd, F, hm, fn⟩ := c.ex
  apply wpAny_Call_Name_kw
  apply ld_glob J gl hm _ hdb
  refine PySem.W.callWith_KW0 (h₀ := X.base) J.ok.mod.kin fn.kp hall (thn (hkw.run pos pins s σ H _ J h) ?_) hpl
  rintro ws s1 ⟨zs, H1, J1, r1, ln, q1⟩
  refine And.intro J1.kIn ?_
  rw [hks]
  have r2 := kb.2 r1
  have hb : BindsTo s1 fd ⟨[], ks.zip ws⟩ (ps.zip (g ws)) := by
    obtain ⟨_, _, kV, doc, pm, an, cdv, ct, _, e, _, _⟩ := fn.ex
    cases e
    exact .of_eq (kb.1 kV doc pm an cdv ct ws (by rw [← r1.length]; exact ln))
  apply wpAny_call
  refine codeAny_mono (F.go X.A X.stack s1 H1 ⟨[], ks.zip ws⟩ (g ws) (gV zs) Q E0 (hr.mono hk) hg J1.env0 hb r2 q1) ?_
  exact fg_end J1
end
end UN

namespace UN
open PySem PySem.Spec PyProof.Rows L2

/-! the law's end, by a promise that asks no guards -/
section
variable {P : Program} {w : World} {K : PySem.W.Frag} {mg mb : Str → Option Value} {C : CXT} {k : Nat} {fa a : Addr} {fd : FuncData} {x : Str} {sp : Sp} {s1 : Shared} {vs : List Value} {ns : List Int}
/-- from one abstract heap that holds nothing but (perhaps) the script -/
theorem end_core (kin : K.In s1.heap) (gl : s1.heap.Ns mainGlobals mg) (bl : s1.heap.Ns builtinsNs mb) (bb : ∀ y : Str, y ≠ "__name__" → mb y = bootBuiltins y) (nl : s1.heap.NoLimit) (ng : s1.gens = #[])
    (obj : s1.heap.get? a = some { cls := .type "list", data := .seq vs.toArray }) (room : Room k callerA)
    (F : ∀ base : Heap, K.In base → base.Ns mainGlobals mg → FG P w K mg base C k fa fd [x] sp) (bnd : ∀ (s : Shared) (u : Value), BindsTo s fd ⟨[u], []⟩ [(x, u)])
    (H : Hp) (only : Only H) (hok : HOk P w H s1.heap) (alone : ∀ b u, H b = some u → b = a ∧ K.lookup a = none)
    (ask : sp [.ref a] H (fun v _ => v = .bl true) fun _ _ _ => False) (noX : ∀ G e s', C [] G s1 (fun _ _ _ => False) e s' → False) :
    codeAny (model P w) callerA (.call (.ref fa) ⟨[.ref a], []⟩) (fun r s' => r = .ok (.ret (.bool true)) ∧ PySem.OldK s1.heap s'.heap ∧ s'.os = s1.os ∧ AllBare s'.gens) s1 := by
  have free : ∀ b, b ≠ a → H b = none := by
    intro b hb
    cases q : H b with
    | none => rfl
    | some u => exact absurd (alone b u q).1 hb
  have dict_ne : ∀ {b : Addr} {m : Str → Option Value}, s1.heap.Ns b m → b ≠ a := by
    rintro b m ⟨o, es, ep, e, d, _⟩ z
    rw [z, obj] at e
    cases e
    have d2 : Data.seq vs.toArray _ = Data.dict es ep := d
    cases d2
  have hide : ∀ {b : Addr} {m : Str → Option Value}, s1.heap.Ns b m → (hidT s1.heap H).Ns b m := by
    intro b m n
    have nb := free b (dict_ne n)
    obtain ⟨o, es, ep, e, r⟩ := n
    exact ⟨o, es, ep, hidT_get e nb, r⟩
  have kinH : K.In (hidT s1.heap H) := by
    intro b o e
    apply hidT_get (kin b o e)
    cases q : H b with
    | none => rfl
    | some u =>
      obtain ⟨z, z2⟩ := alone b u q
      rw [z, z2] at e
      cases e
  obtain ⟨ml, l1, l2⟩ := nl
  have M : Mod K mg (hidT s1.heap H) := { kin := kinH, glob := hide gl, blt := ⟨mb, hide bl, bb⟩, nolimit := ⟨ml, hide l1, l2⟩ }
  have E0' : Env0 P w K mg (hidT s1.heap H) callerA [] s1 H :=
    { frames := rfl, mod := M, bs := fun b o e => of_hidT e, bsz := Nat.le_of_eq (hidT_size _ _), funs := trivial, frf := fun b hb => absurd (show b ∈ ([] : List Addr) from hb) (by simp), hok := hok, bare := .of_eq ng }
  have run := (F _ kinH (hide gl)).go callerA [] s1 H ⟨[.ref a], []⟩ [.ref a] [.ref a] _ _ room rfl E0' (bnd s1 (.ref a)) (.cons rfl .nil) ask
  refine codeAny_mono run ?_
  intro r s' q
  cases r with
  | error e => exact (noX H e s' q).elim
  | ok fl =>
    cases fl with
    | next => exact False.elim q
    | brk => exact False.elim q
    | cont => exact False.elim q
    | ret u =>
      obtain ⟨v, G, os, bare, un, okG, rel, tr⟩ := q
      cases (show v = .bl true from tr)
      cases (show u = Value.bool true from rel)
      refine ⟨rfl, PySem.OldK.of_keep ?_, os, bare⟩
      intro b o e
      cases q : H b with
      | none => exact un.keep b o e q (fun z => absurd (show b ∈ ([] : List Addr) from z) (by simp)) (by simp)
      | some u =>
        cases only b with
        | inl z => rw [q] at z; cases z
        | inr z =>
          obtain ⟨ob, xs, z⟩ := z
          have e1 := (hok b _ z).1
          rw [e] at e1
          cases e1
          exact (okG b _ (un.frzs b _ _ z)).1
/-- the script alone -/
def scriptH (a : Addr) (vs : List Value) (ns : List Int) : Hp := fun b => if b = a then some (.frz { cls := .type "list", data := .seq vs.toArray } (.lst (ns.map V.int))) else none
theorem end_call (kin : K.In s1.heap) (gl : s1.heap.Ns mainGlobals mg) (bl : s1.heap.Ns builtinsNs mb) (bb : ∀ y : Str, y ≠ "__name__" → mb y = bootBuiltins y) (nl : s1.heap.NoLimit) (ng : s1.gens = #[])
    (obj : s1.heap.get? a = some { cls := .type "list", data := .seq vs.toArray }) (inx : IntsAre vs ns) (few : ns.length ≤ sizeLine) (room : Room k callerA)
    (F : ∀ base : Heap, K.In base → base.Ns mainGlobals mg → FG P w K mg base C k fa fd [x] sp) (bnd : ∀ (s : Shared) (u : Value), BindsTo s fd ⟨[u], []⟩ [(x, u)])
    (ask : ∀ H : Hp, Only H → SqL K H a (ns.map V.int) → sp [.ref a] H (fun v _ => v = .bl true) fun _ _ _ => False) (noX : ∀ G e s', C [] G s1 (fun _ _ _ => False) e s' → False) :
    codeAny (model P w) callerA (.call (.ref fa) ⟨[.ref a], []⟩) (fun r s' => r = .ok (.ret (.bool true)) ∧ PySem.OldK s1.heap s'.heap ∧ s'.os = s1.os ∧ AllBare s'.gens) s1 := by
  have rv := vals_ints inx
  have ln := inx.length
  cases q : K.lookup a with
  | some o =>
    have e := kin a o q
    rw [obj] at e
    cases e
    have on : Only (fun _ => none) := fun _ => .inl rfl
    refine end_core kin gl bl bb nl ng obj room F bnd (fun _ => none) on (fun b u z => nomatch z) (fun b u z => nomatch z) (ask _ on ?_) noX
    exact .inr ⟨_, vs.toArray, _, q, rfl, rfl, rfl, by rw [List.size_toArray, ln]; exact few, by simpa using rv⟩
  | none =>
    have at_a : scriptH a vs ns a = some (.frz { cls := .type "list", data := .seq vs.toArray } (.lst (ns.map V.int))) := if_pos rfl
    have other : ∀ b, b ≠ a → scriptH a vs ns b = none := fun b hb => if_neg hb
    have on : Only (scriptH a vs ns) := by
      intro b
      by_cases hb : b = a
      · rw [hb]; exact .inr ⟨_, _, at_a⟩
      · exact .inl (other b hb)
    refine end_core kin gl bl bb nl ng obj room F bnd (scriptH a vs ns) on ?_ ?_ (ask _ on (.inl (.inr ⟨_, at_a⟩))) noX
    · intro b u z
      by_cases hb : b = a
      · subst hb
        rw [at_a] at z
        cases z
        exact ⟨obj, by rw [List.length_map]; exact few, vs, _, rv, obj⟩
      · rw [other b hb] at z
        cases z
    · intro b u z
      by_cases hb : b = a
      · exact ⟨hb, q⟩
      · rw [other b hb] at z
        cases z
end

theorem walk_G {l : PySem.W.OpenLaw} {n k : Nat} {q : Program} {loose : List Str} {XP : (Str → Option Value) → Heap → Prop} {YP : World → Heap → Prop} {d : DefRec} {K : Params → PySem.W.Frag} {sp : World → Sp} {x : Str}
    (hn : l.most = some n) (hn2 : n ≤ sizeLine) (hdf : d.params.defaults = []) (hr : Room k callerA)
    (hY : ∀ (w : World) (h : Heap), YP w h → (K w.params).In h)
    (F : ∀ (w : World) (mg : Str → Option Value) (fa : Addr) (h : Heap), (K w.params).In h → h.Ns mainGlobals mg → mg d.name = some (.ref fa) →
      ∃ fd : FuncData, (∀ (s : Shared) (u : Value), BindsTo s fd ⟨[u], []⟩ [(x, u)]) ∧
        ∀ base : Heap, (K w.params).In base → base.Ns mainGlobals mg → FG l.prog w (K w.params) mg base CX0 k fa fd [x] (sp w))
    (hsp : ∀ (w : World) (H : Hp) (a : Addr) (ns : List Int), ns.length ≤ n → Only H → SqL (K w.params) H a (ns.map V.int) → sp w [.ref a] H (fun v _ => v = .bl true) fun _ _ _ => False) :
    PySem.W.WalkO q loose XP YP l.row.toRowW d [] (fun f vs => PySem.call f vs) := by
  apply Att.attach_call hn hdf
  intro w s0 s1 mg mb fa o pm cd doc a vs ns G Y ho hd hcd hmg hobj hints hlen hg
  have kin := hY w _ Y
  obtain ⟨fd, hb, hF⟩ := F w mg fa _ kin G.T.g hmg
  exact end_call kin G.T.g G.T.b G.T.builtins G.T.nolimit hg hobj hints (Nat.le_trans hlen hn2) hr hF hb (fun H hO hS => hsp w H a ns hlen hO hS) (fun _ _ _ z => z)
end UN

namespace UN
open PySem PySem.Spec PyProof.Rows L2

/-! rules that the layer lacks -/
section
variable {X : Cx}
/-- repr of data -/
def rRepr (K : PySem.W.Frag) : List V → Hp → VK → Prop := fun vs H Q => ∃ x d, vs = [x] ∧ Dp K H x d ∧ d.showable = true ∧ d.hasDict = false ∧ d.depth ≤ 60 ∧ d.shown.length ≤ sizeLine ∧ Q (.str d.shown) H
theorem call_reprD (hu : X.A.units + 64 < cLine) (hg : X.A.guards = some []) : CallR X (.builtin "repr") (rRepr X.K) := by
  intro pins s σ H vs us Q J r h
  obtain ⟨x, d, e, dp, sh, nd, dep, sz, q⟩ := h
  subst e
  obtain ⟨u, e, ru⟩ := vals1 r
  subst e
  obtain ⟨as, rd⟩ := Dp.reads J d x u dp ru
  cases dp with
  | non => cases ru; exact PySem.P.repr_of_none ⟨.str _, H, J.tok _, ⟨_, rfl⟩, q⟩
  | bl b => cases ru; cases b <;> exact PySem.P.repr_of_bool ⟨.str _, H, J.tok _, ⟨_, rfl⟩, q⟩
  | int i =>
    obtain ⟨t, rfl⟩ := ru
    exact PySem.P.repr_of_int (of_decide_eq_true sh) ⟨.str _, H, J.tok _, ⟨_, rfl⟩, q⟩
  | str z =>
    obtain ⟨t, rfl⟩ := ru
    exact PySem.P.repr_of_str ⟨.str _, H, J.tok _, ⟨_, rfl⟩, q⟩ sz
  | lst _ _ => cases ru; exact repr_of_reads' rd sh (PyData.noDict_hsm nd) hg (by omega) (fun _ _ z => z) (fun h2 u tk k => ⟨.str _, H, J.kept (t' := tk) k, ⟨_, rfl⟩, q⟩) sz
  | tup _ _ => cases ru; exact repr_of_reads' rd sh (PyData.noDict_hsm nd) hg (by omega) (fun _ _ z => z) (fun h2 u tk k => ⟨.str _, H, J.kept (t' := tk) k, ⟨_, rfl⟩, q⟩) sz

/-- powers of greater numbers -/
def CPowW (i j : Int) : Prop := 0 < j ∧ j ≤ 1000 ∧ 1 < i ∧ i.natAbs.log2 < 100000
theorem op_powW : OpR X (binaryOp .Pow) (rI CPowW fun i j => .int (i ^ j.toNat)) := opI fun i j t u s Q E hc q => by
  obtain ⟨h1, h2, h3, h4⟩ := hc
  refine AutoIntOps.pow_4 (by omega) (by simp; omega) (by simp; omega) (by simp; omega) ?_ q
  unfold Builtin.Int.intTooBig
  have hb : Builtin.Int.intBits i ≤ i.natAbs.log2 + 1 := by
    unfold Builtin.Int.intBits
    split <;> omega
  have e : bitsLine = 134217728 := by decide
  have m : ((Builtin.Int.intBits i : Nat) : Int) * j ≤ 100000 * 1000 := by
    have a : ((Builtin.Int.intBits i : Nat) : Int) ≤ 100000 := by omega
    exact Int.mul_le_mul a h2 (by omega) (by omega)
  rw [e]
  simp
  omega

/-- xs += ys -/
theorem ip_ext : PIp X .Add rExt2 := fun pins s σ H x y v u Q J r1 r2 h => iop_ext pins s σ H x y v u Q J r1 r2 h

/-- a < b < c < d -/
def tChain3 (r r' r'' : R2) (ta tb tc td : TE) : TE := fun σ H Q => ta σ H fun x H1 => tb σ H1 fun y H2 => r x y H2 fun z H3 => ∃ k, z = .bl k ∧
  (if k = true then tc σ H3 fun w H4 => r' y w H4 fun z2 H5 => ∃ k2, z2 = .bl k2 ∧ (if k2 = true then td σ H5 fun v H6 => r'' w v H6 Q else Q (.bl false) H5) else Q (.bl false) H3)
variable {a b c d : Expr} {ta tb tc td : TE} {pos : Pos}
theorem pe_chain3 {o1 o2 o3 : CmpOp} {r r' r'' : R2} (h1 : OpR X (compareOp o1) r) (h2 : OpR X (compareOp o2) r') (h3 : OpR X (compareOp o3) r'') (ha : PE X a ta) (hb : PE X b tb) (hc : PE X c tc) (hd : PE X d td)
    (hm : lastMarks [o1, o2, o3] [b, c, d] = false := by with_unfolding_all rfl) : PE X (.Compare a [o1, o2, o3] [b, c, d] pos) (tChain3 r r' r'' ta tb tc td) := by
  constructor
  intro pins s σ H Q J h
  refine Compare_chain (thn (ha.run pins s σ H _ J h) ?_) hm
  rintro v s1 ⟨x, H1, J1, r1, q1⟩
  refine chain_link (thn (hb.run pins s1 σ H1 _ J1 q1) ?_)
  rintro u s2 ⟨y, H2, J2, r2, q2⟩
  refine thn (h1 pins s2 σ H2 x y v u _ J2 r1 r2 q2) ?_
  rintro d1 s3 ⟨z, H3, J3, r3, k, e, q3⟩
  subst e
  cases r3
  refine wpAny_truthy_bool ?_
  cases k with
  | false => exact ite_ff ⟨.bl false, H3, J3, rfl, q3⟩
  | true =>
    refine ite_tt (chain_link (thn (hc.run pins s3 σ H3 _ J3 q3) ?_))
    rintro w s4 ⟨y2, H4, J4, r4, q4⟩
    refine thn (h2 pins s4 σ H4 y y2 u w _ J4 r2 r4 q4) ?_
    rintro d2 s5 ⟨z2, H5, J5, r5, k2, e2, q5⟩
    subst e2
    cases r5
    refine wpAny_truthy_bool ?_
    cases k2 with
    | false => exact ite_ff ⟨.bl false, H5, J5, rfl, q5⟩
    | true =>
      refine ite_tt (chain_last (thn (hd.run pins s5 σ H5 _ J5 q5) ?_))
      rintro w3 s6 ⟨y3, H6, J6, r6, q6⟩
      exact h3 pins s6 σ H6 y2 y3 w w3 Q J6 r4 r6 q6
end
end UN

namespace UN
open PySem PySem.Spec PyProof.Rows L2

/-! what a def owns: H is H0 with the new objects of L -/
abbrev Led := List (Addr × HO)
structure Loc (H0 H : Hp) (L : Led) : Prop where
  same : Same H0 H
  here : ∀ p ∈ L, H p.1 = some p.2
  new : ∀ p ∈ L, H0 p.1 = none
  nd : (L.map Prod.fst).Nodup
section
variable {H0 H H1 : Hp} {L M A B : Led} {a p : Addr} {o o' : HO}
theorem Loc.refl (H : Hp) : Loc H H [] := ⟨Same.refl H, (fun _ z => nomatch z), (fun _ z => nomatch z), List.Pairwise.nil⟩
theorem Loc.of (h : Same H0 H) : Loc H0 H [] := ⟨h, (fun _ z => nomatch z), (fun _ z => nomatch z), List.Pairwise.nil⟩
theorem Loc.ne (l : Loc H0 H L) (hp : H p = none) : ∀ q ∈ L, q.1 ≠ p := fun q hq => ne_of_none (l.here q hq) hp
theorem Loc.alloc (l : Loc H0 H L) (hp : H p = none) : Loc H0 (upd H p o) ((p, o) :: L) := by
  have n0 : H0 p = none := l.same.free hp
  refine ⟨fun b u e => ?_, ?_, ?_, ?_⟩
  · rw [upd_ne (ne_of_none e n0)]; exact l.same b u e
  · intro q hq
    rcases List.mem_cons.mp hq with rfl | hq
    · exact upd_same
    · rw [upd_ne (l.ne hp q hq)]; exact l.here q hq
  · intro q hq
    rcases List.mem_cons.mp hq with rfl | hq
    · exact n0
    · exact l.new q hq
  · refine List.nodup_cons.mpr ⟨fun z => ?_, l.nd⟩
    obtain ⟨q, hq, e⟩ := List.mem_map.mp z
    exact l.ne hp q hq e
theorem Loc.setIx (l : Loc H0 H L) {i : Nat} (h : L[i]? = some (a, o)) : Loc H0 (upd H a o') (L.set i (a, o')) := by
  have mem : (a, o) ∈ L := List.mem_of_getElem? h
  have n0 : H0 a = none := l.new _ mem
  obtain ⟨hi, e⟩ := List.getElem?_eq_some_iff.mp h
  have fst : (L.set i (a, o')).map Prod.fst = L.map Prod.fst := by
    rw [List.map_set]
    refine List.ext_getElem? fun j => ?_
    rw [List.getElem?_set]
    by_cases hj : i = j
    · subst hj
      rw [if_pos rfl, List.getElem?_map, h, if_pos (by rw [List.length_map]; exact hi)]
      rfl
    · rw [if_neg hj]
  refine ⟨fun b u q => ?_, ?_, ?_, ?_⟩
  · rw [upd_ne (ne_of_none q n0)]; exact l.same b u q
  · intro q hq
    obtain ⟨j, hj⟩ := List.getElem?_of_mem hq
    rw [List.getElem?_set] at hj
    by_cases e1 : i = j
    · subst e1
      rw [if_pos rfl, if_pos hi] at hj
      cases hj
      exact upd_same
    · rw [if_neg e1] at hj
      have mq : q ∈ L := List.mem_of_getElem? hj
      have ne : q.1 ≠ a := by
        intro z
        have j1 : (L.map Prod.fst)[i]? = some a := by rw [List.getElem?_map, h]; rfl
        have j2 : (L.map Prod.fst)[j]? = some a := by rw [List.getElem?_map, hj, ← z]; rfl
        exact e1 (nd_ix l.nd j1 j2)
      rw [upd_ne ne]
      exact l.here q mq
  · intro q hq
    have z : q.1 ∈ (L.set i (a, o')).map Prod.fst := List.mem_map.mpr ⟨q, hq, rfl⟩
    rw [fst] at z
    obtain ⟨r, hr, e2⟩ := List.mem_map.mp z
    rw [← e2]
    exact l.new r hr
  · rw [fst]; exact l.nd
theorem Loc.call (l : Loc H0 H L) (m : Loc H H1 M) : Loc H0 H1 (M ++ L) := by
  refine ⟨l.same.trans m.same, ?_, ?_, ?_⟩
  · intro q hq
    rcases List.mem_append.mp hq with hq | hq
    · exact m.here q hq
    · exact m.same _ _ (l.here q hq)
  · intro q hq
    rcases List.mem_append.mp hq with hq | hq
    · exact l.same.free (m.new q hq)
    · exact l.new q hq
  · rw [List.map_append, List.nodup_append]
    refine ⟨m.nd, l.nd, fun x hx y hy e => ?_⟩
    obtain ⟨q, hq, rfl⟩ := List.mem_map.mp hx
    obtain ⟨r, hr, rfl⟩ := List.mem_map.mp hy
    have e1 := m.new q hq
    rw [e, l.here r hr] at e1
    cases e1
theorem Loc.ext (l : Loc H0 H L) (s : Same H H1) : Loc H0 H1 L := l.call (Loc.of s)
theorem Loc.keep (l : Loc H0 H L) (s : M.Sublist L) : Loc H0 H M :=
  ⟨l.same, fun q hq => l.here q (s.subset hq), fun q hq => l.new q (s.subset hq), l.nd.sublist (s.map _)⟩
theorem Loc.perm (l : Loc H0 H L) (s : M.Perm L) : Loc H0 H M :=
  ⟨l.same, fun q hq => l.here q (s.mem_iff.mp hq), fun q hq => l.new q (s.mem_iff.mp hq), (s.map Prod.fst).nodup_iff.mpr l.nd⟩
theorem Loc.drop1 (l : Loc H0 H ((a, o) :: L)) : Loc H0 H L := l.keep (List.sublist_cons_self _ _)
theorem Loc.put0 (l : Loc H0 H ((a, o) :: L)) : Loc H0 (upd H a o') ((a, o') :: L) := l.setIx (i := 0) rfl
theorem Loc.at0 (l : Loc H0 H ((a, o) :: L)) : H a = some o := l.here _ List.mem_cons_self
theorem Loc.atIx (l : Loc H0 H L) {i : Nat} (h : L[i]? = some (a, o)) : H a = some o := l.here _ (List.mem_of_getElem? h)
/-- the base itself is written at a place that is none of ours -/
theorem Loc.bump (l : Loc (upd H0 a o) H L) : Loc (upd H0 a o') (upd H a o') L := by
  have ne : ∀ q ∈ L, q.1 ≠ a := fun q hq z => by
    have e := l.new q hq
    rw [z, upd_same] at e
    cases e
  refine ⟨fun b u e => ?_, fun q hq => ?_, fun q hq => ?_, l.nd⟩
  · by_cases hb : b = a
    · subst hb; rw [upd_same] at e ⊢; exact e
    · rw [upd_ne hb] at e ⊢
      exact l.same b u (by rw [upd_ne hb]; exact e)
  · rw [upd_ne (ne q hq)]; exact l.here q hq
  · have e := l.new q hq
    rw [upd_ne (ne q hq)] at e ⊢
    exact e
theorem Loc.start (h : H a = some o) : Loc (upd H a o) H [] := by
  have e : upd H a o = H := by
    funext b
    by_cases hb : b = a
    · subst hb; rw [upd_same, h]
    · rw [upd_ne hb]
  rw [e]
  exact Loc.refl H
theorem Loc.own (l : Loc (upd H0 a o) H L) : H a = some o := l.same _ _ upd_same
end

/-! reading: what stays where all that was tracked stays -/
section
variable {K : PySem.W.Frag} {H H1 : Hp} {a : Addr} {xs : List V}
theorem Same.sqT (s : Same H H1) (h : SqT K H a xs) : SqT K H1 a xs := by
  rcases h with (h | ⟨o, h⟩) | h
  · exact .inl (.inl (s _ _ h))
  · exact .inl (.inr ⟨o, s _ _ h⟩)
  · exact .inr h
mutual
theorem Dp.grow (s : Same H H1) : ∀ (d : PyData) (v : V), Dp K H v d → Dp K H1 v d
  | .none, _, h => by cases h; exact .non
  | .bool _, _, h => by cases h; exact .bl _
  | .int _, _, h => by cases h; exact .int _
  | .str _, _, h => by cases h; exact .str _
  | .list ds, _, h => by
    cases h with
    | lst hs ha => exact .lst (s.seq hs) (DpAll.grow s ds _ ha)
  | .tuple ds, _, h => by
    cases h with
    | tup hs ha => exact .tup (Same.sqT s hs) (DpAll.grow s ds _ ha)
  | .dict _, _, h => nomatch h
theorem DpAll.grow (s : Same H H1) : ∀ (ds : List PyData) (vs : List V), DpAll K H vs ds → DpAll K H1 vs ds
  | [], _, h => by cases h; exact .nil
  | d :: ds, _, h => by
    cases h with
    | cons h1 h2 => exact .cons (Dp.grow s d _ h1) (DpAll.grow s ds _ h2)
end
end

/-! lists of lists, of pairs -/
def refs {α : Type} (rs : List (Addr × α)) : List V := rs.map fun p => .ref p.1
def iv (ns : List Int) : List V := ns.map V.int
def rowL (rs : List (Addr × List Int)) : Led := rs.map fun p => (p.1, .lst (iv p.2))
def pairL (rs : List (Addr × Int × Int)) : Led := rs.map fun p => (p.1, .tup [.int p.2.1, .int p.2.2])
def vals {α : Type} (rs : List (Addr × α)) : List α := rs.map Prod.snd
section
variable {K : PySem.W.Frag} {H H1 : Hp} {a : Addr}
def IsInts (K : PySem.W.Frag) (H : Hp) (a : Addr) (ns : List Int) : Prop := SqL K H a (iv ns)
def IsRows (K : PySem.W.Frag) (H : Hp) (a : Addr) (rows : List (List Int)) : Prop := ∃ rs : List (Addr × List Int), vals rs = rows ∧ SqL K H a (refs rs) ∧ ∀ r ∈ rs, SqL K H r.1 (iv r.2)
def IsPairs (K : PySem.W.Frag) (H : Hp) (a : Addr) (ps : List (Int × Int)) : Prop := ∃ ts : List (Addr × Int × Int), vals ts = ps ∧ SqL K H a (refs ts) ∧ ∀ t ∈ ts, SqT K H t.1 [.int t.2.1, .int t.2.2]
theorem IsInts.grow {ns : List Int} (s : Same H H1) (h : IsInts K H a ns) : IsInts K H1 a ns := s.seq h
theorem IsRows.grow {rows : List (List Int)} (s : Same H H1) (h : IsRows K H a rows) : IsRows K H1 a rows := by
  obtain ⟨rs, e, h1, h2⟩ := h
  exact ⟨rs, e, s.seq h1, fun r hr => s.seq (h2 r hr)⟩
theorem IsPairs.grow {ps : List (Int × Int)} (s : Same H H1) (h : IsPairs K H a ps) : IsPairs K H1 a ps := by
  obtain ⟨rs, e, h1, h2⟩ := h
  exact ⟨rs, e, s.seq h1, fun r hr => Same.sqT s (h2 r hr)⟩
theorem refs_set {α : Type} {rs : List (Addr × α)} {i : Nat} {x y : α} (h : rs[i]? = some (a, x)) : refs (rs.set i (a, y)) = refs rs := by
  unfold refs
  rw [List.map_set]
  refine List.ext_getElem? fun j => ?_
  rw [List.getElem?_set]
  by_cases hj : i = j
  · subst hj
    rw [if_pos rfl, List.getElem?_map, h, if_pos (by rw [List.length_map]; exact (List.getElem?_eq_some_iff.mp h).1)]
    rfl
  · rw [if_neg hj]
theorem rowL_set (rs : List (Addr × List Int)) (i : Nat) (r : List Int) : rowL (rs.set i (a, r)) = (rowL rs).set i (a, .lst (iv r)) := by
  unfold rowL
  rw [List.map_set]
theorem vals_set {α : Type} (rs : List (Addr × α)) (i : Nat) (r : α) : vals (rs.set i (a, r)) = (vals rs).set i r := by
  unfold vals
  rw [List.map_set]
theorem vals_get {α : Type} {rs : List (Addr × α)} {i : Nat} {r : α} (h : (vals rs)[i]? = some r) : ∃ a, rs[i]? = some (a, r) := by
  unfold vals at h
  rw [List.getElem?_map] at h
  cases e : rs[i]? with
  | none => rw [e] at h; cases h
  | some q => obtain ⟨b, s⟩ := q; rw [e] at h; cases h; exact ⟨b, rfl⟩
theorem refs_get {α : Type} {rs : List (Addr × α)} {i : Nat} {r : α} (h : rs[i]? = some (a, r)) : (refs rs)[i]? = some (.ref a) := by
  unfold refs
  rw [List.getElem?_map, h]
  rfl
theorem rowL_get {rs : List (Addr × List Int)} {i : Nat} {r : List Int} (h : rs[i]? = some (a, r)) : (rowL rs)[i]? = some (a, .lst (iv r)) := by
  unfold rowL
  rw [List.getElem?_map, h]
  rfl
theorem refs_len {α : Type} (rs : List (Addr × α)) : (refs rs).length = rs.length := List.length_map _
theorem vals_len {α : Type} (rs : List (Addr × α)) : (vals rs).length = rs.length := List.length_map _
theorem iv_len (ns : List Int) : (iv ns).length = ns.length := List.length_map _
theorem iv_get {ns : List Int} {i : Nat} {n : Int} (h : ns[i]? = some n) : (iv ns)[i]? = some (.int n) := by
  unfold iv
  rw [List.getElem?_map, h]
  rfl
theorem iv_snoc (ns : List Int) (n : Int) : iv (ns ++ [n]) = iv ns ++ [.int n] := List.map_append ..
theorem refs_snoc {α : Type} (rs : List (Addr × α)) (q : Addr × α) : refs (rs ++ [q]) = refs rs ++ [.ref q.1] := List.map_append ..
end

/-! sorting whole numbers -/
def srt (l : List Int) : List Int := l.mergeSort (fun a b => decide (a ≤ b))
theorem srt_perm (l : List Int) : (srt l).Perm l := List.mergeSort_perm ..
theorem srt_asc (l : List Int) : (srt l).Pairwise (· ≤ ·) := by
  have h := List.pairwise_mergeSort (le := fun a b : Int => decide (a ≤ b)) (fun a b c h1 h2 => by simp at *; omega) (fun a b => by simp; omega) l
  exact h.imp fun h => of_decide_eq_true h
theorem asc_unique : ∀ {l m : List Int}, l.Perm m → l.Pairwise (· ≤ ·) → m.Pairwise (· ≤ ·) → l = m
  | [], m, p, _, _ => p.nil_eq
  | x :: l, [], p, _, _ => by have := p.length_eq; simp at this
  | x :: l, y :: m, p, h1, h2 => by
    have h1' := List.pairwise_cons.mp h1
    have h2' := List.pairwise_cons.mp h2
    have e : x = y := by
      have a : x ∈ y :: m := p.subset List.mem_cons_self
      have b : y ∈ x :: l := p.symm.subset List.mem_cons_self
      rcases List.mem_cons.mp a with a | a
      · exact a
      · rcases List.mem_cons.mp b with b | b
        · exact b.symm
        · have := h2'.1 x a
          have := h1'.1 y b
          omega
    subst e
    rw [asc_unique (List.Perm.cons_inv p) h1'.2 h2'.2]
theorem srt_of {l m : List Int} (p : m.Perm l) (h : m.Pairwise (· ≤ ·)) : m = srt l := asc_unique (p.trans (srt_perm l).symm) h (srt_asc l)
end UN
namespace UN
open PySem PySem.Spec PyProof.Rows L2
section
variable {H0 H : Hp} {L : Led} {x y : Addr × HO} {t r : Addr} {o : HO}
theorem Loc.rot (l : Loc H0 H (x :: y :: L)) : Loc H0 H (y :: (L ++ [x])) :=
  l.perm ((List.Perm.cons y (List.perm_append_singleton x L)).trans (List.Perm.swap x y L))
theorem refs_inv {α : Type} {ts : List (Addr × α)} {i : Nat} {x : V} (h : (refs ts)[i]? = some x) : ∃ q, ts[i]? = some q ∧ x = .ref q.1 := by
  unfold refs at h
  rw [List.getElem?_map] at h
  cases e : ts[i]? with
  | none => rw [e] at h; cases h
  | some q => rw [e] at h; cases h; exact ⟨q, rfl, rfl⟩
theorem iv_inv {ns : List Int} {i : Nat} {x : V} (h : (iv ns)[i]? = some x) : ∃ n, ns[i]? = some n ∧ x = .int n := by
  unfold iv at h
  rw [List.getElem?_map] at h
  cases e : ns[i]? with
  | none => rw [e] at h; cases h
  | some q => rw [e] at h; cases h; exact ⟨q, rfl, rfl⟩
/-- a row of a new list of new rows grows -/
theorem Loc.rowGrow {rs : List (Addr × List Int)} {k : Nat} {row : List Int} {z : Int} (l : Loc H0 H ((t, .lst (refs rs)) :: rowL rs)) (h : rs[k]? = some (r, row)) :
    Loc H0 (upd H r (.lst (iv row ++ [.int z]))) ((t, .lst (refs (rs.set k (r, row ++ [z])))) :: rowL (rs.set k (r, row ++ [z]))) := by
  have l2 := l.setIx (i := k + 1) (a := r) (o := .lst (iv row)) (o' := .lst (iv row ++ [.int z])) (by rw [List.getElem?_cons_succ]; exact rowL_get h)
  rw [List.set_cons_succ, ← iv_snoc, ← rowL_set] at l2
  rw [refs_set h, ← iv_snoc]
  exact l2
/-- one more new row at the end of a new list of new rows -/
theorem Loc.rowNew {rs : List (Addr × List Int)} {row : List Int} (l : Loc H0 H ((t, .lst (refs rs)) :: rowL rs)) (hr : H r = none) :
    Loc H0 (upd (upd H r (.lst (iv row))) t (.lst (refs rs ++ [.ref r]))) ((t, .lst (refs (rs ++ [(r, row)]))) :: rowL (rs ++ [(r, row)])) := by
  have l2 := ((l.alloc (o := .lst (iv row)) hr).setIx (i := 1) (o' := .lst (refs rs ++ [.ref r])) rfl).rot
  rw [refs_snoc]
  have e : rowL (rs ++ [(r, row)]) = rowL rs ++ [(r, .lst (iv row))] := List.map_append ..
  rw [e]
  exact l2
/-- .. where the row was made by a call -/
theorem Loc.rowAdd {H1 : Hp} {rs : List (Addr × List Int)} {row : List Int} (l : Loc H0 H ((t, .lst (refs rs)) :: rowL rs)) (m : Loc H H1 [(r, .lst (iv row))]) :
    Loc H0 (upd H1 t (.lst (refs rs ++ [.ref r]))) ((t, .lst (refs (rs ++ [(r, row)]))) :: rowL (rs ++ [(r, row)])) := by
  have l2 := ((l.call m).setIx (i := 1) (o' := .lst (refs rs ++ [.ref r])) rfl).rot
  rw [refs_snoc]
  have e : rowL (rs ++ [(r, row)]) = rowL rs ++ [(r, .lst (iv row))] := List.map_append ..
  rw [e]
  exact l2
theorem Loc.isRows {K : PySem.W.Frag} {rs : List (Addr × List Int)} (l : Loc H0 H ((t, .lst (refs rs)) :: rowL rs)) : IsRows K H t (vals rs) :=
  ⟨rs, rfl, SqL.of l.at0, fun q hq => SqL.of (l.here (q.1, .lst (iv q.2)) (List.mem_cons_of_mem _ (List.mem_map.mpr ⟨q, hq, rfl⟩)))⟩
theorem sl_line {n : Nat} (h : n ≤ 100000) : n ≤ sizeLine := Nat.le_trans h (by decide)
theorem sl_line' {n : Nat} (h : n < 100000) : n < sizeLine := Nat.lt_of_lt_of_le h (by decide)
end
end UN

namespace UN
open PySem PySem.Spec PyProof.Rows L2

/-! the layer's rules with the written part told (within a comprehension's block it is the def's) -/
section
variable {X : Cx} (K : PySem.W.Frag) (hK : X.K = K)
include hK
theorem ix_listK : IxR X (rIxL K) := hK ▸ ix_list
theorem ix_tupK : IxR X (rIxT K) := hK ▸ ix_tup
theorem sl_listK : SlR X (rSlL K) := hK ▸ sl_list
theorem op_in_seqK : OpR X (compareOp .In) (rIn K false) := hK ▸ op_in_seq
theorem op_notIn_seqK : OpR X (compareOp .NotIn) (rIn K true) := hK ▸ op_notIn_seq
theorem op_eqDK (hu : X.A.units + 64 < cLine) : OpR X (compareOp .Eq) (rEqD K) := hK ▸ op_eqD hu
theorem op_neDK (hu : X.A.units + 64 < cLine) : OpR X (compareOp .NotEq) (rNeD K) := hK ▸ op_neD hu
theorem op_inDK (hu : X.A.units + 65 < cLine) : OpR X (compareOp .In) (rInD K) := hK ▸ op_inD hu
theorem op_notInDK (hu : X.A.units + 65 < cLine) : OpR X (compareOp .NotIn) (rNotInD K) := hK ▸ op_notInD hu
theorem op_ltTK (hu : X.A.units < cLine) : OpR X (compareOp .Lt) (rLtT K) := hK ▸ op_ltT hu
theorem op_leTK (hu : X.A.units < cLine) : OpR X (compareOp .LtE) (rLeT K) := hK ▸ op_leT hu
theorem op_catTK : OpR X (binaryOp .Add) (rCatT K) := hK ▸ op_catT
def rLenS (K : PySem.W.Frag) : List V → Hp → VK → Prop := fun xs H Q => ∃ p ys, xs = [.ref p] ∧ (SqL K H p ys ∨ SqT K H p ys) ∧ Q (.int ys.length) H
theorem call_len_seqK : CallR X (.builtin "len") (rLenS K) := hK ▸ call_len_seq
def rListOf (K : PySem.W.Frag) : List V → Hp → VK → Prop := fun xs H Q => ∃ p ys, xs = [.ref p] ∧ (SqL K H p ys ∨ SqT K H p ys) ∧ ∀ l, H l = none → Q (.ref l) (upd H l (.lst ys))
theorem call_list_ofK : CallR X (.type "list") (rListOf K) := hK ▸ call_list_of
theorem cr_sumK (hc : X.calm = true) : CallR X (.builtin "sum") (rSum K) := hK ▸ cr_sum hc
theorem cr_maxK (hc : X.calm = true) : CallR X (.builtin "max") (rMax K) := hK ▸ cr_max hc
theorem cr_minK (hc : X.calm = true) : CallR X (.builtin "min") (rMin K) := hK ▸ cr_min hc
theorem cr_anyK (hc : X.calm = true) : CallR X (.builtin "any") (rAny K) := hK ▸ cr_any hc
theorem cr_allK (hc : X.calm = true) : CallR X (.builtin "all") (rAll K) := hK ▸ cr_all hc
theorem cr_sortedIK : CallR X (.builtin "sorted") (rSortedI K) := hK ▸ cr_sortedI
theorem cr_sortedPOK : CallR X (.builtin "sorted") (rSortedPO K) := hK ▸ cr_sortedPO
theorem call_isiK2 : CallR X (.builtin "isinstance") (rIsi K) := hK ▸ call_isi
theorem call_reprDK (hu : X.A.units + 64 < cLine) (hg : X.A.guards = some []) : CallR X (.builtin "repr") (rRepr K) := hK ▸ call_reprD hu hg
theorem pi_listK {tg l : Expr} {tl : TE} (hl : PE X l tl) : PI X tg l (iList K tl) := hK ▸ pi_list hl
theorem pi_tupK {tg l : Expr} {tl : TE} (hl : PE X l tl) : PI X tg l (iTup K tl) := hK ▸ pi_tup hl
theorem pi_enumK {e : Expr} {ta : TA} {p pos tpos : Pos} {elts : List Expr} {kk : Nat} (hg : Gl X "enumerate") (hm : X.mg "enumerate" = none) (ha : PA X [e] ta) (hs : starEach [e] X.env = [(false, eval e X.env)] := by rfl) :
    PI X (.Tuple elts kk tpos) (.Call (.Name "enumerate" p) [e] [] pos) (iEnum K ta) := hK ▸ pi_enum hg hm ha hs
theorem pg_tupK {es : List Expr} {k : Nat} {t : TGs} {n : Nat} {pos : Pos} (hc : X.calm = true) (h : PGs X es t)
    (hn : (assignEach es X.env).length = n := by rfl) (hst : (assignEach es X.env).findIdx? (·.1) = none := by rfl) : PG X (.Tuple es k pos) (gTup K n t) := hK ▸ pg_tup hc h hn hst
theorem pe_revLK {e : Expr} {te : TE} {k : Nat} {p1 p2 p3 pos : Pos} (he : PE X e te) : PE X (.Subscript e (.Slice none none (some (.UnaryOp .USub (.Constant (.int 1) k p1) p2)) p3) pos) (tRevL K te) := hK ▸ pe_revL he
def tTruK (K : PySem.W.Frag) (ta : TE) : TT := fun σ H Q => ta σ H fun x H' => ∃ k, TruV K x H' k ∧ Q k H'
theorem pt_truthK {a : Expr} {ta : TE} (ha : PE X a ta) (he : ∀ whole, isTrue a X.env whole = (do let v ← whole; standAt a.pos; holding [v] (truthy v))) : PT X a (tTruK K ta) := hK ▸ pt_truth ha he
theorem mt_indexK : MtR X "list.index" (rIndex K) := hK ▸ mt_index
theorem mt_lcountK : MtR X "list.count" (fun x xs H Q => ∃ (p : Addr) (ns : List Int) (k : Int), x = .ref p ∧ xs = [.int k] ∧ SqL K H p (ns.map V.int) ∧ Q (.int (ns.count k : Nat)) H) := by
  cases hK
  exact mt_lcount
variable {T : String} {name : Str} {id : String} {r : V → List V → Hp → VK → Prop} {o e : Expr} {es : List Expr} {to : TE} {t : TA} {apos cpos : Pos}
theorem pe_bm0K (pa : PlainAttrs T) (slot : Slot T name id) (hty : typeOf (.builtin id) = pure (.type "method_descriptor")) (hm : MtR X id r) (ho : PE X o to)
    (hbase : attributeBase o name X.env (eval o X.env) = eval o X.env := by rfl) (hline : (apos.endLine == cpos.line) = true := by rfl) : PE X (.Call (.Attribute o name apos) [] [] cpos) (tBM0 K T r to) :=
  hK ▸ pe_bm0 pa slot hty hm ho hbase hline
theorem pe_bmK (pa : PlainAttrs T) (slot : Slot T name id) (hty : typeOf (.builtin id) = pure (.type "method_descriptor")) (hm : MtR X id r) (ho : PE X o to) (ha : PA X (e :: es) t)
    (h1 : attributeBase o name X.env (eval o X.env) = eval o X.env := by rfl)
    (h2 : ((backTo cpos (starEach (e :: es) X.env)).all (fun x => !x.1) && (backToKw cpos (keywordEach [] X.env)).all (fun x => x.1.isSome) && decide ((e :: es).length + ([] : List Keyword).length + (if ([] : List Keyword).isEmpty then 0 else 1) < 30)) = true := by rfl)
    (h3 : (apos.endLine == cpos.line) = true := by rfl) (h4 : starEach (e :: es) X.env = (false, eval e X.env) :: starEach es X.env := by rfl) (h5 : (backTo cpos (starEach es X.env)).any (·.1) = false := by rfl) :
    PE X (.Call (.Attribute o name apos) (e :: es) [] cpos) (tBM K T r to t) := hK ▸ pe_bm pa slot hty hm ho ha h1 h2 h3 h4 h5
end
section
variable {X : Cx} (P : Program) (w : World) (K : PySem.W.Frag)
theorem cr_setOfTK (hP : X.prog = P) (hw : X.w = w) (hK : X.K = K) (hc : X.calm = true) (hu : X.A.units + 64 < cLine) : CallR X (.type "set") (rSetOfT K P w) := by
  cases hP; cases hw; cases hK
  exact cr_setOfT hc hu
theorem cr_sortedTK (hP : X.prog = P) (hw : X.w = w) (hK : X.K = K) (hc : X.calm = true) : CallR X (.builtin "sorted") (rSortedT K P w) := by
  cases hP; cases hw; cases hK
  exact cr_sortedT hc
end

/-! the built-ins by their names -/
theorem bt_len : bootBuiltins "len" = some (.builtin "len") := by first | exact PySem.boot_len | exact PyProof.Rows.boot_len | decide +kernel
theorem bt_range : bootBuiltins "range" = some (.type "range") := by first | exact PySem.boot_range | exact PyProof.Rows.boot_range | decide +kernel
theorem bt_sorted : bootBuiltins "sorted" = some (.builtin "sorted") := by first | exact PySem.boot_sorted | exact PyProof.Rows.boot_sorted | decide +kernel
theorem bt_repr : bootBuiltins "repr" = some (.builtin "repr") := by first | exact PySem.boot_repr | exact PyProof.Rows.boot_repr | decide +kernel
theorem bt_isinstance : bootBuiltins "isinstance" = some (.builtin "isinstance") := by first | exact PySem.boot_isinstance | exact PyProof.Rows.boot_isinstance | decide +kernel
theorem bt_min : bootBuiltins "min" = some (.builtin "min") := by first | exact PySem.boot_min | exact PyProof.Rows.boot_min | decide +kernel
theorem bt_max : bootBuiltins "max" = some (.builtin "max") := by first | exact PySem.boot_max | exact PyProof.Rows.boot_max | decide +kernel
theorem bt_sum : bootBuiltins "sum" = some (.builtin "sum") := by first | exact PySem.boot_sum | exact PyProof.Rows.boot_sum | decide +kernel
theorem bt_any : bootBuiltins "any" = some (.builtin "any") := by first | exact PySem.boot_any | exact PyProof.Rows.boot_any | decide +kernel
theorem bt_all : bootBuiltins "all" = some (.builtin "all") := by first | exact PySem.boot_all | exact PyProof.Rows.boot_all | decide +kernel
theorem bt_abs : bootBuiltins "abs" = some (.builtin "abs") := by first | exact PySem.boot_abs | exact PyProof.Rows.boot_abs | decide +kernel
theorem bt_int : bootBuiltins "int" = some (.type "int") := by first | exact PySem.boot_int | exact PyProof.Rows.boot_int | decide +kernel
theorem bt_bool : bootBuiltins "bool" = some (.type "bool") := by first | exact PySem.boot_bool | exact PyProof.Rows.boot_bool | decide +kernel
theorem bt_str : bootBuiltins "str" = some (.type "str") := by first | exact PySem.boot_str | exact PyProof.Rows.boot_str | decide +kernel
theorem bt_list : bootBuiltins "list" = some (.type "list") := by first | exact PySem.boot_list | exact PyProof.Rows.boot_list | decide +kernel
theorem bt_tuple : bootBuiltins "tuple" = some (.type "tuple") := by first | exact PySem.boot_tuple | exact PyProof.Rows.boot_tuple | decide +kernel
theorem bt_set : bootBuiltins "set" = some (.type "set") := by first | exact PySem.boot_set | exact PyProof.Rows.boot_set | decide +kernel
theorem bt_dict : bootBuiltins "dict" = some (.type "dict") := by first | exact PySem.boot_dict | exact PyProof.Rows.boot_dict | decide +kernel
end UN

namespace UN
open PySem PySem.Spec PyProof.Rows L2
/-! types of values; tests that are known -/
section
variable {K : PySem.W.Frag} {H : Hp} {a : Addr} {xs : List V}
theorem tyx_int (i : Int) : TyX K H (.int i) (.type "int") := .base (.int i)
theorem tyx_bl (b : Bool) : TyX K H (.bl b) (.type "bool") := .base (.bl b)
theorem tyx_list (h : SqL K H a xs) : TyX K H (.ref a) (.type "list") := by
  rcases h with (h | ⟨o, h⟩) | ⟨o, its, n, h, c, _⟩
  · exact .base (.lst h)
  · exact .base (.frz h)
  · exact .kList h c
theorem tyx_tup (h : SqT K H a xs) : TyX K H (.ref a) (.type "tuple") := by
  rcases h with (h | ⟨o, h⟩) | ⟨o, its, n, h, c, _⟩
  · exact .base (.tup h)
  · exact .fTuple h
  · exact .kTuple h c
end
theorem kb_ii : kitB "int" "int" = some true := by decide +kernel
theorem kb_ib : kitB "int" "bool" = some false := by decide +kernel
theorem kb_bi : kitB "bool" "int" = some true := by decide +kernel
theorem kb_bb : kitB "bool" "bool" = some true := by decide +kernel
theorem kb_tt : kitB "tuple" "tuple" = some true := by decide +kernel
theorem kb_ll : kitB "list" "list" = some true := by decide +kernel
theorem iteTr {c A B : Prop} [Decidable c] (h : c) (a : A) : if c then A else B := by rw [if_pos h]; exact a
theorem iteFa {c A B : Prop} [Decidable c] (h : ¬ c) (b : B) : if c then A else B := by rw [if_neg h]; exact b
theorem iteTT {k : Bool} {A B : Prop} (h : k = true) (a : A) : if k = true then A else B := iteTr h a
theorem iteFF {k : Bool} {A B : Prop} (h : k = false) (b : B) : if k = true then A else B := iteFa (by rw [h]; decide) b
/-- isinstance of a built-in class -/
theorem isiA {K : PySem.W.Frag} {x : V} {T U : String} {b : Bool} {H : Hp} {Q : VK} (t : TyX K H x (.type T)) (k : kitB T U = some b) (q : Q (.bl b) H) : rIsi K [x, .ty U] H Q :=
  ⟨x, .ty U, .type T, .type U, b, rfl, .ty U, t, kit_ty k, q⟩
/-- an element of a list, of a tuple at a known place -/
theorem ixLA {K : PySem.W.Frag} {p : Addr} {xs : List V} {i : Int} {j : Nat} {v : V} {H : Hp} {Q : VK} (h : SqL K H p xs) (e : i = (j : Int)) (g : xs[j]? = some v) (q : Q v H) : rIxL K (.ref p) (.int i) H Q :=
  ⟨p, xs, i, v, rfl, rfl, h, at_of e g, q⟩
theorem ixTA {K : PySem.W.Frag} {p : Addr} {xs : List V} {i : Int} {j : Nat} {v : V} {H : Hp} {Q : VK} (h : SqT K H p xs) (e : i = (j : Int)) (g : xs[j]? = some v) (q : Q v H) : rIxT K (.ref p) (.int i) H Q :=
  ⟨p, xs, i, v, rfl, rfl, h, at_of e g, q⟩
theorem lenLA {K : PySem.W.Frag} {p : Addr} {xs : List V} {H : Hp} {Q : VK} (h : SqL K H p xs) (q : Q (.int xs.length) H) : rLenS K [.ref p] H Q := ⟨p, xs, rfl, .inl h, q⟩
theorem lenTA {K : PySem.W.Frag} {p : Addr} {xs : List V} {H : Hp} {Q : VK} (h : SqT K H p xs) (q : Q (.int xs.length) H) : rLenS K [.ref p] H Q := ⟨p, xs, rfl, .inr h, q⟩
end UN
namespace UN
open PySem PySem.Spec PyProof.Rows L2
theorem CalG.mono {P : Program} {w : World} {K : PySem.W.Frag} {mg : Str → Option Value} {base : Heap} {j k : Nat} {x : Str} {st : Stmt} {ps : List Str} {sp : Sp} (c : CalG P w K mg base j x st ps sp) (h : j ≤ k) : CalG P w K mg base k x st ps sp := by
  obtain ⟨f, fd, F, hm, fn⟩ := c.ex
  exact ⟨⟨f, fd, F.mono h, hm, fn⟩, c.bd⟩
end UN
namespace UN
open PySem PySem.Spec PyProof.Rows L2
/-- a loop of n turns over any iterator -/
theorem for_n {J : It} {g : TG} {tb : TS} {D : Ends} {σ : L2.St} {H : Hp} (n : Nat) (Pv : Nat → L2.St → Hp → Prop) (h0 : Pv 0 σ H)
    (go : ∀ i σ H, i < n → Pv i σ H → J.go i H ∧ ∀ x H', J.yld i H x H' → g x σ H' fun σ2 H2 => tb { D with nx := Pv (i + 1), ct := Pv (i + 1), bk := D.nx } σ2 H2)
    (fin : ∀ σ H, Pv n σ H → J.stop n H ∧ D.nx σ H) :
    ∃ W : Nat → Nat → L2.St → Hp → Prop, (∃ m, W 0 m σ H) ∧ ∀ i m σ H, W i m σ H →
      (J.stop i H ∧ D.nx σ H) ∨ (J.go i H ∧ ∃ N : L2.St → Hp → Prop, (∀ σ' H', N σ' H' → ∃ m', m' < m ∧ W (i + 1) m' σ' H') ∧ ∀ x H', J.yld i H x H' → g x σ H' fun σ2 H2 => tb { D with nx := N, ct := N, bk := D.nx } σ2 H2) := by
  refine ⟨fun i m σ H => i + m = n ∧ Pv i σ H, ⟨n, by omega, h0⟩, ?_⟩
  rintro i m σ H ⟨e, p⟩
  by_cases hi : i < n
  · obtain ⟨a, b⟩ := go i σ H hi p
    exact .inr ⟨a, Pv (i + 1), fun σ' H' q => ⟨m - 1, by omega, by omega, q⟩, b⟩
  · have e2 : i = n := by omega
    subst e2
    exact .inl (fin σ H p)
theorem lc_n {J : It} {g : TG} {tt : TT} {te : TE} {vs : List Nat} {σ : L2.St} {H1 : Hp} {D : Addr} {Qd : Hp → Prop} (n : Nat) (Pv : Nat → Hp → Prop) (h0 : Pv 0 (upd H1 D (.lst [])))
    (go : ∀ i H, i < n → Pv i H → J.go i H ∧ ∀ x H', J.yld i H x H' → g x (wipe σ vs) H' fun σ2 H2 => wipe σ2 vs = wipe σ vs ∧ tt σ2 H2 fun b H3 =>
      if b = true then te σ2 H3 fun y H4 => ∃ acc, H4 D = some (.lst acc) ∧ acc.length < sizeLine ∧ Pv (i + 1) (upd H4 D (.lst (acc ++ [y]))) else Pv (i + 1) H3)
    (fin : ∀ H, Pv n H → J.stop n H ∧ Qd H) :
    ∃ W : Nat → Nat → Hp → Prop, (∃ m, W 0 m (upd H1 D (.lst []))) ∧ ∀ i m H, W i m H →
      (J.stop i H ∧ Qd H) ∨ (J.go i H ∧ ∃ Nx : Hp → Prop, (∀ H', Nx H' → ∃ m', m' < m ∧ W (i + 1) m' H') ∧ ∀ x H', J.yld i H x H' → g x (wipe σ vs) H' fun σ2 H2 => wipe σ2 vs = wipe σ vs ∧ tt σ2 H2 fun b H3 =>
        if b = true then te σ2 H3 fun y H4 => ∃ acc, H4 D = some (.lst acc) ∧ acc.length < sizeLine ∧ Nx (upd H4 D (.lst (acc ++ [y]))) else Nx H3) := by
  refine ⟨fun i m H => i + m = n ∧ Pv i H, ⟨n, by omega, h0⟩, ?_⟩
  rintro i m H ⟨e, p⟩
  by_cases hi : i < n
  · obtain ⟨a, b⟩ := go i H hi p
    exact .inr ⟨a, Pv (i + 1), fun H' q => ⟨m - 1, by omega, by omega, q⟩, b⟩
  · have e2 : i = n := by omega
    subst e2
    exact .inl (fin H p)
/-- enumerate over a list that stays -/
theorem for_enum {K : PySem.W.Frag} {a : Addr} {xs : List V} {g : TG} {tb : TS} {D : Ends} {σ : L2.St} {H : Hp} (Pv : Nat → L2.St → Hp → Prop) (h0 : Pv 0 σ H) (hl : ∀ i σ H, Pv i σ H → SqL K H a xs)
    (hs : ∀ i x σ H T, xs[i]? = some x → Pv i σ H → H T = none → g (.ref T) σ (upd H T (.tup [.int (i : Nat), x])) fun σ2 H2 => tb { D with nx := Pv (i + 1), ct := Pv (i + 1), bk := D.nx } σ2 H2) (hd : ∀ σ H, Pv xs.length σ H → D.nx σ H) :
    ∃ W : Nat → Nat → L2.St → Hp → Prop, (∃ m, W 0 m σ H) ∧ ∀ i m σ H, W i m σ H →
      ((Ite K a).stop i H ∧ D.nx σ H) ∨ ((Ite K a).go i H ∧ ∃ N : L2.St → Hp → Prop, (∀ σ' H', N σ' H' → ∃ m', m' < m ∧ W (i + 1) m' σ' H') ∧ ∀ x H', (Ite K a).yld i H x H' → g x σ H' fun σ2 H2 => tb { D with nx := N, ct := N, bk := D.nx } σ2 H2) := by
  refine for_n xs.length Pv h0 (fun i σ H hi p => ?_) fun σ H p => ⟨⟨xs, hl _ _ _ p, Nat.le_refl _⟩, hd _ _ p⟩
  have q := hl _ _ _ p
  refine ⟨⟨xs, xs[i], q, by simp [hi]⟩, ?_⟩
  rintro x H' ⟨T, y, rfl, nT, rfl, f⟩
  exact hs i y σ H T (f xs q) p nT
end UN

namespace UN
open PySem PySem.Spec PyProof.Rows L2
/-! small data -/
structure Sm (b dep : Nat) (d : PyData) : Prop where
  lay : d.canLay0 = true
  sh : d.showable = true
  ls : d.leavesShort 13 = true
  dp : d.depth ≤ dep
  bk : d.bulk ≤ b
section
variable {b c dep e : Nat} {d : PyData} {ds : List PyData}
theorem Sm.mono (h : Sm b dep d) (h1 : b ≤ c) (h2 : dep ≤ e) : Sm c e d := ⟨h.lay, h.sh, h.ls, Nat.le_trans h.dp h2, Nat.le_trans h.bk h1⟩
theorem sm_int {i : Int} (h : i.natAbs < 10 ^ 12) : Sm 0 0 (.int i) := by
  refine ⟨rfl, decide_eq_true ?_, decide_eq_true (PyData.shown_int_le h), Nat.le_refl _, Nat.le_refl _⟩
  by_cases z : i.natAbs = 0
  · rw [z]; decide
  · exact Nat.lt_trans ((Nat.log2_lt z).mpr (Nat.lt_trans h (by decide))) (by decide : 41 < 1920)
theorem sm_bl (x : Bool) : Sm 0 0 (.bool x) := ⟨rfl, rfl, rfl, Nat.le_refl _, Nat.le_refl _⟩
theorem sm_non : Sm 0 0 .none := ⟨rfl, rfl, rfl, Nat.le_refl _, Nat.le_refl _⟩
theorem sm_all (h : ∀ d ∈ ds, Sm b dep d) : PyData.canLayAll0 ds = true ∧ PyData.showableAll ds = true ∧ PyData.leavesShortAll 13 ds = true ∧ PyData.depthAll ds ≤ dep ∧ PyData.bulkAll ds ≤ ds.length * (b + 1) := by
  induction ds with
  | nil => exact ⟨rfl, rfl, rfl, Nat.zero_le _, Nat.zero_le _⟩
  | cons x r ih =>
    obtain ⟨a1, a2, a3, a4, a5⟩ := ih fun d hd => h d (List.mem_cons_of_mem _ hd)
    obtain ⟨b1, b2, b3, b4, b5⟩ := h x List.mem_cons_self
    refine ⟨by simp [PyData.canLayAll0, a1, b1], by simp [PyData.showableAll, a2, b2], by simp [PyData.leavesShortAll, a3, b3], by simp only [PyData.depthAll]; omega, ?_⟩
    simp only [PyData.bulkAll, List.length_cons, Nat.succ_mul]
    omega
theorem sm_lst (h : ∀ d ∈ ds, Sm b dep d) : Sm (ds.length * (b + 1)) (dep + 1) (.list ds) := by
  obtain ⟨a1, a2, a3, a4, a5⟩ := sm_all h
  exact ⟨by simpa only [PyData.canLay0] using a1, by simpa only [PyData.showable] using a2, by simpa only [PyData.leavesShort] using a3, by simp only [PyData.depth]; omega, by simpa only [PyData.bulk] using a5⟩
theorem sm_tup (h : ∀ d ∈ ds, Sm b dep d) : Sm (ds.length * (b + 1)) (dep + 1) (.tuple ds) := by
  obtain ⟨a1, a2, a3, a4, a5⟩ := sm_all h
  exact ⟨by simpa only [PyData.canLay0] using a1, by simpa only [PyData.showable] using a2, by simpa only [PyData.leavesShort] using a3, by simp only [PyData.depth]; omega, by simpa only [PyData.bulk] using a5⟩
theorem Sm.list {n : Nat} (h : ∀ d ∈ ds, Sm b dep d) (l : ds.length ≤ n) : Sm (n * (b + 1)) (dep + 1) (.list ds) := (sm_lst h).mono (Nat.mul_le_mul_right _ l) (Nat.le_refl _)
theorem Sm.tuple {n : Nat} (h : ∀ d ∈ ds, Sm b dep d) (l : ds.length ≤ n) : Sm (n * (b + 1)) (dep + 1) (.tuple ds) := (sm_tup h).mono (Nat.mul_le_mul_right _ l) (Nat.le_refl _)
theorem Sm.shaped (h : Sm b dep d) (hd : dep ≤ 64) : SeqAt.shaped d = true := by
  unfold SeqAt.shaped
  rw [h.lay, decide_eq_true (Nat.le_trans h.dp hd)]
  rfl
theorem Sm.fits (h : Sm b dep d) (hb : b ≤ 2 ^ 20) : d.shown.length ≤ sizeLine := PyData.shown_fits_bulk (by decide) (by decide) h.ls (Nat.le_trans h.bk hb)
variable {K : PySem.W.Frag} {H : Hp} {x y : V} {Q : VK}
theorem reprA (r : Dp K H x d) (h : Sm b dep d) (hd : dep ≤ 60 := by decide) (hb : b ≤ 2 ^ 20 := by decide) (q : Q (.str d.shown) H) : rRepr K [x] H Q :=
  ⟨x, d, rfl, r, h.sh, PyData.hasDict_of_canLay d h.lay, Nat.le_trans h.dp hd, h.fits hb, q⟩
end
/-! data of lists -/
def dI (ns : List Int) : PyData := .list (ns.map PyData.int)
def dR (rows : List (List Int)) : PyData := .list (rows.map dI)
def dE (e : Int × Int) : PyData := .tuple [.int e.1, .int e.2]
def dP (ps : List (Int × Int)) : PyData := .list (ps.map dE)
section
variable {K : PySem.W.Frag} {H : Hp} {a : Addr}
theorem dpAll_ints : ∀ ns : List Int, DpAll K H (iv ns) (ns.map PyData.int)
  | [] => .nil
  | n :: r => .cons (.int n) (dpAll_ints r)
theorem IsInts.dp {ns : List Int} (h : IsInts K H a ns) : Dp K H (.ref a) (dI ns) := .lst h (dpAll_ints ns)
theorem dpAll_refs {α : Type} (f : α → PyData) : ∀ rs : List (Addr × α), (∀ r ∈ rs, Dp K H (.ref r.1) (f r.2)) → DpAll K H (refs rs) ((vals rs).map f)
  | [], _ => .nil
  | r :: t, h => .cons (h r List.mem_cons_self) (dpAll_refs f t fun q hq => h q (List.mem_cons_of_mem _ hq))
theorem IsRows.dp {rows : List (List Int)} (h : IsRows K H a rows) : Dp K H (.ref a) (dR rows) := by
  obtain ⟨rs, rfl, h1, h2⟩ := h
  exact .lst h1 (dpAll_refs dI rs fun r hr => IsInts.dp (h2 r hr))
theorem IsPairs.dp {ps : List (Int × Int)} (h : IsPairs K H a ps) : Dp K H (.ref a) (dP ps) := by
  obtain ⟨ts, rfl, h1, h2⟩ := h
  exact .lst h1 (dpAll_refs dE ts fun r hr => .tup (h2 r hr) (.cons (.int _) (.cons (.int _) .nil)))
theorem sm_dI {ns : List Int} {n : Nat} (h : ∀ i ∈ ns, i.natAbs < 10 ^ 12) (l : ns.length ≤ n) : Sm n 1 (dI ns) :=
  (Sm.list (b := 0) (dep := 0) (n := n) (fun d hd => by obtain ⟨i, hi, rfl⟩ := List.mem_map.mp hd; exact sm_int (h i hi)) (by rw [List.length_map]; exact l)).mono (by omega) (Nat.le_refl _)
theorem sm_dR {rows : List (List Int)} {n m : Nat} (h : ∀ r ∈ rows, r.length ≤ n ∧ ∀ i ∈ r, i.natAbs < 10 ^ 12) (l : rows.length ≤ m) : Sm (m * (n + 1)) 2 (dR rows) :=
  Sm.list (fun d hd => by obtain ⟨r, hr, rfl⟩ := List.mem_map.mp hd; exact sm_dI (h r hr).2 (h r hr).1) (by rw [List.length_map]; exact l)
theorem sm_dE {e : Int × Int} (h1 : e.1.natAbs < 10 ^ 12) (h2 : e.2.natAbs < 10 ^ 12) : Sm 2 1 (dE e) :=
  Sm.tuple (b := 0) (dep := 0) (n := 2) (fun d hd => by
    rcases List.mem_cons.mp hd with rfl | hd
    · exact sm_int h1
    · rcases List.mem_cons.mp hd with rfl | hd
      · exact sm_int h2
      · cases hd) (Nat.le_refl _)
theorem sm_dP {ps : List (Int × Int)} {m : Nat} (h : ∀ e ∈ ps, e.1.natAbs < 10 ^ 12 ∧ e.2.natAbs < 10 ^ 12) (l : ps.length ≤ m) : Sm (m * 3) 2 (dP ps) :=
  Sm.list (fun d hd => by obtain ⟨r, hr, rfl⟩ := List.mem_map.mp hd; exact sm_dE (h r hr).1 (h r hr).2) (by rw [List.length_map]; exact l)
end
/-! membership -/
theorem inV_iv (x : Int) (ns : List Int) : inV (.int x) (iv ns) = decide (x ∈ ns) := by
  unfold inV iv
  rw [List.any_map]
  induction ns with
  | nil => simp
  | cons n r ih =>
    rw [List.any_cons, ih]
    have : ((fun y => eqV y (V.int x)) ∘ V.int) n = decide (n = x) := rfl
    rw [this]
    by_cases h : x = n
    · simp [h]
    · simp [h, Ne.symm h]
theorem iv_flat (ns : List Int) : (iv ns).all flatV = true := by
  unfold iv
  rw [List.all_map, List.all_eq_true]
  intro _ _
  rfl
end UN
namespace UN
open PySem PySem.Spec PyProof.Rows L2
theorem sl1 {x : V} : [x].length ≤ sizeLine := Nat.le_of_lt (sl_line' (by simp))
theorem sl2 {x y : V} : [x, y].length ≤ sizeLine := Nat.le_of_lt (sl_line' (by simp))
theorem sl3 {x y z : V} : [x, y, z].length ≤ sizeLine := Nat.le_of_lt (sl_line' (by simp))
end UN
namespace UN
open PySem PySem.Spec PyProof.Rows L2
theorem dVI (i j : Int) : decide (V.int i = V.int j) = decide (i = j) := by simp
theorem dVS (i j : Str) : decide (V.str i = V.str j) = decide (i = j) := by simp
theorem dVB (i j : Bool) : decide (V.bl i = V.bl j) = decide (i = j) := by simp
end UN

namespace UN
open PySem PySem.Spec PyProof.Rows L2
/-! lists that are written at the end, whatever they hold -/
structure OwnR (H0 H : Hp) (L : Led) (as : List Addr) (b : Nat) : Prop where
  loc : Loc H0 H L
  rows : ∀ a ∈ as, (∀ q ∈ L, q.1 ≠ a) ∧ H0 a = none ∧ ∃ ys, H a = some (.lst ys) ∧ ys.length ≤ b
section
variable {H0 H H1 : Hp} {L : Led} {as : List Addr} {b b' : Nat} {a p : Addr} {o o' : HO}
theorem OwnR.of {rs : List (Addr × List Int)} (l : Loc H0 H (L ++ rowL rs)) (h : ∀ r ∈ rs, r.2.length ≤ b) : OwnR H0 H L (rs.map Prod.fst) b := by
  refine ⟨l.keep (List.sublist_append_left _ _), fun a ha => ?_⟩
  obtain ⟨r, hr, rfl⟩ := List.mem_map.mp ha
  have mem : ((r.1, .lst (iv r.2)) : Addr × HO) ∈ rowL rs := List.mem_map.mpr ⟨r, hr, rfl⟩
  refine ⟨fun q hq e => ?_, l.new _ (List.mem_append_right _ mem), iv r.2, l.here _ (List.mem_append_right _ mem), by rw [iv_len]; exact h r hr⟩
  have nd := l.nd
  rw [List.map_append, List.nodup_append] at nd
  exact nd.2.2 _ (List.mem_map.mpr ⟨q, hq, rfl⟩) _ (List.mem_map.mpr ⟨_, mem, rfl⟩) e
theorem OwnR.app (h : OwnR H0 H L as b) (ha : a ∈ as) {ys : List V} {x : V} (hy : H a = some (.lst ys)) (hl : ys.length ≤ b) : OwnR H0 (upd H a (.lst (ys ++ [x]))) L as (b + 1) := by
  obtain ⟨h1, h2, _⟩ := h.rows a ha
  refine ⟨⟨fun c u e => ?_, fun q hq => ?_, h.loc.new, h.loc.nd⟩, fun c hc => ?_⟩
  · rw [upd_ne (ne_of_none e h2)]; exact h.loc.same c u e
  · rw [upd_ne (h1 q hq)]; exact h.loc.here q hq
  · obtain ⟨g1, g2, ys', g3, g4⟩ := h.rows c hc
    refine ⟨g1, g2, ?_⟩
    by_cases e : c = a
    · subst e
      exact ⟨_, upd_same, by rw [List.length_append]; simp; omega⟩
    · exact ⟨ys', by rw [upd_ne e]; exact g3, by omega⟩
end
/-- two turned -/
def turn2 {α : Type} : List α → List α
  | [a, b] => [b, a]
  | l => l
theorem turn2_vals {zs : List V} {ws : List Value} (h : Vals zs ws) : Vals (turn2 zs) (turn2 ws) := by
  cases h with
  | nil => exact .nil
  | cons h1 h2 =>
    cases h2 with
    | nil => exact .cons h1 .nil
    | cons h3 h4 =>
      cases h4 with
      | nil => exact .cons h3 (.cons h1 .nil)
      | cons h5 h6 => exact .cons h1 (.cons h3 (.cons h5 h6))
theorem two_of {α : Type} {l : List α} (h : l.length = 2) : ∃ a b, l = [a, b] := by
  match l, h with
  | [a, b], _ => exact ⟨a, b, rfl⟩
section
variable {K : PySem.W.Frag} {H : Hp} {a e : Addr} {x y : V} {d d' : PyData} {b c dep dep' : Nat}
theorem dp_two (h : SqL K H e [x, y]) (hx : Dp K H x d) (hy : Dp K H y d') : Dp K H (.ref e) (.list [d, d']) := .lst h (.cons hx (.cons hy .nil))
theorem sm_two (h : Sm b dep d) (h' : Sm b dep d') : Sm (2 * (b + 1)) (dep + 1) (.list [d, d']) := Sm.list (fun z hz => by
  rcases List.mem_cons.mp hz with rfl | hz
  · exact h
  · rcases List.mem_cons.mp hz with rfl | hz
    · exact h'
    · cases hz) (Nat.le_refl _)
end
/-- what repr asks of small data, and what goes on -/
theorem smQ {b dep : Nat} {d : PyData} {R : Prop} (h : Sm b dep d) (hd : dep ≤ 60) (hb : b ≤ 2 ^ 20) (q : R) : d.showable = true ∧ d.hasDict = false ∧ d.depth ≤ 60 ∧ d.shown.length ≤ sizeLine ∧ R :=
  ⟨h.sh, PyData.hasDict_of_canLay d h.lay, Nat.le_trans h.dp hd, h.fits hb, q⟩
theorem cut_to {xs : List V} {k : Nat} : cutV xs none (some (k : Int)) = xs.take k := by
  have e1 : HT.sIx xs.length 0 none = 0 := rfl
  have e2 : HT.sIx xs.length xs.length (some (k : Int)) = min k xs.length := HT.sIx_nat _ _ _
  unfold cutV
  rw [e1, e2, List.drop_zero, Nat.sub_zero]
  by_cases h : k ≤ xs.length
  · rw [Nat.min_eq_left h]
  · rw [Nat.min_eq_right (by omega), List.take_length, List.take_of_length_le (by omega)]
/-! list.count of flat values -/
theorem cnt_eqU {x : V} : ∀ {xs : List V} {us : List Value}, Vals xs us → xs.all flatV = true → us.countP (eqU x) = xs.countP fun y => eqV y x
  | _, _, .nil, _ => rfl
  | y :: xs, u :: us, .cons r t, f => by
    rw [List.all_cons, Bool.and_eq_true] at f
    rw [List.countP_cons, List.countP_cons, eqU_of r f.1, cnt_eqU t f.2]
def rCntV (K : PySem.W.Frag) : V → List V → Hp → VK → Prop := fun x xs H Q => ∃ (p : Addr) (y : V) (ys : List V), x = .ref p ∧ xs = [y] ∧ SqL K H p ys ∧ flatV y = true ∧ ys.all flatV = true ∧ Q (.int (ys.countP fun z => eqV z y : Nat)) H
theorem mt_lcountV {X : Cx} (K : PySem.W.Frag) (hK : X.K = K) : MtR X "list.count" (rCntV K) := by
  cases hK
  intro pins s σ H x xs v us Q J rx rxs h
  obtain ⟨p, y, ys, rfl, rfl, hs, fy, fys, q⟩ := h
  cases rx
  obtain ⟨u, rfl, ru⟩ := rxs.one
  obtain ⟨its, rv, ⟨⟨cls, dd, data, sl⟩, n, ho, hc, hdn, hd⟩, hlen⟩ := J.list hs
  simp only at hc hd
  subst hc hd
  refine call_meets PySem.F.slot_list_count ⟨_, ho, rfl⟩ PySem.F.entry_list_count (PySem.F.args_list_count_2 _ _)
    (SeqAt.list_countAt p its.toArray n dd sl u (eqU y)) ⟨ho, fun z hz => mem_eqAt ru fy rv fys z (by simpa using hz), ?_⟩
  have ec : its.toArray.toList.countP (eqU y) = ys.countP fun z => eqV z y := cnt_eqU rv fys
  refine ⟨.int (ys.countP fun z => eqV z y : Nat), H, J.tok _, ⟨s.toks, ?_⟩, q⟩
  show Value.int ((its.toArray.toList.countP (eqU y) : Nat) : Int) s.toks = _
  rw [ec]
end UN

namespace UN
open PySem PySem.Spec PyProof.Rows L2
section
variable {H0 H : Hp} {A B : Led} {a : Addr} {o o' : HO}
theorem Loc.mid (l : Loc H0 H (A ++ (a, o) :: B)) : Loc H0 (upd H a o') (A ++ (a, o') :: B) :=
  ((l.perm (M := (a, o) :: (A ++ B)) List.perm_middle.symm).put0 (o' := o')).perm List.perm_middle
/-- a row in a ledger's tail grows -/
theorem Loc.rowGrowP {rs : List (Addr × List Int)} {k : Nat} {row : List Int} {z : Int} {r : Addr} (l : Loc H0 H (A ++ rowL rs)) (h : rs[k]? = some (r, row)) :
    Loc H0 (upd H r (.lst (iv row ++ [.int z]))) (A ++ rowL (rs.set k (r, row ++ [z]))) := by
  have hk : k < (rowL rs).length := by unfold rowL; rw [List.length_map]; exact (List.getElem?_eq_some_iff.mp h).1
  have l2 := l.setIx (i := A.length + k) (a := r) (o := .lst (iv row)) (o' := .lst (iv row ++ [.int z])) (by
    rw [List.getElem?_append_right (by omega), Nat.add_sub_cancel_left]; exact rowL_get h)
  rw [List.set_append_right _ _ (by omega), Nat.add_sub_cancel_left, ← iv_snoc, ← rowL_set] at l2
  rw [← iv_snoc]
  exact l2
theorem Loc.rowAt {rs : List (Addr × List Int)} {k : Nat} {row : List Int} {r : Addr} (l : Loc H0 H (A ++ rowL rs)) (h : rs[k]? = some (r, row)) : H r = some (.lst (iv row)) :=
  l.here (r, .lst (iv row)) (List.mem_append_right _ (List.mem_of_getElem? (rowL_get h)))
end
theorem at_lastI {w : List Int} (h : w ≠ []) : atI (iv w) (-1) = some (.int (w.getLastD 0)) := by
  have e : iv w = iv w.dropLast ++ [.int (w.getLastD 0)] := by
    have e1 : w = w.dropLast ++ [w.getLastD 0] := by
      rw [List.getLastD_eq_getLast?, List.getLast?_eq_getLast h]
      exact (List.dropLast_concat_getLast h).symm
    calc iv w = iv (w.dropLast ++ [w.getLastD 0]) := by rw [← e1]
      _ = _ := iv_snoc _ _
  rw [e]
  exact atI_last _ _
theorem ixI {n : Nat} {k : Int} (h0 : 0 ≤ k) (h : k.toNat < n) : ixN n k = some k.toNat := by
  unfold ixN
  rw [if_pos h0, if_pos (by omega)]
/-- rows with a None behind, up to the place i -/
def rowN (i : Nat) (rs : List (Addr × List Int)) : Led := (rs.take i).map (fun q => (q.1, HO.lst (iv q.2 ++ [.non]))) ++ rowL (rs.drop i)
theorem rowN_zero (rs : List (Addr × List Int)) : rowN 0 rs = rowL rs := rfl
theorem Loc.rowNon {H0 H : Hp} {A : Led} {rs : List (Addr × List Int)} {i : Nat} {r : Addr} {row : List Int} (l : Loc H0 H (A ++ rowN i rs)) (h : rs[i]? = some (r, row)) :
    H r = some (.lst (iv row)) ∧ Loc H0 (upd H r (.lst (iv row ++ [.non]))) (A ++ rowN (i + 1) rs) := by
  obtain ⟨hi, e⟩ := List.getElem?_eq_some_iff.mp h
  have ed : rs.drop i = (r, row) :: rs.drop (i + 1) := by rw [List.drop_eq_getElem_cons hi, e]
  have et : rs.take (i + 1) = rs.take i ++ [(r, row)] := by rw [List.take_add_one, h]; rfl
  have e1 : A ++ rowN i rs = (A ++ (rs.take i).map (fun q => (q.1, HO.lst (iv q.2 ++ [.non])))) ++ (r, .lst (iv row)) :: rowL (rs.drop (i + 1)) := by
    unfold rowN
    rw [ed, List.append_assoc]
    rfl
  have e2 : A ++ rowN (i + 1) rs = (A ++ (rs.take i).map (fun q => (q.1, HO.lst (iv q.2 ++ [.non])))) ++ (r, .lst (iv row ++ [.non])) :: rowL (rs.drop (i + 1)) := by
    unfold rowN
    rw [et, List.map_append, List.append_assoc, List.append_assoc]
    rfl
  rw [e1] at l
  refine ⟨l.here (r, .lst (iv row)) (List.mem_append_right _ List.mem_cons_self), ?_⟩
  rw [e2]
  exact l.mid
theorem rowN_at {H0 H : Hp} {A : Led} {rs : List (Addr × List Int)} {q : Addr × List Int} (l : Loc H0 H (A ++ rowN rs.length rs)) (h : q ∈ rs) : H q.1 = some (.lst (iv q.2 ++ [.non])) := by
  refine l.here (q.1, .lst (iv q.2 ++ [.non])) (List.mem_append_right _ (List.mem_append_left _ (List.mem_map.mpr ⟨q, ?_, rfl⟩)))
  rw [List.take_length]
  exact h
theorem cnt_non (ns : List Int) : (iv ns ++ [V.non]).countP (fun z => eqV z .non) = 1 := by
  rw [List.countP_append]
  have : (iv ns).countP (fun z => eqV z .non) = 0 := by
    unfold iv
    rw [List.countP_map, List.countP_eq_zero]
    intro n _
    simp [Function.comp, eqV]
  rw [this]
  rfl
theorem flat_non (ns : List Int) : (iv ns ++ [V.non]).all flatV = true := by
  rw [List.all_append, iv_flat]
  rfl
/-! data of pairs -/
theorem shaped_dP (ps : List (Int × Int)) : SeqAt.shaped (dP ps) = true := by
  have h1 : ∀ ns : List (Int × Int), PyData.canLayAll0 (ns.map dE) = true := fun ns => by
    induction ns with
    | nil => rfl
    | cons n r ih => simp [PyData.canLayAll0, PyData.canLay0, dE, ih]
  have h2 : ∀ ns : List (Int × Int), PyData.depthAll (ns.map dE) ≤ 1 := fun ns => by
    induction ns with
    | nil => exact Nat.zero_le _
    | cons n r ih => simp [PyData.depthAll, PyData.depth, dE]; omega
  unfold SeqAt.shaped dP
  have := h2 ps
  simp [PyData.canLay0, PyData.depth, h1]
  omega
theorem shaped_dE (e : Int × Int) : SeqAt.shaped (dE e) = true := by
  unfold SeqAt.shaped dE
  simp [PyData.canLay0, PyData.canLayAll0, PyData.depth, PyData.depthAll]
theorem eqv_dE (e f : Int × Int) : PyData.eqv (dE e) (dE f) = decide (e = f) := by
  obtain ⟨a, b⟩ := e
  obtain ⟨c, d⟩ := f
  simp [dE, PyData.eqv, PyData.eqvAll, Prod.ext_iff]
  rfl
theorem eqv_dP_nil (ps : List (Int × Int)) : PyData.eqv (dP ps) (dP []) = decide (ps = []) := by
  cases ps with
  | nil => simp [dP, PyData.eqv, PyData.eqvAll]
  | cons n r => simp [dP, PyData.eqv, PyData.eqvAll]
theorem any_dE (e : Int × Int) (ps : List (Int × Int)) : ((ps.map dE).any fun z => PyData.eqv z (dE e)) = decide (e ∈ ps) := by
  rw [List.any_map]
  induction ps with
  | nil => simp
  | cons f r ih =>
    rw [List.any_cons, ih]
    have : ((fun z => PyData.eqv z (dE e)) ∘ dE) f = decide (f = e) := eqv_dE f e
    rw [this]
    by_cases h : e = f
    · simp [h]
    · simp [h, Ne.symm h]
theorem IsPairs.cut {K : PySem.W.Frag} {H : Hp} {a p : Addr} {ps : List (Int × Int)} (h : IsPairs K H a ps) (i : Nat) : ∃ xs, SqL K H a xs ∧ xs.length = ps.length ∧ ∀ H', Same H H' → SqL K H' p (xs.take i) → IsPairs K H' p (ps.take i) := by
  obtain ⟨ts, rfl, h1, h2⟩ := h
  refine ⟨refs ts, h1, by rw [refs_len, vals_len], fun H' sm hs => ⟨ts.take i, List.map_take, ?_, fun t ht => Same.sqT sm (h2 t (List.mem_of_mem_take ht))⟩⟩
  have e : (refs ts).take i = refs (ts.take i) := List.map_take.symm
  rw [← e]
  exact hs
theorem shaped_dI (ns : List Int) : SeqAt.shaped (dI ns) = true := by
  have h1 : ∀ ns : List Int, PyData.canLayAll0 (ns.map PyData.int) = true := fun ns => by
    induction ns with
    | nil => rfl
    | cons n r ih => simp [PyData.canLayAll0, PyData.canLay0, ih]
  have h2 : ∀ ns : List Int, PyData.depthAll (ns.map PyData.int) = 0 := fun ns => by
    induction ns with
    | nil => rfl
    | cons n r ih => simp [PyData.depthAll, PyData.depth, ih]
  unfold SeqAt.shaped dI
  simp [PyData.canLay0, PyData.depth, h1, h2]
theorem eqv_dI_nil (ns : List Int) : PyData.eqv (dI ns) (dI []) = decide (ns = []) := by
  cases ns with
  | nil => simp [dI, PyData.eqv, PyData.eqvAll]
  | cons n r => simp [dI, PyData.eqv, PyData.eqvAll]
section
variable {K : PySem.W.Frag} {H : Hp} {e : Addr} {x y z : V} {d d' d'' : PyData} {b dep : Nat}
theorem dp_three (h : SqL K H e [x, y, z]) (hx : Dp K H x d) (hy : Dp K H y d') (hz : Dp K H z d'') : Dp K H (.ref e) (.list [d, d', d'']) := .lst h (.cons hx (.cons hy (.cons hz .nil)))
theorem sm_three (h : Sm b dep d) (h' : Sm b dep d') (h'' : Sm b dep d'') : Sm (3 * (b + 1)) (dep + 1) (.list [d, d', d'']) := Sm.list (fun z hz => by
  rcases List.mem_cons.mp hz with rfl | hz
  · exact h
  · rcases List.mem_cons.mp hz with rfl | hz
    · exact h'
    · rcases List.mem_cons.mp hz with rfl | hz
      · exact h''
      · cases hz) (Nat.le_refl _)
end
theorem refs_app {α : Type} (a b : List (Addr × α)) : refs (a ++ b) = refs a ++ refs b := List.map_append ..
theorem rowL_app (a b : List (Addr × List Int)) : rowL (a ++ b) = rowL a ++ rowL b := List.map_append ..
end UN

namespace UN
open PySem PySem.Spec PyProof.Rows L2
theorem lay_dI (ns : List Int) : (dI ns).canLay0 = true ∧ (dI ns).depth ≤ 1 := by
  have h := shaped_dI ns
  unfold SeqAt.shaped at h
  rw [Bool.and_eq_true] at h
  refine ⟨h.1, ?_⟩
  have h2 : ∀ ns : List Int, PyData.depthAll (ns.map PyData.int) = 0 := fun ns => by
    induction ns with
    | nil => rfl
    | cons n r ih => simp [PyData.depthAll, PyData.depth, ih]
  unfold dI
  simp only [PyData.depth, h2]
  omega
theorem shaped_dR (rs : List (List Int)) : SeqAt.shaped (dR rs) = true := by
  have h1 : ∀ ns : List (List Int), PyData.canLayAll0 (ns.map dI) = true := fun ns => by
    induction ns with
    | nil => rfl
    | cons n r ih => simp [PyData.canLayAll0, (lay_dI n).1, ih]
  have h2 : ∀ ns : List (List Int), PyData.depthAll (ns.map dI) ≤ 1 := fun ns => by
    induction ns with
    | nil => exact Nat.zero_le _
    | cons n r ih =>
      have := (lay_dI n).2
      simp only [List.map_cons, PyData.depthAll]
      omega
  unfold SeqAt.shaped dR
  have := h2 rs
  simp [PyData.canLay0, PyData.depth, h1]
  omega
theorem eqvAll_ints : ∀ a b : List Int, PyData.eqvAll (a.map PyData.int) (b.map PyData.int) = decide (a = b)
  | [], [] => by simp [PyData.eqvAll]
  | [], _ :: _ => by simp [PyData.eqvAll]
  | _ :: _, [] => by simp [PyData.eqvAll]
  | x :: a, y :: b => by
    have ih := eqvAll_ints a b
    have e : PyData.eqvAll ((x :: a).map PyData.int) ((y :: b).map PyData.int) = (PyData.eqv (.int x) (.int y) && PyData.eqvAll (a.map PyData.int) (b.map PyData.int)) := by simp [PyData.eqvAll]
    have e2 : PyData.eqv (.int x) (.int y) = decide (x = y) := by simp [PyData.eqv]; rfl
    rw [e, e2, ih]
    simp [List.cons.injEq]
theorem eqv_dI (a b : List Int) : PyData.eqv (dI a) (dI b) = decide (a = b) := by
  have : PyData.eqv (dI a) (dI b) = PyData.eqvAll (a.map PyData.int) (b.map PyData.int) := by simp [dI, PyData.eqv]
  rw [this, eqvAll_ints]
theorem eqvAll_rows : ∀ a b : List (List Int), PyData.eqvAll (a.map dI) (b.map dI) = decide (a = b)
  | [], [] => by simp [PyData.eqvAll]
  | [], _ :: _ => by simp [PyData.eqvAll]
  | _ :: _, [] => by simp [PyData.eqvAll]
  | x :: a, y :: b => by
    have ih := eqvAll_rows a b
    have e : PyData.eqvAll ((x :: a).map dI) ((y :: b).map dI) = (PyData.eqv (dI x) (dI y) && PyData.eqvAll (a.map dI) (b.map dI)) := by simp [PyData.eqvAll]
    rw [e, eqv_dI, ih]
    simp [List.cons.injEq]
theorem eqv_dR (a b : List (List Int)) : PyData.eqv (dR a) (dR b) = decide (a = b) := by
  have : PyData.eqv (dR a) (dR b) = PyData.eqvAll (a.map dI) (b.map dI) := by simp [dR, PyData.eqv]
  rw [this, eqvAll_rows]
theorem cut_from {xs : List V} {k : Nat} : cutV xs (some (k : Int)) none = xs.drop k := by
  have e1 : HT.sIx xs.length xs.length none = xs.length := rfl
  have e2 : HT.sIx xs.length 0 (some (k : Int)) = min k xs.length := HT.sIx_nat _ _ _
  unfold cutV
  rw [e1, e2]
  by_cases h : k ≤ xs.length
  · rw [Nat.min_eq_left h, List.take_of_length_le (by rw [List.length_drop]; omega)]
  · rw [Nat.min_eq_right (by omega), List.drop_of_length_le (Nat.le_refl _), List.drop_of_length_le (by omega), List.take_nil]
theorem cut_last {xs : List V} : cutV xs none (some (-1)) = xs.dropLast := by
  have e1 : HT.sIx xs.length 0 none = 0 := rfl
  have e2 : HT.sIx xs.length xs.length (some (-1)) = xs.length - 1 := by
    show (if (-1 : Int) < 0 then ((-1 : Int) + (xs.length : Int)).toNat else min (-1 : Int).toNat xs.length) = _
    rw [if_pos (by decide)]
    omega
  unfold cutV
  rw [e1, e2, List.drop_zero, Nat.sub_zero, List.dropLast_eq_take]
/-- three turned -/
def turn3 {α : Type} : List α → List α
  | [a, b, c] => [c, b, a]
  | l => l
theorem turn3_vals {zs : List V} {ws : List Value} (h : Vals zs ws) : Vals (turn3 zs) (turn3 ws) := by
  cases h with
  | nil => exact .nil
  | cons h1 h2 =>
    cases h2 with
    | nil => exact .cons h1 .nil
    | cons h3 h4 =>
      cases h4 with
      | nil => exact .cons h1 (.cons h3 .nil)
      | cons h5 h6 =>
        cases h6 with
        | nil => exact .cons h5 (.cons h3 (.cons h1 .nil))
        | cons h7 h8 => exact .cons h1 (.cons h3 (.cons h5 (.cons h7 h8)))
end UN

namespace UN
open PySem PySem.Spec PyProof.Rows L2
def topS (i : Nat) : Stmt := PySem.Challenge.pw_unnoted_k14_whole_meetings_backward.main.body.getD i (.Pass ⟨0, 0, 0, 0⟩)
/-- the neighbours of a cell in the order of a log -/
def nbraw (web : List (Int × Int)) (k : Int) : List Int := web.flatMap fun e => (if e.1 = k then [e.2] else []) ++ (if e.2 = k then [e.1] else [])
def nbrows (n : Nat) (web : List (Int × Int)) : List (List Int) := (List.range (n + 1)).map fun (k : Nat) => nbraw web k
def nbs (n : Nat) (web : List (Int × Int)) : List (List Int) := (nbrows n web).map srt
def ValidL (n : Nat) (web : List (Int × Int)) : Prop := ∀ e ∈ web, 1 ≤ e.1 ∧ e.1 < e.2 ∧ e.2 ≤ n
theorem take_snoc {α : Type} {l : List α} {i : Nat} {x : α} (h : l[i]? = some x) : l.take (i + 1) = l.take i ++ [x] := by
  rw [List.take_add_one, h]; rfl
theorem nbrows_len (n : Nat) (web : List (Int × Int)) : (nbrows n web).length = n + 1 := by simp [nbrows]
theorem nbrows_get (n : Nat) (web : List (Int × Int)) (k : Nat) (hk : k ≤ n) : (nbrows n web)[k]? = some (nbraw web k) := by
  unfold nbrows
  rw [List.getElem?_map, List.getElem?_range (by omega)]
  rfl
/-- one exchange more -/
theorem nbrows_snoc {n : Nat} {web : List (Int × Int)} {a b : Nat} (ha : a ≤ n) (hb : b ≤ n) (ne : a ≠ b) :
    nbrows n (web ++ [((a : Int), (b : Int))]) = ((nbrows n web).set a (nbraw web a ++ [(b : Int)])).set b (nbraw web b ++ [(a : Int)]) := by
  refine List.ext_getElem? fun j => ?_
  by_cases hj : j ≤ n
  · rw [nbrows_get _ _ _ hj, List.getElem?_set, List.getElem?_set]
    have e : nbraw (web ++ [((a : Int), (b : Int))]) j = nbraw web j ++ ((if a = j then [(b : Int)] else []) ++ (if b = j then [(a : Int)] else [])) := by
      unfold nbraw
      rw [List.flatMap_append]
      simp [Int.ofNat_inj]
    rw [e]
    simp only [List.length_set, nbrows_len]
    by_cases h1 : b = j
    · subst h1
      have h2 : b < n + 1 := by omega
      simp [h2, ne]
    · by_cases h2 : a = j
      · subst h2
        have h3 : a < n + 1 := by omega
        simp [h1, h3]
      · rw [if_neg h1, if_neg h2, nbrows_get _ _ _ hj]
        simp [h1, h2]
  · rw [List.getElem?_eq_none (by rw [nbrows_len]; omega), List.getElem?_eq_none (by rw [List.length_set, List.length_set, nbrows_len]; omega)]
theorem nbraw_len (web : List (Int × Int)) (k : Int) : (nbraw web k).length ≤ 2 * web.length := by
  induction web with
  | nil => exact Nat.le_refl _
  | cons e r ih =>
    have : nbraw (e :: r) k = ((if e.1 = k then [e.2] else []) ++ (if e.2 = k then [e.1] else [])) ++ nbraw r k := rfl
    rw [this, List.length_append, List.length_append, List.length_cons]
    have h1 : (if e.1 = k then [e.2] else []).length ≤ 1 := by split <;> simp
    have h2 : (if e.2 = k then [e.1] else []).length ≤ 1 := by split <;> simp
    omega
/-- a web: exchanges, ascending -/
def ltP (p q : Int × Int) : Prop := p.1 < q.1 ∨ (p.1 = q.1 ∧ p.2 < q.2)
def ValidW (n : Nat) (web : List (Int × Int)) : Prop := ValidL n web ∧ web.Pairwise ltP

abbrev s_is_whole : Stmt := topS 6
theorem sc_is_whole : FnScope ["thing"] ["thing"] (defScope s_is_whole) := ⟨rfl, rfl, rfl, by decide +kernel, rfl, by decide +kernel, by decide +kernel⟩
abbrev s_check_cells : Stmt := topS 7
theorem sc_check_cells : FnScope ["cells"] ["cells"] (defScope s_check_cells) := ⟨rfl, rfl, rfl, by decide +kernel, rfl, by decide +kernel, by decide +kernel⟩
abbrev s_is_exchange : Stmt := topS 8
theorem sc_is_exchange : FnScope ["thing", "cells"] ["thing", "cells"] (defScope s_is_exchange) := ⟨rfl, rfl, rfl, by decide +kernel, rfl, by decide +kernel, by decide +kernel⟩
section
variable {P : Program} {w : World} {K : PySem.W.Frag} {mg : Str → Option Value} {base : Heap}
def sp_is_whole (K : PySem.W.Frag) : Sp := fun vs H Q _ => ∃ (x : V) (T : String) (b1 b2 : Bool), vs = [x] ∧ TyX K H x (.type T) ∧ kitB T "int" = some b1 ∧ kitB T "bool" = some b2 ∧ Q (.bl (b1 && !b2)) H
theorem ok_is_whole {f : Addr} {fd : FuncData} {k : Nat} (F : Fun K "is_whole" "is_whole" s_is_whole f fd) (z_int : mg "int" = none) (z_isinstance : mg "isinstance" = none) (z_bool : mg "bool" = none) : FG P w K mg base CX0 (k + 1) f fd ["thing"] (sp_is_whole K) := by
  refine fg_fun F sc_is_whole (fun vs H Q E h => ?_) (fun cdv A out s H vs Q E hr hg h => ?_)
  · obtain ⟨x, _, _, _, rfl, _⟩ := h
    rfl
  · obtain ⟨x, T, b1, b2, rfl, ty, k1, k2, q⟩ := h
    refine ⟨_, (pss_one (ps_ret (pe_and (pe_callB (call_isiK2 K rfl) (by rfl) z_isinstance bt_isinstance (pa_cons (pv 0) (pa_cons (pe_bltn (v := .ty "int") (by rfl) z_int bt_int rfl) pa_nil))) (pe_one (pe_not (pe_callB (call_isiK2 K rfl) (by rfl) z_isinstance bt_isinstance (pa_cons (pv 0) (pa_cons (pe_bltn (v := .ty "bool") (by rfl) z_bool bt_bool rfl) pa_nil)))))))), ?_⟩
    refine ⟨_, rfl, ⟨_, _, _, _, _, rfl, .ty _, ty, kit_ty k1, _, rfl, ?_⟩⟩
    cases b1 with
    | true => exact iteT ⟨_, rfl, ⟨_, _, _, _, _, rfl, .ty _, ty, kit_ty k2, _, rfl, q⟩⟩
    | false => exact iteF q
def sp_check_cells : Sp := fun vs H Q _ => ∃ n : Int, vs = [.int n] ∧ 1 ≤ n ∧ n ≤ 16 ∧ Q .non H
theorem ok_check_cells {f : Addr} {fd : FuncData} {k : Nat} (F : Fun K "check_cells" "check_cells" s_check_cells f fd) (c_is_whole : CalG P w K mg base k "is_whole" s_is_whole ["thing"] (sp_is_whole K)) (g_MOST_CELLS : ∃ t, mg "MOST_CELLS" = some (.int 16 t)) :
    FG P w K mg base CX0 (k + 1) f fd ["cells"] sp_check_cells := by
  obtain ⟨tM, g_MOST_CELLS⟩ := g_MOST_CELLS
  refine fg_fun F sc_check_cells (fun vs H Q E h => ?_) (fun cdv A out s H vs Q E hr hg h => ?_)
  · obtain ⟨x, rfl, _⟩ := h
    rfl
  · obtain ⟨n, rfl, h1, h2, q⟩ := h
    refine ⟨_, (pss_one (ps_if (PW.pt (pw_or (pt_not (pt_val (pe_cG c_is_whole hr (by omega) hg (by rfl) (pa_cons (pv 0) pa_nil)))) (pw_or1 (pt_not (pt_chain op_le op_le pe_int (pv 0) (pe_glob (v := .int 16) (by rfl) g_MOST_CELLS ⟨_, rfl⟩))))))
        (pss_one ps_never)
        pss_nil)), ?_⟩
    refine ⟨_, rfl, _, "int", _, _, rfl, tyx_int n, kb_ii, kb_ib, _, rfl, iteF ⟨_, rfl, _, _, rfl, rfl, _, rfl, ?_⟩⟩
    refine iteTr (decide_eq_true h1) ⟨_, _, rfl, rfl, _, rfl, ?_⟩
    exact iteFa (by simp [h2]) q
/-- of pairs alone -/
def sp_is_exchange (K : PySem.W.Frag) : Sp := fun vs H Q _ => ∃ (a : Addr) (x y n : Int), vs = [.ref a, .int n] ∧ SqT K H a [.int x, .int y] ∧ Q (.bl (decide (1 ≤ x ∧ x < y ∧ y ≤ n))) H
theorem ok_is_exchange {f : Addr} {fd : FuncData} {k : Nat} (F : Fun K "is_exchange" "is_exchange" s_is_exchange f fd) (z_tuple : mg "tuple" = none) (z_isinstance : mg "isinstance" = none) (z_len : mg "len" = none) (c_is_whole : CalG P w K mg base k "is_whole" s_is_whole ["thing"] (sp_is_whole K)) :
    FG P w K mg base CX0 (k + 1) f fd ["thing", "cells"] (sp_is_exchange K) := by
  refine fg_fun F sc_is_exchange (fun vs H Q E h => ?_) (fun cdv A out s H vs Q E hr hg h => ?_)
  · obtain ⟨_, _, _, _, rfl, _⟩ := h
    rfl
  · obtain ⟨a, x, y, n, rfl, ht, q⟩ := h
    refine ⟨_, (pss_cons (ps_if (PW.pt (pw_or (pt_not (pt_val (pe_callB (call_isiK2 K rfl) (by rfl) z_isinstance bt_isinstance (pa_cons (pv 0) (pa_cons (pe_bltn (v := .ty "tuple") (by rfl) z_tuple bt_tuple rfl) pa_nil))))) (pw_or1 (pt_cmpR op_ne (pe_callB (call_len_seqK K rfl) (by rfl) z_len bt_len (pa_cons (pv 0) pa_nil)) pe_int (nomark _)))))
        (pss_one (ps_ret pe_bl))
        pss_nil)
      (pss_one (ps_ret (pe_and (pe_cG c_is_whole hr (by omega) hg (by rfl) (pa_cons (pe_ix (ix_tupK K rfl) (pv 0) pe_int (fun _ _ => rfl)) pa_nil)) (pe_and (pe_cG c_is_whole hr (by omega) hg (by rfl) (pa_cons (pe_ix (ix_tupK K rfl) (pv 0) pe_int (fun _ _ => rfl)) pa_nil)) (pe_one (pe_chain3 op_le op_lt op_le pe_int (pe_ix (ix_tupK K rfl) (pv 0) pe_int (fun _ _ => rfl)) (pe_ix (ix_tupK K rfl) (pv 0) pe_int (fun _ _ => rfl)) (pv 1)))))))), ?_⟩
    refine ⟨_, rfl, ⟨_, _, _, _, _, rfl, .ty _, tyx_tup ht, kit_ty kb_tt, _, rfl, iteF ⟨_, rfl, ⟨_, _, rfl, .inr ht, rfl, _, rfl, iteF ?_⟩⟩⟩⟩
    refine ⟨_, rfl, ⟨_, _, _, _, rfl, rfl, ht, at_of (j := 0) rfl rfl, _, "int", _, _, rfl, tyx_int x, kb_ii, kb_ib, _, rfl, iteT ?_⟩⟩
    refine ⟨_, rfl, ⟨_, _, _, _, rfl, rfl, ht, at_of (j := 1) rfl rfl, _, "int", _, _, rfl, tyx_int y, kb_ii, kb_ib, _, rfl, iteT ?_⟩⟩
    refine ⟨_, rfl, ⟨_, _, _, _, rfl, rfl, ht, at_of (j := 0) rfl rfl, _, _, rfl, rfl, _, rfl, ite2 (fun h1 => ?_) (fun h1 => ?_)⟩⟩
    · have h1' := of_decide_eq_true h1
      refine ⟨_, rfl, ⟨_, _, _, _, rfl, rfl, ht, at_of (j := 1) rfl rfl, _, _, rfl, rfl, _, rfl, ite2 (fun h2 => ?_) (fun h2 => ?_)⟩⟩
      · have h2' := of_decide_eq_true h2
        refine ⟨_, rfl, _, _, rfl, rfl, ?_⟩
        have e : decide (1 ≤ x ∧ x < y ∧ y ≤ n) = decide (y ≤ n) := by simp [h1', h2']
        rw [e] at q
        exact q
      · have h2' : ¬ x < y := fun z => h2 (decide_eq_true z)
        have e : decide (1 ≤ x ∧ x < y ∧ y ≤ n) = false := by simp [h2']
        rw [e] at q
        exact q
    · have h1' : ¬ 1 ≤ x := fun z => h1 (decide_eq_true z)
      have e : decide (1 ≤ x ∧ x < y ∧ y ≤ n) = false := by simp [h1']
      rw [e] at q
      exact q
end

abbrev s_check_log : Stmt := topS 15
theorem sc_check_log : FnScope ["cells", "log", "index", "exchange"] ["cells", "log"] (defScope s_check_log) := ⟨rfl, rfl, rfl, by decide +kernel, rfl, by decide +kernel, by decide +kernel⟩
section
variable {P : Program} {w : World} {K : PySem.W.Frag} {mg : Str → Option Value} {base : Heap}
/-- right logs -/
def sp_check_log (K : PySem.W.Frag) : Sp := fun vs H Q _ => ∃ (n : Nat) (a : Addr) (log : List (Int × Int)), vs = [.int n, .ref a] ∧ 1 ≤ n ∧ n ≤ 16 ∧ ValidL n log ∧ log.Nodup ∧ IsPairs K H a log ∧ ∀ H', Same H H' → Q .non H'
theorem ok_check_log {f : Addr} {fd : FuncData} {k : Nat} (F : Fun K "check_log" "check_log" s_check_log f fd) (z_list : mg "list" = none) (z_isinstance : mg "isinstance" = none) (z_enumerate : mg "enumerate" = none)
    (c_check_cells : CalG P w K mg base k "check_cells" s_check_cells ["cells"] sp_check_cells) (c_is_exchange : CalG P w K mg base k "is_exchange" s_is_exchange ["thing", "cells"] (sp_is_exchange K)) :
    FG P w K mg base CX0 (k + 1) f fd ["cells", "log"] (sp_check_log K) := by
  refine fg_fun F sc_check_log (fun vs H Q E h => ?_) (fun cdv A out s H vs Q E hr hg h => ?_)
  · obtain ⟨_, _, _, rfl, _⟩ := h
    rfl
  · obtain ⟨n, a, log, rfl, h1, h2, hv, hnd, hp, q⟩ := h
    have hu65 : (A.deeper (envOfC "check_log" (defScope s_check_log) s.heap.objs.size f cdv)).units + 65 < cLine := by have := hr.un; omega
    refine ⟨_, (pss_cons (ps_expr (pe_cG c_check_cells hr (by omega) hg (by rfl) (pa_cons (pv 0) pa_nil)))
      (pss_cons (ps_if (pt_not (pt_val (pe_callB (call_isiK2 K rfl) (by rfl) z_isinstance bt_isinstance (pa_cons (pv 1) (pa_cons (pe_bltn (v := .ty "list") (by rfl) z_list bt_list rfl) pa_nil)))))
        (pss_one ps_never)
        pss_nil)
      (pss_one (ps_for PassesOwn.never rfl (pi_enumK K rfl (by rfl) z_enumerate (pa_cons (pv 1) pa_nil)) (pg_tupK K rfl rfl (pgs_cons (pg_name (i := 2) sc_check_log.nd rfl (.inl rfl)) (pgs_cons (pg_name (i := 3) sc_check_log.nd rfl (.inl rfl)) pgs_nil)))
        (pss_one (ps_if (PW.pt (pw_or (pt_not (pt_val (pe_cG c_is_exchange hr (by omega) hg (by rfl) (pa_cons (pv 3) (pa_cons (pv 0) pa_nil))))) (pw_or1 (pt_cmpR (op_inDK K rfl hu65) (pv 3) (pe_slice (sl_listK K rfl) (pv 1) po_none (po_some (pv 2))) (by rfl)))))
            (pss_one ps_never)
            pss_nil)))))), ?_⟩
    have hp0 := hp
    obtain ⟨ts, ets, hts, htt⟩ := hp
    refine ⟨_, rfl, n, rfl, by omega, by omega, ?_⟩
    refine ⟨_, rfl, ⟨_, _, _, _, _, rfl, .ty _, tyx_list hts, kit_ty kb_ll, _, rfl, iteF ?_⟩⟩
    refine ⟨_, rfl, a, refs ts, rfl, hts, for_enum (K := K) (a := a) (xs := refs ts) (fun i σ H2 => ∃ y2 y3 : Option V, σ = [some (.int n), some (.ref a), y2, y3] ∧ Same H H2) ⟨none, none, rfl, Same.refl H⟩ ?_ ?_ ?_⟩
    · rintro i σ H2 ⟨_, _, _, sm⟩
      exact sm.seq hts
    · rintro i x σ H2 T hx ⟨y2, y3, rfl, sm⟩ hT
      obtain ⟨⟨b, x1, x2⟩, hq, rfl⟩ := refs_inv hx
      have sm2 : Same H (upd H2 T (.tup [.int (i : Nat), .ref b])) := fun c o e => by
        rw [upd_ne (ne_of_none (sm _ _ e) hT)]; exact sm _ _ e
      have hb := Same.sqT sm2 (htt _ (List.mem_of_getElem? hq))
      have hwi : log[i]? = some (x1, x2) := by
        rw [← ets]; unfold vals; rw [List.getElem?_map, hq]; rfl
      have hval := hv _ (List.mem_of_getElem? hwi)
      refine ⟨T, _, rfl, .inl (.inl upd_same), rfl, _, _, rfl, _, _, rfl, rfl, ?_⟩
      refine ⟨_, rfl, _, rfl, b, x1, x2, n, rfl, hb, _, rfl, ?_⟩
      have e : decide (1 ≤ x1 ∧ x1 < x2 ∧ x2 ≤ (n : Int)) = true := decide_eq_true hval
      rw [e]
      refine iteF ⟨_, rfl, _, rfl, _, rfl, _, rfl, a, refs ts, rfl, sm2.seq hts, fun p hp => ?_⟩
      have ec : cutV (refs ts) none (some (i : Int)) = refs (ts.take i) := (cut_to (xs := refs ts) (k := i)).trans List.map_take.symm
      rw [ec]
      have l3 := (Loc.of sm2).alloc (o := .lst (refs (ts.take i))) hp
      have hcut : IsPairs K (upd (upd H2 T (.tup [.int (i : Nat), .ref b])) p (.lst (refs (ts.take i)))) p (log.take i) :=
        ⟨ts.take i, by rw [← ets]; exact List.map_take, SqL.of upd_same, fun t ht => Same.sqT l3.same (htt t (List.mem_of_mem_take ht))⟩
      have hb3 := Same.sqT ((Loc.refl _).alloc (o := .lst (refs (ts.take i))) hp).same hb
      refine ⟨dE (x1, x2), (log.take i).map dE, .tup hb3 (.cons (.int _) (.cons (.int _) .nil)), hcut.dp, shaped_dE _, shaped_dP _, _, rfl, ?_⟩
      rw [any_dE]
      have no : ¬ (x1, x2) ∈ log.take i := by
        intro z
        obtain ⟨j, hj⟩ := List.getElem?_of_mem z
        rw [List.getElem?_take] at hj
        split at hj
        · rename_i hji
          have := nd_ix hnd hj hwi
          omega
        · cases hj
      exact iteFa (by simpa using no) ⟨_, _, rfl, l3.same⟩
    · rintro σ H2 ⟨_, _, _, sm⟩
      exact q H2 sm
end

/-! ### cells that are joined -/
def edge (web : List (Int × Int)) (a b : Int) : Prop := (a, b) ∈ web ∨ (b, a) ∈ web
inductive Conn (web : List (Int × Int)) (a : Int) : Int → Prop where
  | refl : Conn web a a
  | step {b c : Int} : Conn web a b → edge web b c → Conn web a c
section
variable {web : List (Int × Int)} {a b c : Int}
theorem edge.symm (h : edge web a b) : edge web b a := h.elim .inr .inl
theorem Conn.trans (h : Conn web a b) (k : Conn web b c) : Conn web a c := by
  induction k with
  | refl => exact h
  | step _ e ih => exact .step ih e
theorem Conn.symm (h : Conn web a b) : Conn web b a := by
  induction h with
  | refl => exact .refl
  | step _ e ih => exact (Conn.step .refl e.symm).trans ih
theorem edge_snoc {e : Int × Int} : edge (web ++ [e]) a b ↔ edge web a b ∨ (a = e.1 ∧ b = e.2) ∨ (a = e.2 ∧ b = e.1) := by
  unfold edge
  obtain ⟨x, y⟩ := e
  simp only [List.mem_append, List.mem_singleton, Prod.mk.injEq]
  constructor
  · rintro ((h | ⟨h1, h2⟩) | (h | ⟨h1, h2⟩))
    · exact .inl (.inl h)
    · exact .inr (.inl ⟨h1, h2⟩)
    · exact .inl (.inr h)
    · exact .inr (.inr ⟨h2, h1⟩)
  · rintro ((h | h) | ⟨h1, h2⟩ | ⟨h1, h2⟩)
    · exact .inl (.inl h)
    · exact .inr (.inl h)
    · exact .inl (.inr ⟨h1, h2⟩)
    · exact .inr (.inr ⟨h2, h1⟩)
theorem Conn.more {e : Int × Int} (h : Conn web a b) : Conn (web ++ [e]) a b := by
  induction h with
  | refl => exact .refl
  | step _ e ih => exact .step ih (edge_snoc.mpr (.inl e))
theorem conn_snoc {e : Int × Int} : Conn (web ++ [e]) a b ↔ Conn web a b ∨ (Conn web a e.1 ∧ Conn web e.2 b) ∨ (Conn web a e.2 ∧ Conn web e.1 b) := by
  constructor
  · intro h
    induction h with
    | refl => exact .inl .refl
    | step _ q ih =>
      rcases edge_snoc.mp q with q | ⟨rfl, rfl⟩ | ⟨rfl, rfl⟩
      · rcases ih with h | ⟨h1, h2⟩ | ⟨h1, h2⟩
        · exact .inl (.step h q)
        · exact .inr (.inl ⟨h1, .step h2 q⟩)
        · exact .inr (.inr ⟨h1, .step h2 q⟩)
      · rcases ih with h | ⟨h1, h2⟩ | ⟨h1, h2⟩
        · exact .inr (.inl ⟨h, .refl⟩)
        · exact .inr (.inl ⟨h1, .refl⟩)
        · exact .inl h1
      · rcases ih with h | ⟨h1, h2⟩ | ⟨h1, h2⟩
        · exact .inr (.inr ⟨h, .refl⟩)
        · exact .inl h1
        · exact .inr (.inr ⟨h1, .refl⟩)
  · have q : edge (web ++ [e]) e.1 e.2 := edge_snoc.mpr (.inr (.inl ⟨rfl, rfl⟩))
    rintro (h | ⟨h1, h2⟩ | ⟨h1, h2⟩)
    · exact h.more
    · exact (h1.more.step q).trans h2.more
    · exact (h1.more.step q.symm).trans h2.more
/-- what is reached stays within the cells -/
theorem Conn.within {n : Nat} (hv : ValidL n web) (h : Conn web a b) (ha : 1 ≤ a ∧ a ≤ n) : 1 ≤ b ∧ b ≤ n := by
  induction h with
  | refl => exact ha
  | step _ q _ =>
    rcases q with q | q
    · have := hv _ q; simp at this; omega
    · have := hv _ q; simp at this; omega
end
/-! ### marks -/
def markAt (m : List Int) (k : Int) : Int := m.getD k.toNat 0
def markStep (m : List Int) (e : Int × Int) : List Int := m.map fun x => if x = markAt m e.2 then markAt m e.1 else x
def marks (n : Nat) (web : List (Int × Int)) : List Int := web.foldl markStep ((List.range (n + 1)).map fun (k : Nat) => (k : Int))
theorem marks_len (n : Nat) (web : List (Int × Int)) : (marks n web).length = n + 1 := by
  have : ∀ (web : List (Int × Int)) (m : List Int), (web.foldl markStep m).length = m.length := by
    intro web
    induction web with
    | nil => intro m; rfl
    | cons e r ih => intro m; rw [List.foldl_cons, ih]; unfold markStep; rw [List.length_map]
  unfold marks
  rw [this]
  simp
theorem marks_snoc (n : Nat) (web : List (Int × Int)) (e : Int × Int) : marks n (web ++ [e]) = markStep (marks n web) e := by
  unfold marks
  rw [List.foldl_append]
  rfl
theorem mark_step_at {m : List Int} {e : Int × Int} {k : Int} (hk : k.toNat < m.length) : markAt (markStep m e) k = if markAt m k = markAt m e.2 then markAt m e.1 else markAt m k := by
  unfold markAt markStep
  rw [List.getD_eq_getElem?_getD, List.getElem?_map, List.getElem?_eq_getElem hk]
  simp [List.getD_eq_getElem?_getD, List.getElem?_eq_getElem hk, markAt]
/-- marks tell what is joined -/
theorem marks_conn {n : Nat} : ∀ (web : List (Int × Int)), ValidL n web → ∀ a b : Int, 0 ≤ a → a ≤ n → 0 ≤ b → b ≤ n → (markAt (marks n web) a = markAt (marks n web) b ↔ Conn web a b) := by
  intro web
  induction hl : web.length generalizing web with
  | zero =>
    have e : web = [] := List.length_eq_zero_iff.mp hl
    subst e
    intro _ a b a0 an b0 bn
    have m : ∀ k : Int, 0 ≤ k → k ≤ n → markAt (marks n []) k = k := by
      intro k k0 kn
      unfold markAt marks
      rw [List.foldl_nil, List.getD_eq_getElem?_getD, List.getElem?_map, List.getElem?_range (by omega)]
      simp; omega
    rw [m a a0 an, m b b0 bn]
    constructor
    · rintro rfl; exact .refl
    · intro h
      cases h with
      | refl => rfl
      | step _ q => cases q with | inl q => cases q | inr q => cases q
  | succ l ih =>
    obtain ⟨r, e, rfl⟩ : ∃ r e, web = r ++ [e] := by
      refine ⟨web.dropLast, web.getLast (by intro z; rw [z] at hl; cases hl), (List.dropLast_concat_getLast _).symm⟩
    intro hv a b a0 an b0 bn
    have hr : ValidL n r := fun q hq => hv q (List.mem_append_left _ hq)
    have he := hv e (List.mem_append_right _ (List.mem_singleton.mpr rfl))
    have len : r.length = l := by simp at hl; exact hl
    have ih := ih r len hr
    rw [marks_snoc, mark_step_at (by rw [marks_len]; omega), mark_step_at (by rw [marks_len]; omega), conn_snoc, ← ih a b a0 an b0 bn]
    have e1 := ih a e.1 a0 an (by omega) (by omega)
    have e2 := ih a e.2 a0 an (by omega) (by omega)
    have e3 := ih e.1 b (by omega) (by omega) b0 bn
    have e4 := ih e.2 b (by omega) (by omega) b0 bn
    rw [← e1, ← e2, ← e3, ← e4]
    constructor
    · intro h
      split at h <;> split at h
      · left; omega
      · right; right; omega
      · right; left; omega
      · left; exact h
    · intro h
      rcases h with h | ⟨h1, h2⟩ | ⟨h1, h2⟩
      · rw [h]
      · split <;> split <;> omega
      · split <;> split <;> omega
/-! ### pieces -/
def cellsTo (n : Nat) : List Int := (List.range n).map fun (k : Nat) => (k : Int) + 1
def comp (n : Nat) (web : List (Int × Int)) (k : Int) : List Int := (cellsTo n).filter fun j => decide (markAt (marks n web) j = markAt (marks n web) k)
def isLeast (n : Nat) (web : List (Int × Int)) (k : Int) : Bool := (comp n web k).head? == some k
/-- the pieces whose least cells are among the first m -/
def pcsTo (n : Nat) (web : List (Int × Int)) (m : Nat) : List (List Int) := ((cellsTo m).filter (isLeast n web)).map (comp n web)
def pcs (n : Nat) (web : List (Int × Int)) : List (List Int) := pcsTo n web n
theorem mem_cellsTo {n : Nat} {k : Int} : k ∈ cellsTo n ↔ 1 ≤ k ∧ k ≤ n := by
  unfold cellsTo
  rw [List.mem_map]
  constructor
  · rintro ⟨j, hj, rfl⟩
    have := List.mem_range.mp hj
    omega
  · intro h
    exact ⟨(k - 1).toNat, List.mem_range.mpr (by omega), by omega⟩
theorem cellsTo_asc (n : Nat) : (cellsTo n).Pairwise (· < ·) := by
  unfold cellsTo
  rw [List.pairwise_map]
  exact List.pairwise_lt_range.imp (fun h => by omega)
theorem cellsTo_succ (n : Nat) : cellsTo (n + 1) = cellsTo n ++ [(n : Int) + 1] := by
  unfold cellsTo
  rw [List.range_succ, List.map_append]
  rfl
theorem cellsTo_len (n : Nat) : (cellsTo n).length = n := by simp [cellsTo]
section
variable {n : Nat} {web : List (Int × Int)} (hv : ValidL n web)
include hv
theorem mem_comp {j k : Int} (hk : 1 ≤ k ∧ k ≤ n) : j ∈ comp n web k ↔ Conn web k j := by
  unfold comp
  rw [List.mem_filter, mem_cellsTo, decide_eq_true_eq]
  constructor
  · rintro ⟨hj, e⟩
    exact (marks_conn web hv k j (by omega) (by omega) (by omega) (by omega)).mp e.symm
  · intro h
    have hj := h.within hv hk
    exact ⟨hj, ((marks_conn web hv k j (by omega) (by omega) (by omega) (by omega)).mpr h).symm⟩
theorem comp_asc (k : Int) : (comp n web k).Pairwise (· < ·) := (cellsTo_asc n).sublist List.filter_sublist
theorem isLeast_iff {k : Int} (hk : 1 ≤ k ∧ k ≤ n) : isLeast n web k = true ↔ ∀ j, Conn web k j → k ≤ j := by
  unfold isLeast
  have self : k ∈ comp n web k := (mem_comp hv hk).mpr .refl
  have asc := comp_asc hv k
  cases e : comp n web k with
  | nil => rw [e] at self; cases self
  | cons x r =>
    rw [e] at asc self
    have asc' := List.pairwise_cons.mp asc
    have mem : ∀ j, j ∈ x :: r ↔ Conn web k j := fun j => by rw [← e]; exact mem_comp hv hk
    constructor
    · intro h j hj
      have ex : x = k := by simpa using h
      subst ex
      rcases List.mem_cons.mp ((mem j).mpr hj) with rfl | q
      · omega
      · have := asc'.1 j q; omega
    · intro h
      have h1 := h x ((mem x).mp List.mem_cons_self)
      rcases List.mem_cons.mp self with q | q
      · simp [q]
      · have := asc'.1 k q
        omega
theorem pcsTo_succ (m : Nat) : pcsTo n web (m + 1) = pcsTo n web m ++ (if isLeast n web ((m : Int) + 1) = true then [comp n web ((m : Int) + 1)] else []) := by
  unfold pcsTo
  rw [cellsTo_succ, List.filter_append, List.map_append]
  congr 1
  by_cases h : isLeast n web ((m : Int) + 1) = true
  · rw [if_pos h, List.filter_cons_of_pos h]; rfl
  · rw [if_neg h, List.filter_cons_of_neg h]; rfl
/-- an ascending list of just the joined cells is the piece -/
theorem comp_unique {k : Int} (hk : 1 ≤ k ∧ k ≤ n) {l : List Int} (nd : l.Nodup) (mem : ∀ j, j ∈ l ↔ Conn web k j) : srt l = comp n web k := by
  refine (srt_of (l := l) ?_ ((comp_asc hv k).imp (fun h => by omega))).symm
  refine (List.perm_ext_iff_of_nodup ?_ nd).mpr fun j => ?_
  · exact (comp_asc hv k).imp (fun h => by omega)
  · rw [mem, mem_comp hv hk]
end

/-! ### things that are exchanged -/
def swp (e : Int × Int) (x : Int) : Int := if x = e.1 then e.2 else if x = e.2 then e.1 else x
theorem swp_swp (e : Int × Int) (x : Int) : swp e (swp e x) = x := by
  unfold swp
  split <;> split <;> (try split) <;> omega
def loc (log : List (Int × Int)) (t : Int) : Int := log.foldl (fun x e => swp e x) t
def ivr (log : List (Int × Int)) (c : Int) : Int := log.foldr (fun e x => swp e x) c
theorem loc_snoc (l : List (Int × Int)) (e : Int × Int) (t : Int) : loc (l ++ [e]) t = swp e (loc l t) := by unfold loc; rw [List.foldl_append]; rfl
theorem ivr_snoc (l : List (Int × Int)) (e : Int × Int) (c : Int) : ivr (l ++ [e]) c = ivr l (swp e c) := by unfold ivr; rw [List.foldr_append]; rfl
theorem loc_cons (l : List (Int × Int)) (e : Int × Int) (t : Int) : loc (e :: l) t = loc l (swp e t) := rfl
theorem ivr_cons (l : List (Int × Int)) (e : Int × Int) (c : Int) : ivr (e :: l) c = swp e (ivr l c) := rfl
theorem ivr_loc (l : List (Int × Int)) : ∀ t, ivr l (loc l t) = t := by
  induction l with
  | nil => intro t; rfl
  | cons e r ih => intro t; rw [ivr_cons, loc_cons, ih, swp_swp]
theorem loc_ivr (l : List (Int × Int)) : ∀ c, loc l (ivr l c) = c := by
  induction l with
  | nil => intro t; rfl
  | cons e r ih => intro t; rw [ivr_cons, loc_cons, swp_swp, ih]
theorem swp_in {n : Nat} {e : Int × Int} {x : Int} (h : 1 ≤ e.1 ∧ e.1 < e.2 ∧ e.2 ≤ n) (hx : 1 ≤ x ∧ x ≤ n) : 1 ≤ swp e x ∧ swp e x ≤ n := by
  unfold swp
  split
  · omega
  · split <;> omega
theorem ValidL.init {n : Nat} {l : List (Int × Int)} {e : Int × Int} (h : ValidL n (l ++ [e])) : ValidL n l ∧ 1 ≤ e.1 ∧ e.1 < e.2 ∧ e.2 ≤ n :=
  ⟨fun q hq => h q (List.mem_append_left _ hq), h e (List.mem_append_right _ (List.mem_singleton.mpr rfl))⟩
theorem loc_in {n : Nat} : ∀ {l : List (Int × Int)}, ValidL n l → ∀ t : Int, 1 ≤ t ∧ t ≤ n → 1 ≤ loc l t ∧ loc l t ≤ n
  | [], _, _, ht => ht
  | e :: r, hv, t, ht => by
    rw [loc_cons]
    exact loc_in (fun q hq => hv q (List.mem_cons_of_mem _ hq)) _ (swp_in (hv e List.mem_cons_self) ht)
theorem ivr_in {n : Nat} : ∀ {l : List (Int × Int)}, ValidL n l → ∀ t : Int, 1 ≤ t ∧ t ≤ n → 1 ≤ ivr l t ∧ ivr l t ≤ n
  | [], _, _, ht => ht
  | e :: r, hv, t, ht => by
    rw [ivr_cons]
    exact swp_in (hv e List.mem_cons_self) (ivr_in (fun q hq => hv q (List.mem_cons_of_mem _ hq)) _ ht)
theorem ivr_zero {n : Nat} : ∀ {l : List (Int × Int)}, ValidL n l → ivr l 0 = 0
  | [], _ => rfl
  | e :: r, hv => by
    rw [ivr_cons, ivr_zero (fun q hq => hv q (List.mem_cons_of_mem _ hq))]
    have := hv e List.mem_cons_self
    unfold swp
    split
    · omega
    · split
      · omega
      · rfl
/-! ### ways -/
def wayStep (e : Int × Int) (w : List Int) : List Int := if w.getLastD 0 = e.1 then w ++ [e.2] else if w.getLastD 0 = e.2 then w ++ [e.1] else w
def way (log : List (Int × Int)) (t : Int) : List Int := log.foldl (fun w e => wayStep e w) [t]
theorem way_snoc (l : List (Int × Int)) (e : Int × Int) (t : Int) : way (l ++ [e]) t = wayStep e (way l t) := by unfold way; rw [List.foldl_append]; rfl
theorem last_snoc (w : List Int) (x : Int) : (w ++ [x]).getLastD 0 = x := by rw [List.getLastD_eq_getLast?, List.getLast?_concat]; rfl
theorem snoc_ind {α : Type} {p : List α → Prop} (h0 : p []) (h1 : ∀ l e, p l → p (l ++ [e])) : ∀ l, p l := by
  intro l
  induction hl : l.length generalizing l with
  | zero => rw [List.length_eq_zero_iff.mp hl]; exact h0
  | succ n ih =>
    have ne : l ≠ [] := by intro z; rw [z] at hl; cases hl
    rw [← List.dropLast_concat_getLast ne]
    exact h1 _ _ (ih _ (by rw [List.length_dropLast, hl]; rfl))
theorem way_last (t : Int) : ∀ l : List (Int × Int), (way l t).getLastD 0 = loc l t := by
  refine snoc_ind rfl fun l e ih => ?_
  rw [way_snoc, loc_snoc, ← ih]
  unfold wayStep swp
  split
  · rw [last_snoc]
  · split
    · rw [last_snoc]
    · rfl
theorem way_ne (t : Int) : ∀ l : List (Int × Int), way l t ≠ [] := by
  refine snoc_ind (by intro z; cases z) fun l e ih => ?_
  rw [way_snoc]
  unfold wayStep
  split
  · simp
  · split
    · simp
    · exact ih
theorem way_len (t : Int) : ∀ l : List (Int × Int), (way l t).length ≤ l.length + 1 := by
  refine snoc_ind (Nat.le_refl _) fun l e ih => ?_
  rw [way_snoc, List.length_append, List.length_singleton]
  unfold wayStep
  split
  · rw [List.length_append, List.length_singleton]; omega
  · split
    · rw [List.length_append, List.length_singleton]; omega
    · omega
theorem way_in {n : Nat} (t : Int) (ht : 1 ≤ t ∧ t ≤ n) : ∀ l : List (Int × Int), ValidL n l → ∀ x ∈ way l t, 1 ≤ x ∧ x ≤ n := by
  refine snoc_ind (fun _ x hx => ?_) fun l e ih hv x hx => ?_
  · cases List.mem_singleton.mp hx; exact ht
  · have ⟨h1, h2⟩ := hv.init
    rw [way_snoc] at hx
    unfold wayStep at hx
    split at hx
    · rcases List.mem_append.mp hx with hx | hx
      · exact ih h1 x hx
      · cases List.mem_singleton.mp hx; omega
    · split at hx
      · rcases List.mem_append.mp hx with hx | hx
        · exact ih h1 x hx
        · cases List.mem_singleton.mp hx; omega
      · exact ih h1 x hx
/-! ### lists by place -/
def tab {α : Type} (n : Nat) (g : Nat → α) : List α := (List.range n).map g
section
variable {α : Type} {n : Nat} {g h : Nat → α}
theorem tab_len : (tab n g).length = n := by simp [tab]
theorem tab_get {j : Nat} (hj : j < n) : (tab n g)[j]? = some (g j) := by
  unfold tab
  rw [List.getElem?_map, List.getElem?_range hj]
  rfl
theorem tab_ext (e : ∀ j, j < n → g j = h j) : tab n g = tab n h := List.map_congr_left fun j hj => e j (List.mem_range.mp hj)
theorem tab_set {j : Nat} {x : α} : (tab n g).set j x = tab n fun m => if m = j then x else g m := by
  refine List.ext_getElem? fun i => ?_
  rw [List.getElem?_set]
  by_cases hi : i < n
  · rw [tab_get hi, tab_get hi, tab_len]
    by_cases e : j = i
    · subst e; rw [if_pos rfl, if_pos hi, if_pos rfl]
    · rw [if_neg e, if_neg (fun z => e z.symm)]
  · rw [List.getElem?_eq_none (l := tab n fun m => if m = j then x else g m) (by rw [tab_len]; omega), List.getElem?_eq_none (l := tab n g) (by rw [tab_len]; omega), tab_len]
    split
    · rw [if_neg (by omega)]
    · rfl
theorem tab_succ : tab (n + 1) g = tab n g ++ [g n] := by
  unfold tab
  rw [List.range_succ, List.map_append]
  rfl
theorem tab_mem {x : α} (hx : x ∈ tab n g) : ∃ j, j < n ∧ x = g j := by
  obtain ⟨j, hj, rfl⟩ := List.mem_map.mp hx
  exact ⟨j, List.mem_range.mp hj, rfl⟩
theorem of_tab {l : List α} (hl : l.length = n) (e : ∀ j, j < n → l[j]? = some (g j)) : l = tab n g := by
  refine List.ext_getElem? fun i => ?_
  by_cases hi : i < n
  · rw [e i hi, tab_get hi]
  · rw [List.getElem?_eq_none (by omega), List.getElem?_eq_none (by rw [tab_len]; omega)]
end
def waysL (n : Nat) (log : List (Int × Int)) : List (List Int) := tab n fun m => way log (m + 1)
def ordsL (n : Nat) (log : List (Int × Int)) : List (List Int) := tab n fun m => nbraw log (m + 1)
def endsL (n : Nat) (log : List (Int × Int)) : List Int := tab n fun m => loc log (m + 1)
def thgsL (n : Nat) (log : List (Int × Int)) : List Int := tab (n + 1) fun m => ivr log m
section
variable {n : Nat} {l : List (Int × Int)} {a b : Int}
/-- one exchange more: the rows of the two things in the cells grow -/
theorem ways_step (hv : ValidL n (l ++ [(a, b)])) : waysL n (l ++ [(a, b)]) =
    ((waysL n l).set (ivr l a - 1).toNat (way l (ivr l a) ++ [b])).set (ivr l b - 1).toNat (way l (ivr l b) ++ [a]) := by
  obtain ⟨h1, h2⟩ := hv.init
  simp only at h2
  have ia := ivr_in h1 a (by omega)
  have ib := ivr_in h1 b (by omega)
  unfold waysL
  rw [tab_set, tab_set]
  refine tab_ext fun j hj => ?_
  rw [way_snoc]
  unfold wayStep
  rw [way_last]
  have ka : loc l ((j : Int) + 1) = a ↔ (j : Int) + 1 = ivr l a := ⟨fun e => by rw [← e, ivr_loc], fun e => by rw [e, loc_ivr]⟩
  have kb : loc l ((j : Int) + 1) = b ↔ (j : Int) + 1 = ivr l b := ⟨fun e => by rw [← e, ivr_loc], fun e => by rw [e, loc_ivr]⟩
  have ne : ivr l a ≠ ivr l b := fun e => by
    have := loc_ivr l a
    rw [e, loc_ivr] at this
    omega
  simp only [ka, kb]
  by_cases e1 : (j : Int) + 1 = ivr l a
  · rw [if_pos e1, if_neg (by omega), if_pos (by omega), e1]
  · rw [if_neg e1]
    by_cases e2 : (j : Int) + 1 = ivr l b
    · rw [if_pos e2, if_pos (by omega), e2]
    · rw [if_neg e2, if_neg (by omega), if_neg (by omega)]
theorem thgs_step (hv : ValidL n (l ++ [(a, b)])) : thgsL n (l ++ [(a, b)]) = ((thgsL n l).set a.toNat (ivr l b)).set b.toNat (ivr l a) := by
  obtain ⟨h1, h2⟩ := hv.init
  simp only at h2
  unfold thgsL
  rw [tab_set, tab_set]
  refine tab_ext fun j hj => ?_
  rw [ivr_snoc]
  unfold swp
  by_cases e1 : (j : Int) = a
  · rw [if_pos e1, if_neg (by omega), if_pos (by omega)]
  · rw [if_neg e1]
    by_cases e2 : (j : Int) = b
    · rw [if_pos e2, if_pos (by omega)]
    · rw [if_neg e2, if_neg (by omega), if_neg (by omega)]
theorem nbraw_snoc (e : Int × Int) (k : Int) : nbraw (l ++ [e]) k = nbraw l k ++ ((if e.1 = k then [e.2] else []) ++ (if e.2 = k then [e.1] else [])) := by
  unfold nbraw
  rw [List.flatMap_append]
  simp
theorem ords_step (hv : ValidL n (l ++ [(a, b)])) : ordsL n (l ++ [(a, b)]) = ((ordsL n l).set (a - 1).toNat (nbraw l a ++ [b])).set (b - 1).toNat (nbraw l b ++ [a]) := by
  obtain ⟨h1, h2⟩ := hv.init
  simp only at h2
  unfold ordsL
  rw [tab_set, tab_set]
  refine tab_ext fun j hj => ?_
  rw [nbraw_snoc]
  by_cases e1 : a = (j : Int) + 1
  · rw [if_pos e1, if_neg (by omega : ¬ b = (j : Int) + 1), if_neg (by omega), if_pos (by omega), e1, List.append_nil]
  · rw [if_neg e1]
    by_cases e2 : b = (j : Int) + 1
    · rw [if_pos e2, if_pos (by omega), e2]; rfl
    · rw [if_neg e2, if_neg (by omega), if_neg (by omega)]; simp
end
theorem thgs_start (n : Nat) : rgV 0 ((n : Int) + 1) = iv (thgsL n []) := by
  unfold rgV iv thgsL tab
  rw [List.map_map]
  have e : ((n : Int) + 1 - 0).toNat = n + 1 := by omega
  rw [e]
  refine List.map_congr_left fun i _ => ?_
  show V.int (0 + (i : Nat)) = V.int i
  rw [Int.zero_add]

/-! ### meetings -/
def pr (x y : Int) : Int × Int := (if y < x then y else x, if y > x then y else x)
theorem swp_pr (x y t : Int) : swp (pr x y) t = if t = x then y else if t = y then x else t := by
  unfold swp pr
  simp only
  split <;> split <;> (try split) <;> (try split) <;> (try split) <;> omega
def metA (pre : List (Int × Int)) : List (Int × Int) → List (Int × Int)
  | [] => []
  | e :: r => pr (ivr pre e.1) (ivr pre e.2) :: metA (pre ++ [e]) r
def metL (log : List (Int × Int)) : List (Int × Int) := metA [] log
theorem metA_snoc (e : Int × Int) : ∀ (l pre : List (Int × Int)), metA pre (l ++ [e]) = metA pre l ++ [pr (ivr (pre ++ l) e.1) (ivr (pre ++ l) e.2)]
  | [], pre => by simp [metA]
  | f :: r, pre => by
    show pr _ _ :: metA (pre ++ [f]) (r ++ [e]) = (pr _ _ :: metA (pre ++ [f]) r) ++ _
    rw [metA_snoc e r (pre ++ [f]), List.cons_append, List.append_assoc]
    rfl
theorem metL_snoc (l : List (Int × Int)) (e : Int × Int) : metL (l ++ [e]) = metL l ++ [pr (ivr l e.1) (ivr l e.2)] := by
  unfold metL
  rw [metA_snoc]
  rfl
theorem metL_len : ∀ l : List (Int × Int), (metL l).length = l.length := by
  refine snoc_ind rfl fun l e ih => ?_
  rw [metL_snoc, List.length_append, List.length_append, ih]
  rfl
theorem loc_meet (l : List (Int × Int)) (e : Int × Int) (t : Int) : loc (l ++ [e]) t = loc l (swp (pr (ivr l e.1) (ivr l e.2)) t) := by
  rw [loc_snoc, swp_pr]
  unfold swp
  have ka : loc l t = e.1 ↔ t = ivr l e.1 := ⟨fun h => by rw [← h, ivr_loc], fun h => by rw [h, loc_ivr]⟩
  have kb : loc l t = e.2 ↔ t = ivr l e.2 := ⟨fun h => by rw [← h, ivr_loc], fun h => by rw [h, loc_ivr]⟩
  by_cases h1 : t = ivr l e.1
  · rw [if_pos h1, if_pos (ka.mpr h1), loc_ivr]
  · rw [if_neg h1, if_neg (fun z => h1 (ka.mp z))]
    by_cases h2 : t = ivr l e.2
    · rw [if_pos h2, if_pos (kb.mpr h2), loc_ivr]
    · rw [if_neg h2, if_neg (fun z => h2 (kb.mp z))]
/-- made backward, as exchanges of cells -/
theorem meet_back : ∀ (l : List (Int × Int)) (t : Int), loc (metL l).reverse t = loc l t := by
  refine snoc_ind (fun _ => rfl) fun l e ih t => ?_
  rw [metL_snoc, List.reverse_append, loc_meet]
  show loc (pr (ivr l e.1) (ivr l e.2) :: (metL l).reverse) t = _
  rw [loc_cons, ih]
theorem pr_ok {n : Nat} {x y : Int} (ne : x ≠ y) (hx : 1 ≤ x ∧ x ≤ n) (hy : 1 ≤ y ∧ y ≤ n) : 1 ≤ (pr x y).1 ∧ (pr x y).1 < (pr x y).2 ∧ (pr x y).2 ≤ n := by
  unfold pr
  simp only
  split <;> split <;> omega
theorem ivr_ne {l : List (Int × Int)} {a b : Int} (h : a ≠ b) : ivr l a ≠ ivr l b := fun z => h (by rw [← loc_ivr l a, z, loc_ivr])
theorem metL_valid {n : Nat} : ∀ l : List (Int × Int), ValidL n l → ValidL n (metL l) := by
  refine snoc_ind (fun _ _ z => nomatch z) fun l e ih hv => ?_
  obtain ⟨h1, h2⟩ := hv.init
  rw [metL_snoc]
  intro q hq
  rcases List.mem_append.mp hq with hq | hq
  · exact ih h1 q hq
  · cases List.mem_singleton.mp hq
    exact pr_ok (ivr_ne (by omega)) (ivr_in h1 _ (by omega)) (ivr_in h1 _ (by omega))
theorem pr_has (x y t : Int) : ((pr x y).1 = t ∨ (pr x y).2 = t) ↔ (x = t ∨ y = t) := by
  unfold pr
  simp only
  split <;> split <;> omega
/-- each thing meets as many as its way has steps -/
theorem meet_steps (t : Int) : ∀ l : List (Int × Int), (way l t).length = (metL l).countP (fun e => decide (e.1 = t ∨ e.2 = t)) + 1 := by
  refine snoc_ind rfl fun l e ih => ?_
  rw [metL_snoc, List.countP_append, way_snoc]
  have ka : loc l t = e.1 ↔ ivr l e.1 = t := ⟨fun h => by rw [← h, ivr_loc], fun h => by rw [← h, loc_ivr]⟩
  have kb : loc l t = e.2 ↔ ivr l e.2 = t := ⟨fun h => by rw [← h, ivr_loc], fun h => by rw [← h, loc_ivr]⟩
  have one : [pr (ivr l e.1) (ivr l e.2)].countP (fun e => decide (e.1 = t ∨ e.2 = t)) = if ivr l e.1 = t ∨ ivr l e.2 = t then 1 else 0 := by
    rw [List.countP_cons, List.countP_nil]
    simp only [decide_eq_true_eq, pr_has, Nat.zero_add]
  rw [one]
  unfold wayStep
  rw [way_last]
  by_cases h1 : loc l t = e.1
  · rw [if_pos h1, if_pos (.inl (ka.mp h1)), List.length_append, ih]; rfl
  · rw [if_neg h1]
    by_cases h2 : loc l t = e.2
    · rw [if_pos h2, if_pos (.inr (kb.mp h2)), List.length_append, ih]; rfl
    · rw [if_neg h2, if_neg (fun z => z.elim (fun z => h1 (ka.mpr z)) (fun z => h2 (kb.mpr z))), ih]
/-! ### joined cells, met things -/
theorem conn_loc (t : Int) : ∀ l : List (Int × Int), Conn l t (loc l t) := by
  refine snoc_ind .refl fun l e ih => ?_
  rw [loc_snoc]
  unfold swp
  have m := ih.more (e := e)
  split
  · rename_i h; exact m.step (by rw [h]; exact edge_snoc.mpr (.inr (.inl ⟨rfl, rfl⟩)))
  · split
    · rename_i h; exact m.step (by rw [h]; exact edge_snoc.mpr (.inr (.inr ⟨rfl, rfl⟩)))
    · exact m
theorem conn_ivr (c : Int) (l : List (Int × Int)) : Conn l (ivr l c) c := by
  have := conn_loc (ivr l c) l
  rwa [loc_ivr] at this
theorem conn_pr {l : List (Int × Int)} {x y a b : Int} : Conn (l ++ [pr x y]) a b ↔ Conn l a b ∨ (Conn l a x ∧ Conn l y b) ∨ (Conn l a y ∧ Conn l x b) := by
  rw [conn_snoc]
  unfold pr
  by_cases h : y < x
  · have h2 : ¬ y > x := by omega
    simp only [h, h2, if_true, if_false]
    constructor
    · rintro (h | h | h)
      · exact .inl h
      · exact .inr (.inr h)
      · exact .inr (.inl h)
    · rintro (h | h | h)
      · exact .inl h
      · exact .inr (.inr h)
      · exact .inr (.inl h)
  · by_cases h2 : y > x
    · simp only [h, h2, if_true, if_false]
    · have : x = y := by omega
      subst this
      simp only [h, if_false]
theorem conn_meet : ∀ (l : List (Int × Int)) (u v : Int), Conn (metL l) u v ↔ Conn l u v := by
  refine snoc_ind (fun _ _ => Iff.rfl) fun l e ih u v => ?_
  rw [metL_snoc, conn_pr, conn_snoc, ih, ih, ih, ih, ih]
  have ca := conn_ivr e.1 l
  have cb := conn_ivr e.2 l
  constructor
  · rintro (h | ⟨h1, h2⟩ | ⟨h1, h2⟩)
    · exact .inl h
    · exact .inr (.inl ⟨h1.trans ca, cb.symm.trans h2⟩)
    · exact .inr (.inr ⟨h1.trans cb, ca.symm.trans h2⟩)
  · rintro (h | ⟨h1, h2⟩ | ⟨h1, h2⟩)
    · exact .inl h
    · exact .inr (.inl ⟨h1.trans ca.symm, cb.trans h2⟩)
    · exact .inr (.inr ⟨h1.trans cb.symm, ca.trans h2⟩)
theorem conn_perm {l m : List (Int × Int)} (p : l.Perm m) {a b : Int} (h : Conn l a b) : Conn m a b := by
  induction h with
  | refl => exact .refl
  | step _ e ih => exact ih.step (e.elim (fun z => .inl (p.mem_iff.mp z)) (fun z => .inr (p.mem_iff.mp z)))
/-! ### how many pieces -/
def cnt (n : Nat) (web : List (Int × Int)) : Nat := ((cellsTo n).filter (isLeast n web)).length
theorem cnt_pcs (n : Nat) (web : List (Int × Int)) : (pcs n web).length = cnt n web := by
  unfold pcs pcsTo cnt
  rw [List.length_map]
theorem filter_eq {l : List Int} {p q : Int → Bool} (h : ∀ x ∈ l, p x = q x) : l.filter p = l.filter q := List.filter_congr h
theorem cnt_congr {n : Nat} {a b : List (Int × Int)} (va : ValidL n a) (vb : ValidL n b) (h : ∀ x y, Conn a x y ↔ Conn b x y) : cnt n a = cnt n b := by
  unfold cnt
  rw [filter_eq fun k hk => ?_]
  have hk' := mem_cellsTo.mp hk
  rw [Bool.eq_iff_iff, isLeast_iff va hk', isLeast_iff vb hk']
  exact ⟨fun z j hj => z j ((h _ _).mpr hj), fun z j hj => z j ((h _ _).mp hj)⟩
/-- at most one is lost -/
theorem lose_one {p q : Int → Bool} : ∀ {l : List Int}, (∀ x ∈ l, ∀ y ∈ l, p x = true → q x = false → p y = true → q y = false → x = y) → l.Nodup → (l.filter p).length ≤ (l.filter q).length + 1
  | [], _, _ => Nat.zero_le _
  | x :: r, h, nd => by
    have nd' := List.nodup_cons.mp nd
    have ih := lose_one (p := p) (q := q) (l := r) (fun a ha b hb => h a (List.mem_cons_of_mem _ ha) b (List.mem_cons_of_mem _ hb)) nd'.2
    by_cases hp : p x = true
    · by_cases hq : q x = true
      · rw [List.filter_cons_of_pos hp, List.filter_cons_of_pos hq, List.length_cons, List.length_cons]
        omega
      · have hq' : q x = false := by simpa using hq
        rw [List.filter_cons_of_pos hp, List.filter_cons_of_neg hq, List.length_cons]
        have sub : ∀ y ∈ r, p y = true → q y = true := fun y hy py => by
          cases e : q y with
          | true => rfl
          | false =>
            have := h x List.mem_cons_self y (List.mem_cons_of_mem _ hy) hp hq' py e
            subst this
            exact absurd hy nd'.1
        have : (r.filter p).length ≤ (r.filter q).length := by
          rw [← List.countP_eq_length_filter, ← List.countP_eq_length_filter]
          exact List.countP_mono_left fun y hy py => sub y hy py
        omega
    · rw [List.filter_cons_of_neg hp]
      by_cases hq : q x = true
      · rw [List.filter_cons_of_pos hq, List.length_cons]; omega
      · rw [List.filter_cons_of_neg hq]; exact ih
theorem cnt_snoc {n : Nat} {l : List (Int × Int)} {e : Int × Int} (hv : ValidL n (l ++ [e])) : cnt n l ≤ cnt n (l ++ [e]) + 1 := by
  obtain ⟨h1, h2⟩ := hv.init
  refine lose_one (fun x hx y hy px qx py qy => ?_) ((cellsTo_asc n).imp fun h => by omega)
  have hx' := mem_cellsTo.mp hx
  have hy' := mem_cellsTo.mp hy
  have lx := (isLeast_iff h1 hx').mp px
  have ly := (isLeast_iff h1 hy').mp py
  have no : ∀ k : Int, 1 ≤ k ∧ k ≤ n → isLeast n l k = true → isLeast n (l ++ [e]) k = false → ∃ j, j < k ∧ ((Conn l k e.1 ∧ Conn l e.2 j) ∨ (Conn l k e.2 ∧ Conn l e.1 j)) := fun k hk pk qk => by
    have : ¬ ∀ j, Conn (l ++ [e]) k j → k ≤ j := fun z => by
      rw [(isLeast_iff hv hk).mpr z] at qk
      cases qk
    obtain ⟨j, hj⟩ := Classical.not_forall.mp this
    obtain ⟨hc, hlt⟩ := Classical.not_imp.mp hj
    refine ⟨j, by omega, ?_⟩
    rcases conn_snoc.mp hc with h | h
    · exact absurd ((isLeast_iff h1 hk).mp pk j h) hlt
    · exact h
  obtain ⟨j, hj, cj⟩ := no x hx' px qx
  obtain ⟨j', hj', cj'⟩ := no y hy' py qy
  rcases cj with ⟨a1, a2⟩ | ⟨a1, a2⟩ <;> rcases cj' with ⟨b1, b2⟩ | ⟨b1, b2⟩
  · have h3 := lx y (a1.trans b1.symm)
    have h4 := ly x (b1.trans a1.symm)
    omega
  · have h3 := lx j' (a1.trans b2)
    have h4 := ly j (b1.trans a2)
    omega
  · have h3 := lx j' (a1.trans b2)
    have h4 := ly j (b1.trans a2)
    omega
  · have h3 := lx y (a1.trans b1.symm)
    have h4 := ly x (b1.trans a1.symm)
    omega
theorem cnt_same {n : Nat} {l : List (Int × Int)} {e : Int × Int} (hv : ValidL n (l ++ [e])) (h : Conn l e.1 e.2) : cnt n l = cnt n (l ++ [e]) := by
  refine cnt_congr hv.init.1 hv fun x y => ?_
  rw [conn_snoc]
  constructor
  · exact .inl
  · rintro (h1 | ⟨h1, h2⟩ | ⟨h1, h2⟩)
    · exact h1
    · exact (h1.trans h).trans h2
    · exact (h1.trans h.symm).trans h2
theorem cnt_nil (n : Nat) : cnt n [] = n := by
  unfold cnt
  have v0 : ValidL n [] := fun _ z => nomatch z
  have : (cellsTo n).filter (isLeast n []) = cellsTo n := List.filter_eq_self.mpr fun k hk => (isLeast_iff v0 (mem_cellsTo.mp hk)).mpr fun j hj => by
    cases hj with
    | refl => exact Int.le_refl _
    | step _ q => cases q with | inl q => cases q | inr q => cases q
  rw [this, cellsTo_len]
/-- with one exchange less than cells, and one piece, each exchange joins two -/
theorem forest {n : Nat} : ∀ l : List (Int × Int), ValidL n l → n ≤ cnt n l + l.length ∧ ((∃ l1 e r, l = l1 ++ e :: r ∧ Conn l1 e.1 e.2) → n + 1 ≤ cnt n l + l.length) := by
  refine snoc_ind (fun _ => ⟨by rw [cnt_nil]; exact Nat.le_refl _, fun z => by obtain ⟨l1, e, r, h, _⟩ := z; simp at h⟩) fun l e ih hv => ?_
  obtain ⟨i1, i2⟩ := ih hv.init.1
  have s := cnt_snoc hv
  rw [List.length_append, List.length_singleton]
  refine ⟨by omega, ?_⟩
  rintro ⟨l1, f, r, hl, hc⟩
  rcases List.eq_nil_or_concat r with rfl | ⟨r', g, rfl⟩
  · obtain ⟨rfl, h2⟩ := List.append_inj' hl rfl
    have : e = f := by simpa using h2
    subst this
    have := cnt_same hv hc
    omega
  · have hl' : l ++ [e] = (l1 ++ f :: r') ++ [g] := by rw [hl]; simp
    obtain ⟨h3, _⟩ := List.append_inj' hl' rfl
    have := i2 ⟨l1, f, r', h3, hc⟩
    omega
theorem meet_nodup {n : Nat} : ∀ l : List (Int × Int), ValidL n l → (¬ ∃ l1 e r, l = l1 ++ e :: r ∧ Conn l1 e.1 e.2) → (metL l).Nodup := by
  refine snoc_ind (fun _ _ => List.Pairwise.nil) fun l e ih hv no => ?_
  have no' : ¬ ∃ l1 e r, l = l1 ++ e :: r ∧ Conn l1 e.1 e.2 := fun ⟨l1, f, r, h, hc⟩ => no ⟨l1, f, r ++ [e], by rw [h]; simp, hc⟩
  rw [metL_snoc, List.nodup_append]
  refine ⟨ih hv.init.1 no', by simp, ?_⟩
  rintro d hd d' hd' rfl
  cases List.mem_singleton.mp hd'
  have hne : e.1 ≠ e.2 := by have := hv.init.2; omega
  have c1 : Conn (metL l) (ivr l e.1) (ivr l e.2) := by
    by_cases h : ivr l e.2 < ivr l e.1
    · refine Conn.symm (.step .refl (.inl ?_))
      have : pr (ivr l e.1) (ivr l e.2) = (ivr l e.2, ivr l e.1) := by unfold pr; simp only [h, if_true]; rw [if_neg (by omega)]
      rw [← this]; exact hd
    · refine .step .refl (.inl ?_)
      have h2 : ivr l e.2 > ivr l e.1 := by have := ivr_ne (l := l) hne; omega
      have : pr (ivr l e.1) (ivr l e.2) = (ivr l e.1, ivr l e.2) := by unfold pr; simp only [h, h2, if_true, if_false]
      rw [← this]; exact hd
  have c2 := (conn_meet l _ _).mp c1
  exact no ⟨l, e, [], rfl, ((conn_ivr e.1 l).symm.trans c2).trans (conn_ivr e.2 l)⟩

abbrev s_met : Stmt := topS 20
theorem sc_met : FnScope ["cells", "log", "told", "things", "first", "second"] ["cells", "log"] (defScope s_met) := ⟨rfl, rfl, rfl, by decide +kernel, rfl, by decide +kernel, by decide +kernel⟩
section
variable {P : Program} {w : World} {K : PySem.W.Frag} {mg : Str → Option Value} {base : Heap}
def sp_met (K : PySem.W.Frag) : Sp := fun vs H Q _ => ∃ (n : Nat) (a : Addr) (log : List (Int × Int)), vs = [.int n, .ref a] ∧ 1 ≤ n ∧ n ≤ 16 ∧ log.length ≤ 1000 ∧ ValidL n log ∧ log.Nodup ∧ IsPairs K H a log ∧
  ∀ H' p (ts : List (Addr × Int × Int)), Loc H H' ((p, .lst (refs ts)) :: pairL ts) → vals ts = metL log → Q (.ref p) H'
theorem ok_met {f : Addr} {fd : FuncData} {k : Nat} (F : Fun K "met" "met" s_met f fd) (z_list : mg "list" = none) (z_range : mg "range" = none) (z_min : mg "min" = none) (z_max : mg "max" = none)
    (c_check_log : CalG P w K mg base k "check_log" s_check_log ["cells", "log"] (sp_check_log K)) : FG P w K mg base CX0 (k + 1) f fd ["cells", "log"] (sp_met K) := by
  refine fg_fun F sc_met (fun vs H Q E h => ?_) (fun cdv A out s H vs Q E hr hg h => ?_)
  · obtain ⟨n, a, log, rfl, _⟩ := h
    rfl
  · obtain ⟨n, a, log, rfl, n1, hn, hl, hv, hnd, hp, q⟩ := h
    refine ⟨_, (pss_cons (ps_expr (pe_cG c_check_log hr (by omega) hg (by rfl) (pa_cons (pv 0) (pa_cons (pv 1) pa_nil))))
      (pss_cons (ps_par (i := 2) (j := 3) (by rfl) sc_met.nd rfl rfl (by decide) rfl rfl (pa_cons (pe_lst pa_nil) (pa_cons (pe_listRg rfl (by rfl) z_list (prg_1 (by rfl) z_range (pe_op op_add (pv 0) pe_int))) pa_nil)) (by rfl))
      (pss_cons (ps_for PassesOwn.never rfl (pi_listK K rfl (pv 1)) (pg_tupK K rfl rfl (pgs_cons (pg_name (i := 4) sc_met.nd rfl (.inl rfl)) (pgs_cons (pg_name (i := 5) sc_met.nd rfl (.inl rfl)) pgs_nil)))
        (pss_cons (ps_expr (pe_bmK K rfl PySem.F.plainAttrs_list PySem.F.slot_list_append PySem.F.type_list_append mt_append (pv 2) (pa_cons (pe_tup (pa_cons (pe_callB (call_min2 rfl) (by rfl) z_min bt_min (pa_cons (pe_ix (ix_listK K rfl) (pv 3) (pv 4) (fun _ _ => rfl)) (pa_cons (pe_ix (ix_listK K rfl) (pv 3) (pv 5) (fun _ _ => rfl)) pa_nil))) (pa_cons (pe_callB (call_max2 rfl) (by rfl) z_max bt_max (pa_cons (pe_ix (ix_listK K rfl) (pv 3) (pv 4) (fun _ _ => rfl)) (pa_cons (pe_ix (ix_listK K rfl) (pv 3) (pv 5) (fun _ _ => rfl)) pa_nil))) pa_nil))) pa_nil)))
          (pss_one (ps_asg (pe_tup (pa_cons (pe_ix (ix_listK K rfl) (pv 3) (pv 5) (fun _ _ => rfl)) (pa_cons (pe_ix (ix_listK K rfl) (pv 3) (pv 4) (fun _ _ => rfl)) pa_nil))) (pg_tupK K rfl rfl (pgs_cons (pg_sub (pv 3) (pv 4) set_list) (pgs_cons (pg_sub (pv 3) (pv 5) set_list) pgs_nil)))))))
      (pss_one (ps_ret (pv 2)))))), ?_⟩
    refine ⟨_, rfl, _, rfl, n, a, log, rfl, n1, hn, hv, hnd, hp, fun H1 s1 => ?_⟩
    refine ⟨by decide, fun t ht => ⟨_, rfl, _, _, rfl, rfl, _, rfl, RgOk.of_le (by omega) (by omega) (by omega) (by omega), fun th hth => ⟨_, _, rfl, ?_⟩⟩⟩
    rw [thgs_start]
    have l0 := ((Loc.of s1).alloc (o := .lst []) ht).alloc (o := .lst (iv (thgsL n []))) hth
    obtain ⟨ts, ets, hts, htt⟩ := hp
    refine ⟨_, rfl, a, rfl, ⟨_, l0.same.seq hts⟩, for_list (K := K) (a := a) (xs := refs ts)
      (fun i σ H2 => ∃ (us : List (Addr × Int × Int)) (y4 y5 : Option V), σ = [some (.int n), some (.ref a), some (.ref t), some (.ref th), y4, y5] ∧ vals us = metL (log.take i) ∧
        Loc H H2 ((th, .lst (iv (thgsL n (log.take i)))) :: (t, .lst (refs us)) :: pairL us)) ?_ ?_ ?_ ?_⟩
    · exact ⟨[], none, none, rfl, rfl, l0⟩
    · rintro i σ H2 _ ⟨_, _, _, _, _, l2⟩
      exact l2.same.seq hts
    · rintro i x σ H2 hx ⟨us, y4, y5, rfl, er, l2⟩
      obtain ⟨⟨b, x1, x2⟩, hq, rfl⟩ := refs_inv hx
      have hT := Same.sqT l2.same (htt _ (List.mem_of_getElem? hq))
      have hwi : log[i]? = some (x1, x2) := by
        rw [← ets]; unfold vals; rw [List.getElem?_map, hq]; rfl
      have hvs : ValidL n (log.take i ++ [(x1, x2)]) := by rw [← take_snoc hwi]; exact fun q hq => hv q (List.mem_of_mem_take hq)
      obtain ⟨v0, v1, v2, v3⟩ := hvs.init
      simp only at v1 v2 v3
      have tl : (thgsL n (log.take i)).length = n + 1 := tab_len
      have g1 : (iv (thgsL n (log.take i)))[x1.toNat]? = some (.int (ivr (log.take i) x1)) := iv_get (by
        unfold thgsL; rw [tab_get (by omega), show ((x1.toNat : Nat) : Int) = x1 from by omega])
      have g2 : (iv (thgsL n (log.take i)))[x2.toNat]? = some (.int (ivr (log.take i) x2)) := iv_get (by
        unfold thgsL; rw [tab_get (by omega), show ((x2.toNat : Nat) : Int) = x2 from by omega])
      have ul : us.length < 1001 := by
        have := congrArg List.length er
        rw [vals_len, metL_len] at this
        have := List.length_take_le' i log
        omega
      have sT := SqL.of (K := K) (l2.atIx (i := 0) rfl)
      have A1 := at_of (xs := iv (thgsL n (log.take i))) (z := x1) (j := x1.toNat) (by omega) g1
      have A2 := at_of (xs := iv (thgsL n (log.take i))) (z := x2) (j := x2.toNat) (by omega) g2
      refine ⟨b, _, rfl, hT, rfl, _, _, rfl, _, _, rfl, rfl, ?_⟩
      refine ⟨_, rfl, .inl ⟨rfl, _, SqL.of (l2.atIx (i := 1) rfl)⟩, _, rfl, _, rfl, th, _, _, _, rfl, rfl, sT, A1, _, rfl, _, rfl, th, _, _, _, rfl, rfl, sT, A2, _, _, rfl,
        _, rfl, _, rfl, th, _, _, _, rfl, rfl, sT, A1, _, rfl, _, rfl, th, _, _, _, rfl, rfl, sT, A2, _, _, rfl, sl2, fun p hp => ?_⟩
      have l3 := l2.alloc (o := .tup [.int (pr (ivr (log.take i) x1) (ivr (log.take i) x2)).1, .int (pr (ivr (log.take i) x1) (ivr (log.take i) x2)).2]) hp
      refine ⟨t, refs us, _, rfl, rfl, l3.atIx (i := 2) rfl, sl_line' (by rw [refs_len]; omega), ?_⟩
      have l4 := l3.setIx (i := 2) (o' := .lst (refs us ++ [.ref p])) rfl
      have sT4 := SqL.of (K := K) (l4.atIx (i := 1) rfl)
      refine ⟨_, rfl, _, rfl, th, _, _, _, rfl, rfl, sT4, A2, _, rfl, _, rfl, th, _, _, _, rfl, rfl, sT4, A1, sl2, fun T hT' => ?_⟩
      have l5 := (l4.alloc (o := .tup [.int (ivr (log.take i) x2), .int (ivr (log.take i) x1)]) hT').drop1
      have l6 := l5.setIx (i := 1) (o' := .lst (iv (((thgsL n (log.take i)).set x1.toNat (ivr (log.take i) x2))))) rfl
      have l7 := l6.setIx (i := 1) (o' := .lst (iv (((thgsL n (log.take i)).set x1.toNat (ivr (log.take i) x2)).set x2.toNat (ivr (log.take i) x1)))) rfl
      have s1' : (iv (thgsL n (log.take i))).set x1.toNat (.int (ivr (log.take i) x2)) = iv ((thgsL n (log.take i)).set x1.toNat (ivr (log.take i) x2)) := List.map_set.symm
      have s2' : (iv ((thgsL n (log.take i)).set x1.toNat (ivr (log.take i) x2))).set x2.toNat (.int (ivr (log.take i) x1)) = iv (((thgsL n (log.take i)).set x1.toNat (ivr (log.take i) x2)).set x2.toNat (ivr (log.take i) x1)) := List.map_set.symm
      refine ⟨T, _, rfl, .inl (.inl upd_same), rfl, _, _, rfl, _, rfl, _, rfl, th, _, _, x1.toNat, rfl, rfl, l5.atIx (i := 1) rfl, ixI (by show 0 ≤ x1; omega) (by rw [iv_len]; show x1.toNat < _; omega), ?_⟩
      rw [s1']
      refine ⟨_, _, rfl, _, rfl, _, rfl, th, _, _, x2.toNat, rfl, rfl, l6.atIx (i := 1) rfl, ixI (by show 0 ≤ x2; omega) (by rw [iv_len, List.length_set]; show x2.toNat < _; omega), rfl, ?_⟩
      rw [s2']
      refine ⟨us ++ [(p, pr (ivr (log.take i) x1) (ivr (log.take i) x2))], _, _, rfl, ?_, ?_⟩
      · rw [take_snoc hwi, metL_snoc, ← er]
        unfold vals
        rw [List.map_append]
        rfl
      · rw [take_snoc hwi, thgs_step hvs, refs_snoc]
        have ep : pairL (us ++ [(p, pr (ivr (log.take i) x1) (ivr (log.take i) x2))]) = pairL us ++ [(p, .tup [.int (pr (ivr (log.take i) x1) (ivr (log.take i) x2)).1, .int (pr (ivr (log.take i) x1) (ivr (log.take i) x2)).2])] := List.map_append ..
        rw [ep]
        exact l7.perm (M := ((th, _) :: (t, _) :: pairL us) ++ [(p, _)]) List.perm_append_comm
    · rintro σ H2 ⟨us, y4, y5, rfl, er, l2⟩
      have full : log.take (refs ts).length = log := by
        rw [refs_len, ← vals_len ts, ets, List.take_length]
      rw [full] at er
      exact ⟨_, rfl, q H2 t us l2.drop1 er⟩
end

abbrev s__law_met : Stmt := topS 28
theorem sc__law_met : FnScope ["_law_size", "_law_made", "_law_things", "_law_told", "_law_one", "_law_two"] ["_law_size", "_law_made"] (defScope s__law_met) := ⟨rfl, rfl, rfl, by decide +kernel, rfl, by decide +kernel, by decide +kernel⟩
section
variable {P : Program} {w : World} {K : PySem.W.Frag} {mg : Str → Option Value} {base : Heap}
def sp__law_met (K : PySem.W.Frag) : Sp := fun vs H Q _ => ∃ (n : Nat) (a : Addr) (log : List (Int × Int)), vs = [.int n, .ref a] ∧ n ≤ 16 ∧ log.length ≤ 1000 ∧ ValidL n log ∧ IsPairs K H a log ∧
  ∀ H' p (ts : List (Addr × Int × Int)), Loc H H' ((p, .lst (refs ts)) :: pairL ts) → vals ts = metL log → Q (.ref p) H'
theorem ok__law_met {f : Addr} {fd : FuncData} {k : Nat} (F : Fun K "_law_met" "_law_met" s__law_met f fd) (z_list : mg "list" = none) (z_range : mg "range" = none) (z_min : mg "min" = none) (z_max : mg "max" = none) : FG P w K mg base CX0 (k + 1) f fd ["_law_size", "_law_made"] (sp__law_met K) := by
  refine fg_fun F sc__law_met (fun vs H Q E h => ?_) (fun cdv A out s H vs Q E hr hg h => ?_)
  · obtain ⟨n, a, log, rfl, _⟩ := h
    rfl
  · obtain ⟨n, a, log, rfl, hn, hl, hv, hp, q⟩ := h
    refine ⟨_, (pss_cons (ps_set (i := 2) sc__law_met.nd rfl (.inl rfl) (pe_listRg rfl (by rfl) z_list (prg_1 (by rfl) z_range (pe_op op_add (pv 0) pe_int))))
      (pss_cons (ps_set (i := 3) sc__law_met.nd rfl (.inl rfl) (pe_lst pa_nil))
      (pss_cons (ps_for PassesOwn.never rfl (pi_listK K rfl (pv 1)) (pg_tupK K rfl rfl (pgs_cons (pg_name (i := 4) sc__law_met.nd rfl (.inl rfl)) (pgs_cons (pg_name (i := 5) sc__law_met.nd rfl (.inl rfl)) pgs_nil)))
        (pss_cons (ps_expr (pe_bmK K rfl PySem.F.plainAttrs_list PySem.F.slot_list_append PySem.F.type_list_append mt_append (pv 3) (pa_cons (pe_tup (pa_cons (pe_callB (call_min2 rfl) (by rfl) z_min bt_min (pa_cons (pe_ix (ix_listK K rfl) (pv 2) (pv 4) (fun _ _ => rfl)) (pa_cons (pe_ix (ix_listK K rfl) (pv 2) (pv 5) (fun _ _ => rfl)) pa_nil))) (pa_cons (pe_callB (call_max2 rfl) (by rfl) z_max bt_max (pa_cons (pe_ix (ix_listK K rfl) (pv 2) (pv 4) (fun _ _ => rfl)) (pa_cons (pe_ix (ix_listK K rfl) (pv 2) (pv 5) (fun _ _ => rfl)) pa_nil))) pa_nil))) pa_nil)))
          (pss_one (ps_asg (pe_tup (pa_cons (pe_ix (ix_listK K rfl) (pv 2) (pv 5) (fun _ _ => rfl)) (pa_cons (pe_ix (ix_listK K rfl) (pv 2) (pv 4) (fun _ _ => rfl)) pa_nil))) (pg_tupK K rfl rfl (pgs_cons (pg_sub (pv 2) (pv 4) set_list) (pgs_cons (pg_sub (pv 2) (pv 5) set_list) pgs_nil)))))))
      (pss_one (ps_ret (pv 3)))))), ?_⟩
    refine ⟨_, rfl, _, _, rfl, rfl, _, rfl, RgOk.of_le (by omega) (by omega) (by omega) (by omega), fun th hth => ?_⟩
    rw [thgs_start]
    refine ⟨by decide, fun t ht => ?_⟩
    have l0 := (((Loc.refl H).alloc (o := .lst (iv (thgsL n []))) hth).alloc (o := .lst []) ht).perm (M := [(th, .lst (iv (thgsL n []))), (t, .lst [])]) (List.Perm.swap _ _ _)
    obtain ⟨ts, ets, hts, htt⟩ := hp
    refine ⟨_, rfl, a, rfl, ⟨_, l0.same.seq hts⟩, for_list (K := K) (a := a) (xs := refs ts)
      (fun i σ H2 => ∃ (us : List (Addr × Int × Int)) (y4 y5 : Option V), σ = [some (.int n), some (.ref a), some (.ref th), some (.ref t), y4, y5] ∧ vals us = metL (log.take i) ∧
        Loc H H2 ((th, .lst (iv (thgsL n (log.take i)))) :: (t, .lst (refs us)) :: pairL us)) ?_ ?_ ?_ ?_⟩
    · exact ⟨[], none, none, rfl, rfl, l0⟩
    · rintro i σ H2 _ ⟨_, _, _, _, _, l2⟩
      exact l2.same.seq hts
    · rintro i x σ H2 hx ⟨us, y4, y5, rfl, er, l2⟩
      obtain ⟨⟨b, x1, x2⟩, hq, rfl⟩ := refs_inv hx
      have hT := Same.sqT l2.same (htt _ (List.mem_of_getElem? hq))
      have hwi : log[i]? = some (x1, x2) := by
        rw [← ets]; unfold vals; rw [List.getElem?_map, hq]; rfl
      have hvs : ValidL n (log.take i ++ [(x1, x2)]) := by rw [← take_snoc hwi]; exact fun q hq => hv q (List.mem_of_mem_take hq)
      obtain ⟨v0, v1, v2, v3⟩ := hvs.init
      simp only at v1 v2 v3
      have tl : (thgsL n (log.take i)).length = n + 1 := tab_len
      have g1 : (iv (thgsL n (log.take i)))[x1.toNat]? = some (.int (ivr (log.take i) x1)) := iv_get (by
        unfold thgsL; rw [tab_get (by omega), show ((x1.toNat : Nat) : Int) = x1 from by omega])
      have g2 : (iv (thgsL n (log.take i)))[x2.toNat]? = some (.int (ivr (log.take i) x2)) := iv_get (by
        unfold thgsL; rw [tab_get (by omega), show ((x2.toNat : Nat) : Int) = x2 from by omega])
      have ul : us.length < 1001 := by
        have := congrArg List.length er
        rw [vals_len, metL_len] at this
        have := List.length_take_le' i log
        omega
      have sT := SqL.of (K := K) (l2.atIx (i := 0) rfl)
      have A1 := at_of (xs := iv (thgsL n (log.take i))) (z := x1) (j := x1.toNat) (by omega) g1
      have A2 := at_of (xs := iv (thgsL n (log.take i))) (z := x2) (j := x2.toNat) (by omega) g2
      refine ⟨b, _, rfl, hT, rfl, _, _, rfl, _, _, rfl, rfl, ?_⟩
      refine ⟨_, rfl, .inl ⟨rfl, _, SqL.of (l2.atIx (i := 1) rfl)⟩, _, rfl, _, rfl, th, _, _, _, rfl, rfl, sT, A1, _, rfl, _, rfl, th, _, _, _, rfl, rfl, sT, A2, _, _, rfl,
        _, rfl, _, rfl, th, _, _, _, rfl, rfl, sT, A1, _, rfl, _, rfl, th, _, _, _, rfl, rfl, sT, A2, _, _, rfl, sl2, fun p hp => ?_⟩
      have l3 := l2.alloc (o := .tup [.int (pr (ivr (log.take i) x1) (ivr (log.take i) x2)).1, .int (pr (ivr (log.take i) x1) (ivr (log.take i) x2)).2]) hp
      refine ⟨t, refs us, _, rfl, rfl, l3.atIx (i := 2) rfl, sl_line' (by rw [refs_len]; omega), ?_⟩
      have l4 := l3.setIx (i := 2) (o' := .lst (refs us ++ [.ref p])) rfl
      have sT4 := SqL.of (K := K) (l4.atIx (i := 1) rfl)
      refine ⟨_, rfl, _, rfl, th, _, _, _, rfl, rfl, sT4, A2, _, rfl, _, rfl, th, _, _, _, rfl, rfl, sT4, A1, sl2, fun T hT' => ?_⟩
      have l5 := (l4.alloc (o := .tup [.int (ivr (log.take i) x2), .int (ivr (log.take i) x1)]) hT').drop1
      have l6 := l5.setIx (i := 1) (o' := .lst (iv (((thgsL n (log.take i)).set x1.toNat (ivr (log.take i) x2))))) rfl
      have l7 := l6.setIx (i := 1) (o' := .lst (iv (((thgsL n (log.take i)).set x1.toNat (ivr (log.take i) x2)).set x2.toNat (ivr (log.take i) x1)))) rfl
      have s1' : (iv (thgsL n (log.take i))).set x1.toNat (.int (ivr (log.take i) x2)) = iv ((thgsL n (log.take i)).set x1.toNat (ivr (log.take i) x2)) := List.map_set.symm
      have s2' : (iv ((thgsL n (log.take i)).set x1.toNat (ivr (log.take i) x2))).set x2.toNat (.int (ivr (log.take i) x1)) = iv (((thgsL n (log.take i)).set x1.toNat (ivr (log.take i) x2)).set x2.toNat (ivr (log.take i) x1)) := List.map_set.symm
      refine ⟨T, _, rfl, .inl (.inl upd_same), rfl, _, _, rfl, _, rfl, _, rfl, th, _, _, x1.toNat, rfl, rfl, l5.atIx (i := 1) rfl, ixI (by show 0 ≤ x1; omega) (by rw [iv_len]; show x1.toNat < _; omega), ?_⟩
      rw [s1']
      refine ⟨_, _, rfl, _, rfl, _, rfl, th, _, _, x2.toNat, rfl, rfl, l6.atIx (i := 1) rfl, ixI (by show 0 ≤ x2; omega) (by rw [iv_len, List.length_set]; show x2.toNat < _; omega), rfl, ?_⟩
      rw [s2']
      refine ⟨us ++ [(p, pr (ivr (log.take i) x1) (ivr (log.take i) x2))], _, _, rfl, ?_, ?_⟩
      · rw [take_snoc hwi, metL_snoc, ← er]
        unfold vals
        rw [List.map_append]
        rfl
      · rw [take_snoc hwi, thgs_step hvs, refs_snoc]
        have ep : pairL (us ++ [(p, pr (ivr (log.take i) x1) (ivr (log.take i) x2))]) = pairL us ++ [(p, .tup [.int (pr (ivr (log.take i) x1) (ivr (log.take i) x2)).1, .int (pr (ivr (log.take i) x1) (ivr (log.take i) x2)).2])] := List.map_append ..
        rw [ep]
        exact l7.perm (M := ((th, _) :: (t, _) :: pairL us) ++ [(p, _)]) List.perm_append_comm
    · rintro σ H2 ⟨us, y4, y5, rfl, er, l2⟩
      have full : log.take (refs ts).length = log := by
        rw [refs_len, ← vals_len ts, ets, List.take_length]
      rw [full] at er
      exact ⟨_, rfl, q H2 t us l2.drop1 er⟩
end

abbrev s__law_ends : Stmt := topS 26
theorem sc__law_ends : FnScope ["_law_size", "_law_made", "_law_things", "_law_one", "_law_two", "_law_told", "_law_k"] ["_law_size", "_law_made"] (defScope s__law_ends) := ⟨rfl, rfl, rfl, by decide +kernel, rfl, by decide +kernel, by decide +kernel⟩
section
variable {P : Program} {w : World} {K : PySem.W.Frag} {mg : Str → Option Value} {base : Heap}
def sp__law_ends (K : PySem.W.Frag) : Sp := fun vs H Q _ => ∃ (n : Nat) (a : Addr) (log : List (Int × Int)), vs = [.int n, .ref a] ∧ n ≤ 16 ∧ log.length ≤ 1000 ∧ ValidL n log ∧ IsPairs K H a log ∧
  ∀ H' p, Loc H H' [(p, .lst (iv (endsL n log)))] → Q (.ref p) H'
theorem ok__law_ends {f : Addr} {fd : FuncData} {k : Nat} (F : Fun K "_law_ends" "_law_ends" s__law_ends f fd) (z_list : mg "list" = none) (z_range : mg "range" = none) : FG P w K mg base CX0 (k + 1) f fd ["_law_size", "_law_made"] (sp__law_ends K) := by
  refine fg_fun F sc__law_ends (fun vs H Q E h => ?_) (fun cdv A out s H vs Q E hr hg h => ?_)
  · obtain ⟨n, a, log, rfl, _⟩ := h
    rfl
  · obtain ⟨n, a, log, rfl, hn, hl, hv, hp, q⟩ := h
    refine ⟨_, (pss_cons (ps_set (i := 2) sc__law_ends.nd rfl (.inl rfl) (pe_listRg rfl (by rfl) z_list (prg_1 (by rfl) z_range (pe_op op_add (pv 0) pe_int))))
      (pss_cons (ps_for PassesOwn.never rfl (pi_listK K rfl (pv 1)) (pg_tupK K rfl rfl (pgs_cons (pg_name (i := 3) sc__law_ends.nd rfl (.inl rfl)) (pgs_cons (pg_name (i := 4) sc__law_ends.nd rfl (.inl rfl)) pgs_nil)))
        (pss_one (ps_asg (pe_tup (pa_cons (pe_ix (ix_listK K rfl) (pv 2) (pv 4) (fun _ _ => rfl)) (pa_cons (pe_ix (ix_listK K rfl) (pv 2) (pv 3) (fun _ _ => rfl)) pa_nil))) (pg_tupK K rfl rfl (pgs_cons (pg_sub (pv 2) (pv 3) set_list) (pgs_cons (pg_sub (pv 2) (pv 4) set_list) pgs_nil))))))
      (pss_cons (ps_set (i := 5) sc__law_ends.nd rfl (.inl rfl) (pe_op op_rep (pe_lst (pa_cons pe_int pa_nil)) (pv 0)))
      (pss_cons (ps_for PassesOwn.never rfl (pi_range2 (by rfl) z_range (pa_cons pe_int (pa_cons (pe_op op_add (pv 0) pe_int) pa_nil))) (pg_name (i := 6) sc__law_ends.nd rfl (.inl rfl))
        (pss_one (ps_asg (pv 6) (pg_sub (pv 5) (pe_op op_sub (pe_ix (ix_listK K rfl) (pv 2) (pv 6) (fun _ _ => rfl)) pe_int) set_list))))
      (pss_one (ps_ret (pv 5))))))), ?_⟩
    refine ⟨_, rfl, _, _, rfl, rfl, _, rfl, RgOk.of_le (by omega) (by omega) (by omega) (by omega), fun th hth => ?_⟩
    rw [thgs_start]
    have l0 := (Loc.refl H).alloc (o := .lst (iv (thgsL n []))) hth
    obtain ⟨ts, ets, hts, htt⟩ := hp
    refine ⟨_, rfl, a, rfl, ⟨_, l0.same.seq hts⟩, for_list (K := K) (a := a) (xs := refs ts)
      (fun i σ H2 => ∃ y3 y4 : Option V, σ = [some (.int n), some (.ref a), some (.ref th), y3, y4, none, none] ∧ Loc H H2 [(th, .lst (iv (thgsL n (log.take i))))]) ?_ ?_ ?_ ?_⟩
    · exact ⟨none, none, rfl, l0⟩
    · rintro i σ H2 _ ⟨_, _, _, l2⟩
      exact l2.same.seq hts
    · rintro i x σ H2 hx ⟨y4, y5, rfl, l2⟩
      obtain ⟨⟨b, x1, x2⟩, hq, rfl⟩ := refs_inv hx
      have hT := Same.sqT l2.same (htt _ (List.mem_of_getElem? hq))
      have hwi : log[i]? = some (x1, x2) := by
        rw [← ets]; unfold vals; rw [List.getElem?_map, hq]; rfl
      have hvs : ValidL n (log.take i ++ [(x1, x2)]) := by rw [← take_snoc hwi]; exact fun q hq => hv q (List.mem_of_mem_take hq)
      obtain ⟨v0, v1, v2, v3⟩ := hvs.init
      simp only at v1 v2 v3
      have tl : (thgsL n (log.take i)).length = n + 1 := tab_len
      have g1 : (iv (thgsL n (log.take i)))[x1.toNat]? = some (.int (ivr (log.take i) x1)) := iv_get (by
        unfold thgsL; rw [tab_get (by omega), show ((x1.toNat : Nat) : Int) = x1 from by omega])
      have g2 : (iv (thgsL n (log.take i)))[x2.toNat]? = some (.int (ivr (log.take i) x2)) := iv_get (by
        unfold thgsL; rw [tab_get (by omega), show ((x2.toNat : Nat) : Int) = x2 from by omega])
      have sT := SqL.of (K := K) l2.at0
      have A1 := at_of (xs := iv (thgsL n (log.take i))) (z := x1) (j := x1.toNat) (by omega) g1
      have A2 := at_of (xs := iv (thgsL n (log.take i))) (z := x2) (j := x2.toNat) (by omega) g2
      refine ⟨b, _, rfl, hT, rfl, _, _, rfl, _, _, rfl, rfl, ?_⟩
      refine ⟨_, rfl, _, rfl, th, _, _, _, rfl, rfl, sT, A2, _, rfl, _, rfl, th, _, _, _, rfl, rfl, sT, A1, sl2, fun T hT' => ?_⟩
      have l5 := (l2.alloc (o := .tup [.int (ivr (log.take i) x2), .int (ivr (log.take i) x1)]) hT').drop1
      have l6 := l5.put0 (o' := .lst (iv (((thgsL n (log.take i)).set x1.toNat (ivr (log.take i) x2)))))
      have l7 := l6.put0 (o' := .lst (iv (((thgsL n (log.take i)).set x1.toNat (ivr (log.take i) x2)).set x2.toNat (ivr (log.take i) x1))))
      have s1' : (iv (thgsL n (log.take i))).set x1.toNat (.int (ivr (log.take i) x2)) = iv ((thgsL n (log.take i)).set x1.toNat (ivr (log.take i) x2)) := List.map_set.symm
      have s2' : (iv ((thgsL n (log.take i)).set x1.toNat (ivr (log.take i) x2))).set x2.toNat (.int (ivr (log.take i) x1)) = iv (((thgsL n (log.take i)).set x1.toNat (ivr (log.take i) x2)).set x2.toNat (ivr (log.take i) x1)) := List.map_set.symm
      refine ⟨T, _, rfl, .inl (.inl upd_same), rfl, _, _, rfl, _, rfl, _, rfl, th, _, _, x1.toNat, rfl, rfl, l5.at0, ixI (by show 0 ≤ x1; omega) (by rw [iv_len]; show x1.toNat < _; omega), ?_⟩
      rw [s1']
      refine ⟨_, _, rfl, _, rfl, _, rfl, th, _, _, x2.toNat, rfl, rfl, l6.at0, ixI (by show 0 ≤ x2; omega) (by rw [iv_len, List.length_set]; show x2.toNat < _; omega), rfl, ?_⟩
      rw [s2']
      refine ⟨_, _, rfl, ?_⟩
      rw [take_snoc hwi, thgs_step hvs]
      exact l7
    · rintro σ H2 ⟨y4, y5, rfl, l2⟩
      have full : log.take (refs ts).length = log := by
        rw [refs_len, ← vals_len ts, ets, List.take_length]
      rw [full] at l2
      refine ⟨sl1, fun e he => ⟨_, rfl, e, n, _, rfl, rfl, upd_same, by omega, by omega, Nat.le_of_lt (sl_line' (by simp; omega)), fun p hp => ?_⟩⟩
      have ez : (List.replicate (n : Int).toNat [V.int 0]).flatten = iv (tab n fun m => if loc log (m + 1) ≤ (0 : Nat) then loc log (m + 1) else 0) := by
        have e1 : tab n (fun m => if loc log (m + 1) ≤ (0 : Nat) then loc log (m + 1) else 0) = tab n fun _ => (0 : Int) := tab_ext fun j hj => by
          have := loc_in hv ((j : Int) + 1) (by omega)
          rw [if_neg (by omega)]
        rw [e1]
        have e2 : ∀ m : Nat, (List.replicate m [V.int 0]).flatten = iv (tab m fun _ => (0 : Int)) := fun m => by
          induction m with
          | zero => rfl
          | succ m ih => rw [List.replicate_succ', List.flatten_append, ih, tab_succ, iv_snoc]; rfl
        exact e2 n
      rw [ez]
      have l3 := ((l2.alloc (o := .lst [.int 0]) he).drop1).alloc (o := .lst (iv (tab n fun m => if loc log (m + 1) ≤ (0 : Nat) then loc log (m + 1) else 0))) hp
      refine ⟨_, rfl, _, _, rfl, rfl, _, _, rfl, by omega, for_range (lo := 1) (n := ((n : Int) + 1 - 1).toNat)
        (fun i σ H3 => ∃ y6 : Option V, σ = [some (.int n), some (.ref a), some (.ref th), y4, y5, some (.ref p), y6] ∧ Loc H H3 [(p, .lst (iv (tab n fun m => if loc log (m + 1) ≤ (i : Nat) then loc log (m + 1) else 0))), (th, .lst (iv (thgsL n log)))]) ?_ ?_ ?_⟩
      · exact ⟨none, rfl, l3⟩
      · rintro i σ H3 hi ⟨y6, rfl, l4⟩
        have ik := ivr_in hv (1 + (i : Int)) (by omega)
        have g1 : (iv (thgsL n log))[i + 1]? = some (.int (ivr log (1 + (i : Int)))) := iv_get (by
          unfold thgsL; rw [tab_get (by omega), show ((i + 1 : Nat) : Int) = 1 + (i : Int) from by omega])
        refine ⟨_, rfl, _, rfl, _, rfl, _, rfl, th, _, _, _, rfl, rfl, SqL.of (l4.atIx (i := 1) rfl), at_of (j := i + 1) (by show 1 + (i : Int) = _; omega) g1, _, _, rfl, rfl,
          p, _, _, (ivr log (1 + (i : Int)) - 1).toNat, rfl, rfl, l4.at0, ixI (by show 0 ≤ ivr log (1 + (i : Int)) - 1; omega) (by rw [iv_len, tab_len]; show (ivr log (1 + (i : Int)) - 1).toNat < n; omega), _, rfl, ?_⟩
        have es : (iv (tab n fun m => if loc log (m + 1) ≤ (i : Nat) then loc log (m + 1) else 0)).set (ivr log (1 + (i : Int)) - 1).toNat (.int (1 + (i : Int))) = iv (tab n fun m => if loc log (m + 1) ≤ ((i + 1 : Nat) : Int) then loc log (m + 1) else 0) := by
          have e0 : (iv (tab n fun m => if loc log (m + 1) ≤ (i : Nat) then loc log (m + 1) else 0)).set (ivr log (1 + (i : Int)) - 1).toNat (.int (1 + (i : Int))) = iv ((tab n fun m => if loc log (m + 1) ≤ (i : Nat) then loc log (m + 1) else 0).set (ivr log (1 + (i : Int)) - 1).toNat (1 + (i : Int))) := List.map_set.symm
          rw [e0, tab_set]
          congr 1
          refine tab_ext fun m hm => ?_
          have km : loc log ((m : Int) + 1) = 1 + i ↔ (m : Int) + 1 = ivr log (1 + i) := ⟨fun h => by rw [← h, ivr_loc], fun h => by rw [h, loc_ivr]⟩
          by_cases h1 : m = (ivr log (1 + (i : Int)) - 1).toNat
          · have h2 := km.mpr (by omega)
            rw [if_pos h1, h2, if_pos (by omega)]
          · have h2 : loc log ((m : Int) + 1) ≠ 1 + i := fun z => h1 (by have := km.mp z; omega)
            rw [if_neg h1]
            by_cases h3 : loc log ((m : Int) + 1) ≤ (i : Nat)
            · rw [if_pos h3, if_pos (by omega)]
            · rw [if_neg h3, if_neg (by omega)]
        rw [es]
        exact l4.put0
      · rintro σ H3 ⟨y6, rfl, l4⟩
        have ef : tab n (fun m => if loc log (m + 1) ≤ (((n : Int) + 1 - 1).toNat : Nat) then loc log (m + 1) else 0) = endsL n log := tab_ext fun j hj => by
          have := loc_in hv ((j : Int) + 1) (by omega)
          rw [if_pos (by omega)]
        rw [ef] at l4
        exact ⟨_, rfl, q H3 p (l4.keep (List.Sublist.cons_cons _ (List.nil_sublist _)))⟩
end

abbrev s_ways_after : Stmt := topS 16
theorem sc_ways_after : FnScope ["cells", "log", "ways", "things", "first", "second", "cell"] ["cells", "log"] (defScope s_ways_after) := ⟨rfl, rfl, rfl, by decide +kernel, rfl, by decide +kernel, by decide +kernel⟩
abbrev s_ends_after : Stmt := topS 17
theorem sc_ends_after : FnScope ["cells", "log", "way"] ["cells", "log"] (defScope s_ends_after) := ⟨rfl, rfl, rfl, by decide +kernel, rfl, by decide +kernel, by decide +kernel⟩
section
variable {P : Program} {w : World} {K : PySem.W.Frag} {mg : Str → Option Value} {base : Heap}
def sp_ways_after (K : PySem.W.Frag) : Sp := fun vs H Q _ => ∃ (n : Nat) (a : Addr) (log : List (Int × Int)), vs = [.int n, .ref a] ∧ n ≤ 16 ∧ log.length ≤ 1000 ∧ ValidL n log ∧ IsPairs K H a log ∧
  ∀ H' p (rs : List (Addr × List Int)), Loc H H' ((p, .lst (refs rs)) :: rowL rs) → vals rs = waysL n log → Q (.ref p) H'
theorem ok_ways_after {f : Addr} {fd : FuncData} {k : Nat} (F : Fun K "ways_after" "ways_after" s_ways_after f fd) (z_range : mg "range" = none) (z_list : mg "list" = none) : FG P w K mg base CX0 (k + 1) f fd ["cells", "log"] (sp_ways_after K) := by
  refine fg_fun F sc_ways_after (fun vs H Q E h => ?_) (fun cdv A out s H vs Q E hr hg h => ?_)
  · obtain ⟨n, a, log, rfl, _⟩ := h
    rfl
  · obtain ⟨n, a, log, rfl, hn, hl, hv, hp, q⟩ := h
    refine ⟨_, (pss_cons (ps_setLc (i := 2) (own := [("cell", 6)]) (tt := tYes) rfl sc_ways_after.nd rfl rfl (sw_true rfl rfl rfl (by decide +kernel)) (pi_range2 (by rfl) z_range (pa_cons pe_int (pa_cons (pe_op op_add (pv 0) pe_int) pa_nil))) (blkOk_by (N := ["cells", "log", "ways", "things", "first", "second", "cell"]) (sc := defScope s_ways_after) (by decide +kernel)) (fun _ _ _ _ _ => (pg_name (i := 6) sc_ways_after.nd rfl (Or.inl rfl))) (fun _ _ _ _ _ => pts_nil) (fun _ _ _ _ _ => (pe_lst (pa_cons (pv 6) pa_nil))))
      (pss_cons (ps_set (i := 3) sc_ways_after.nd rfl (.inl rfl) (pe_listRg rfl (by rfl) z_list (prg_1 (by rfl) z_range (pe_op op_add (pv 0) pe_int))))
      (pss_cons (ps_for PassesOwn.never rfl (pi_listK K rfl (pv 1)) (pg_tupK K rfl rfl (pgs_cons (pg_name (i := 4) sc_ways_after.nd rfl (.inl rfl)) (pgs_cons (pg_name (i := 5) sc_ways_after.nd rfl (.inl rfl)) pgs_nil)))
        (pss_cons (ps_expr (pe_bmK K rfl PySem.F.plainAttrs_list PySem.F.slot_list_append PySem.F.type_list_append mt_append (pe_ix (ix_listK K rfl) (pv 2) (pe_op op_sub (pe_ix (ix_listK K rfl) (pv 3) (pv 4) (fun _ _ => rfl)) pe_int) (fun _ _ => rfl)) (pa_cons (pv 5) pa_nil)))
          (pss_cons (ps_expr (pe_bmK K rfl PySem.F.plainAttrs_list PySem.F.slot_list_append PySem.F.type_list_append mt_append (pe_ix (ix_listK K rfl) (pv 2) (pe_op op_sub (pe_ix (ix_listK K rfl) (pv 3) (pv 5) (fun _ _ => rfl)) pe_int) (fun _ _ => rfl)) (pa_cons (pv 4) pa_nil)))
          (pss_one (ps_asg (pe_tup (pa_cons (pe_ix (ix_listK K rfl) (pv 3) (pv 5) (fun _ _ => rfl)) (pa_cons (pe_ix (ix_listK K rfl) (pv 3) (pv 4) (fun _ _ => rfl)) pa_nil))) (pg_tupK K rfl rfl (pgs_cons (pg_sub (pv 3) (pv 4) set_list) (pgs_cons (pg_sub (pv 3) (pv 5) set_list) pgs_nil))))))))
      (pss_one (ps_ret (pv 2)))))), ?_⟩
    refine ⟨_, rfl, _, _, rfl, rfl, _, _, rfl, by omega, fun t ht => lc_range (lo := 1) (n := ((n : Int) + 1 - 1).toNat)
      (fun i H1 => ∃ rs : List (Addr × List Int), vals rs = tab i (fun m => way [] (m + 1)) ∧ Loc H H1 ((t, .lst (refs rs)) :: rowL rs)) ?_ ?_ ?_⟩
    · exact ⟨[], rfl, (Loc.refl H).alloc ht⟩
    · rintro i H1 hi ⟨rs, e, l⟩
      refine ⟨rfl, _, rfl, sl1, fun p hp' => ⟨refs rs, ?_, ?_, rs ++ [(p, [1 + (i : Int)])], ?_, l.rowNew (row := [1 + (i : Int)]) hp'⟩⟩
      · rw [upd_ne (ne_of_none l.at0 hp')]; exact l.at0
      · have := congrArg List.length e
        rw [vals_len, tab_len] at this
        exact sl_line' (by rw [refs_len]; omega)
      · rw [tab_succ, ← e]
        unfold vals
        rw [List.map_append, show way [] ((i : Int) + 1) = [1 + (i : Int)] from by show [(i : Int) + 1] = _; rw [Int.add_comm]]
        rfl
    · rintro H1 ⟨rs, e, l⟩
      have e1 : ((n : Int) + 1 - 1).toNat = n := by omega
      rw [e1] at e
      refine ⟨_, rfl, _, _, rfl, rfl, _, rfl, RgOk.of_le (by omega) (by omega) (by omega) (by omega), fun th hth => ?_⟩
      rw [thgs_start]
      have l0 := l.alloc (o := .lst (iv (thgsL n []))) hth
      obtain ⟨ts, ets, hts, htt⟩ := hp
      refine ⟨_, rfl, a, rfl, ⟨_, l0.same.seq hts⟩, for_list (K := K) (a := a) (xs := refs ts)
        (fun i σ H2 => ∃ (rs : List (Addr × List Int)) (y4 y5 : Option V), σ = [some (.int n), some (.ref a), some (.ref t), some (.ref th), y4, y5, none] ∧ vals rs = waysL n (log.take i) ∧
          Loc H H2 ([(th, .lst (iv (thgsL n (log.take i)))), (t, .lst (refs rs))] ++ rowL rs)) ?_ ?_ ?_ ?_⟩
      · exact ⟨rs, none, none, rfl, e, l0⟩
      · rintro i σ H2 _ ⟨_, _, _, _, _, l2⟩
        exact l2.same.seq hts
      · rintro i x σ H2 hx ⟨rs, y4, y5, rfl, er, l2⟩
        obtain ⟨⟨b, x1, x2⟩, hq, rfl⟩ := refs_inv hx
        have hT := Same.sqT l2.same (htt _ (List.mem_of_getElem? hq))
        have hwi : log[i]? = some (x1, x2) := by
          rw [← ets]; unfold vals; rw [List.getElem?_map, hq]; rfl
        have hvs : ValidL n (log.take i ++ [(x1, x2)]) := by rw [← take_snoc hwi]; exact fun q hq => hv q (List.mem_of_mem_take hq)
        obtain ⟨v0, v1, v2, v3⟩ := hvs.init
        simp only at v1 v2 v3
        have ia := ivr_in v0 x1 (by omega)
        have ib := ivr_in v0 x2 (by omega)
        have ne : ivr (log.take i) x1 ≠ ivr (log.take i) x2 := fun e => by
          have := loc_ivr (log.take i) x1
          rw [e, loc_ivr] at this
          omega
        have tl : (thgsL n (log.take i)).length = n + 1 := tab_len
        have g1 : (iv (thgsL n (log.take i)))[x1.toNat]? = some (.int (ivr (log.take i) x1)) := iv_get (by
          unfold thgsL; rw [tab_get (by omega), show ((x1.toNat : Nat) : Int) = x1 from by omega])
        have g2 : (iv (thgsL n (log.take i)))[x2.toNat]? = some (.int (ivr (log.take i) x2)) := iv_get (by
          unfold thgsL; rw [tab_get (by omega), show ((x2.toNat : Nat) : Int) = x2 from by omega])
        have wl : ∀ t, (iv (way (log.take i) t)).length < sizeLine := fun t => sl_line' (by
          have h1 := way_len t (log.take i)
          have h2 := List.length_take_le' i log
          rw [iv_len]; omega)
        obtain ⟨r1, hr1⟩ : ∃ r1, rs[(ivr (log.take i) x1 - 1).toNat]? = some (r1, way (log.take i) (ivr (log.take i) x1)) := vals_get (by
          rw [er]; unfold waysL; rw [tab_get (by omega), show (((ivr (log.take i) x1 - 1).toNat : Nat) : Int) + 1 = ivr (log.take i) x1 from by omega])
        have at1 := l2.rowAt hr1
        refine ⟨b, _, rfl, hT, rfl, _, _, rfl, _, _, rfl, rfl, ?_⟩
        refine ⟨_, rfl, _, rfl, _, rfl, th, _, _, _, rfl, rfl, SqL.of (l2.atIx (i := 0) rfl), at_of (j := x1.toNat) (by show x1 = _; omega) g1, _, _, rfl, rfl, ?_⟩
        refine ⟨t, refs rs, _, _, rfl, rfl, SqL.of (l2.atIx (i := 1) rfl), at_of (j := (ivr (log.take i) x1 - 1).toNat) (by show ivr (log.take i) x1 - 1 = _; omega) (refs_get hr1), .inl ⟨rfl, _, SqL.of at1⟩, _, rfl, r1, _, _, rfl, rfl, at1, wl _, ?_⟩
        have l3 := l2.rowGrowP (z := x2) hr1
        obtain ⟨r2, hr2⟩ : ∃ r2, (rs.set (ivr (log.take i) x1 - 1).toNat (r1, way (log.take i) (ivr (log.take i) x1) ++ [x2]))[(ivr (log.take i) x2 - 1).toNat]? = some (r2, way (log.take i) (ivr (log.take i) x2)) := by
          rw [List.getElem?_set, if_neg (by omega)]
          exact vals_get (by
            rw [er]; unfold waysL; rw [tab_get (by omega), show (((ivr (log.take i) x2 - 1).toNat : Nat) : Int) + 1 = ivr (log.take i) x2 from by omega])
        have at2 := l3.rowAt hr2
        have rf : refs (rs.set (ivr (log.take i) x1 - 1).toNat (r1, way (log.take i) (ivr (log.take i) x1) ++ [x2])) = refs rs := refs_set hr1
        have gr2 : (refs rs)[(ivr (log.take i) x2 - 1).toNat]? = some (.ref r2) := by rw [← rf]; exact refs_get hr2
        refine ⟨_, rfl, _, rfl, _, rfl, th, _, _, _, rfl, rfl, SqL.of (l3.atIx (i := 0) rfl), at_of (j := x2.toNat) (by show x2 = _; omega) g2, _, _, rfl, rfl, ?_⟩
        refine ⟨t, refs rs, _, _, rfl, rfl, SqL.of (l3.atIx (i := 1) rfl), at_of (j := (ivr (log.take i) x2 - 1).toNat) (by show ivr (log.take i) x2 - 1 = _; omega) gr2, .inl ⟨rfl, _, SqL.of at2⟩, _, rfl, r2, _, _, rfl, rfl, at2, wl _, ?_⟩
        have l4 := l3.rowGrowP (z := x1) hr2
        have rf2 := (refs_set (i := (ivr (log.take i) x2 - 1).toNat) (y := way (log.take i) (ivr (log.take i) x2) ++ [x1]) hr2).trans rf
        refine ⟨_, rfl, _, rfl, th, _, _, _, rfl, rfl, SqL.of (l4.atIx (i := 0) rfl), at_of (j := x2.toNat) (by show x2 = _; omega) g2, _, rfl, _, rfl, th, _, _, _, rfl, rfl, SqL.of (l4.atIx (i := 0) rfl), at_of (j := x1.toNat) (by show x1 = _; omega) g1, sl2, fun T hT' => ?_⟩
        have l5 := (l4.alloc (o := .tup [.int (ivr (log.take i) x2), .int (ivr (log.take i) x1)]) hT').drop1
        have l6 := l5.put0 (o' := .lst (iv (((thgsL n (log.take i)).set x1.toNat (ivr (log.take i) x2)))))
        have l7 := l6.put0 (o' := .lst (iv (((thgsL n (log.take i)).set x1.toNat (ivr (log.take i) x2)).set x2.toNat (ivr (log.take i) x1))))
        have s1 : (iv (thgsL n (log.take i))).set x1.toNat (.int (ivr (log.take i) x2)) = iv ((thgsL n (log.take i)).set x1.toNat (ivr (log.take i) x2)) := List.map_set.symm
        have s2 : (iv ((thgsL n (log.take i)).set x1.toNat (ivr (log.take i) x2))).set x2.toNat (.int (ivr (log.take i) x1)) = iv (((thgsL n (log.take i)).set x1.toNat (ivr (log.take i) x2)).set x2.toNat (ivr (log.take i) x1)) := List.map_set.symm
        refine ⟨T, _, rfl, .inl (.inl upd_same), rfl, _, _, rfl, _, rfl, _, rfl, th, _, _, x1.toNat, rfl, rfl, l5.at0, ixI (by show 0 ≤ x1; omega) (by rw [iv_len]; show x1.toNat < _; omega), ?_⟩
        rw [s1]
        refine ⟨_, _, rfl, _, rfl, _, rfl, th, _, _, x2.toNat, rfl, rfl, l6.at0, ixI (by show 0 ≤ x2; omega) (by rw [iv_len, List.length_set]; show x2.toNat < _; omega), rfl, ?_⟩
        rw [s2]
        refine ⟨(rs.set (ivr (log.take i) x1 - 1).toNat (r1, way (log.take i) (ivr (log.take i) x1) ++ [x2])).set (ivr (log.take i) x2 - 1).toNat (r2, way (log.take i) (ivr (log.take i) x2) ++ [x1]), _, _, rfl, ?_, ?_⟩
        · rw [vals_set, vals_set, er, take_snoc hwi, ways_step hvs]
        · rw [take_snoc hwi, thgs_step hvs, rf2]
          exact l7
      · rintro σ H2 ⟨rs, y4, y5, rfl, er, l2⟩
        have full : log.take (refs ts).length = log := by
          rw [refs_len, ← vals_len ts, ets, List.take_length]
        rw [full] at er l2
        exact ⟨_, rfl, q H2 t rs l2.drop1 er⟩
/-- where each thing ends -/
def sp_ends_after (K : PySem.W.Frag) : Sp := fun vs H Q _ => ∃ (n : Nat) (a : Addr) (log : List (Int × Int)), vs = [.int n, .ref a] ∧ n ≤ 16 ∧ log.length ≤ 1000 ∧ ValidL n log ∧ IsPairs K H a log ∧
  ∀ H' p, Loc H H' [(p, .lst (iv (endsL n log)))] → Q (.ref p) H'
theorem ok_ends_after {f : Addr} {fd : FuncData} {k : Nat} (F : Fun K "ends_after" "ends_after" s_ends_after f fd) (c_ways_after : CalG P w K mg base k "ways_after" s_ways_after ["cells", "log"] (sp_ways_after K)) : FG P w K mg base CX0 (k + 1) f fd ["cells", "log"] (sp_ends_after K) := by
  refine fg_fun F sc_ends_after (fun vs H Q E h => ?_) (fun cdv A out s H vs Q E hr hg h => ?_)
  · obtain ⟨n, a, log, rfl, _⟩ := h
    rfl
  · obtain ⟨n, a, log, rfl, hn, hl, hv, hp, q⟩ := h
    refine ⟨_, (pss_one (ps_ret (pe_lc (own := [("way", 2)]) (tt := tYes) rfl sc_ends_after.nd (pi_listK K rfl (pe_cG c_ways_after hr (by omega) hg (by rfl) (pa_cons (pv 0) (pa_cons (pv 1) pa_nil)))) (blkOk_by (N := ["cells", "log", "way"]) (sc := defScope s_ends_after) (by decide +kernel)) (fun _ _ _ _ _ => (pg_name (i := 2) sc_ends_after.nd rfl (Or.inl rfl))) (fun _ _ _ _ _ => pts_nil) (fun _ _ _ _ _ => (pe_ix (ix_listK K rfl) (pv 2) (pe_un un_neg pe_int) (fun _ _ => rfl)))))), ?_⟩
    refine ⟨_, rfl, _, rfl, n, a, log, rfl, hn, hl, hv, hp, fun H1 p rs l er => ⟨p, rfl, ⟨_, SqL.of l.at0⟩, fun D hD => lc_list (K := K) (a := p) (xs := refs rs)
      (fun i H2 => Loc H H2 ((D, .lst (iv (tab i fun m => loc log (m + 1)))) :: (p, .lst (refs rs)) :: rowL rs)) (l.alloc hD) (fun i H2 _ l2 => SqL.of (l2.atIx (i := 1) rfl)) ?_ ?_⟩⟩
    · intro i x H2 hx l2
      obtain ⟨⟨r, row⟩, hq, rfl⟩ := refs_inv hx
      have hi : i < n := by
        have h1 := (List.getElem?_eq_some_iff.mp hq).1
        have h2 := congrArg List.length er
        unfold waysL at h2
        rw [vals_len, tab_len] at h2
        omega
      have hrow : row = way log (i + 1) := by
        have h1 : (vals rs)[i]? = some row := by unfold vals; rw [List.getElem?_map, hq]; rfl
        rw [er] at h1
        unfold waysL at h1
        rw [tab_get hi] at h1
        exact (Option.some.inj h1).symm
      have hat := l2.here (r, .lst (iv row)) (List.mem_cons_of_mem _ (List.mem_cons_of_mem _ (List.mem_of_getElem? (rowL_get hq))))
      have hlast := at_lastI (w := row) (by rw [hrow]; exact way_ne _ _)
      rw [hrow, way_last] at hlast
      rw [hrow] at hat
      refine ⟨rfl, _, rfl, _, rfl, r, _, _, _, rfl, rfl, SqL.of hat, hlast, _, l2.at0, sl_line' (by rw [iv_len, tab_len]; omega), ?_⟩
      show Loc H _ _
      rw [tab_succ, iv_snoc]
      exact l2.put0
    · intro H2 l2
      have hl2 : (refs rs).length = n := by
        have h2 := congrArg List.length er
        unfold waysL at h2
        rw [vals_len, tab_len] at h2
        rw [refs_len]
        exact h2
      rw [hl2] at l2
      exact q H2 D (l2.keep (List.Sublist.cons_cons _ (List.nil_sublist _)))
end

abbrev s_ends : Stmt := topS 18
theorem sc_ends : FnScope ["cells", "log"] ["cells", "log"] (defScope s_ends) := ⟨rfl, rfl, rfl, by decide +kernel, rfl, by decide +kernel, by decide +kernel⟩
section
variable {P : Program} {w : World} {K : PySem.W.Frag} {mg : Str → Option Value} {base : Heap}
def sp_ends (K : PySem.W.Frag) : Sp := fun vs H Q _ => ∃ (n : Nat) (a : Addr) (log : List (Int × Int)), vs = [.int n, .ref a] ∧ 1 ≤ n ∧ n ≤ 16 ∧ log.length ≤ 1000 ∧ ValidL n log ∧ log.Nodup ∧ IsPairs K H a log ∧
  ∀ H' p, Loc H H' [(p, .lst (iv (endsL n log)))] → Q (.ref p) H'
theorem ok_ends {f : Addr} {fd : FuncData} {k : Nat} (F : Fun K "ends" "ends" s_ends f fd)
    (c_check_log : CalG P w K mg base k "check_log" s_check_log ["cells", "log"] (sp_check_log K)) (c_ends_after : CalG P w K mg base k "ends_after" s_ends_after ["cells", "log"] (sp_ends_after K)) : FG P w K mg base CX0 (k + 1) f fd ["cells", "log"] (sp_ends K) := by
  refine fg_fun F sc_ends (fun vs H Q E h => ?_) (fun cdv A out s H vs Q E hr hg h => ?_)
  · obtain ⟨n, a, log, rfl, _⟩ := h
    rfl
  · obtain ⟨n, a, log, rfl, h1, hn, hl, hv, hnd, hp, q⟩ := h
    refine ⟨_, (pss_cons (ps_expr (pe_cG c_check_log hr (by omega) hg (by rfl) (pa_cons (pv 0) (pa_cons (pv 1) pa_nil))))
      (pss_one (ps_ret (pe_cG c_ends_after hr (by omega) hg (by rfl) (pa_cons (pv 0) (pa_cons (pv 1) pa_nil)))))), ?_⟩
    refine ⟨_, rfl, _, rfl, n, a, log, rfl, h1, hn, hv, hnd, hp, fun H1 sm => ⟨_, rfl, _, rfl, n, a, log, rfl, hn, hl, hv, hp.grow sm, fun H' p l => q H' p ?_⟩⟩
    have := (Loc.of sm).call l
    rwa [List.append_nil] at this
end

abbrev s_ways : Stmt := topS 19
theorem sc_ways : FnScope ["cells", "log"] ["cells", "log"] (defScope s_ways) := ⟨rfl, rfl, rfl, by decide +kernel, rfl, by decide +kernel, by decide +kernel⟩
section
variable {P : Program} {w : World} {K : PySem.W.Frag} {mg : Str → Option Value} {base : Heap}
def sp_ways (K : PySem.W.Frag) : Sp := fun vs H Q _ => ∃ (n : Nat) (a : Addr) (log : List (Int × Int)), vs = [.int n, .ref a] ∧ 1 ≤ n ∧ n ≤ 16 ∧ log.length ≤ 1000 ∧ ValidL n log ∧ log.Nodup ∧ IsPairs K H a log ∧
  ∀ H' p (rs : List (Addr × List Int)), Loc H H' ((p, .lst (refs rs)) :: rowL rs) → vals rs = waysL n log → Q (.ref p) H'
theorem ok_ways {f : Addr} {fd : FuncData} {k : Nat} (F : Fun K "ways" "ways" s_ways f fd)
    (c_check_log : CalG P w K mg base k "check_log" s_check_log ["cells", "log"] (sp_check_log K)) (c_ways_after : CalG P w K mg base k "ways_after" s_ways_after ["cells", "log"] (sp_ways_after K)) : FG P w K mg base CX0 (k + 1) f fd ["cells", "log"] (sp_ways K) := by
  refine fg_fun F sc_ways (fun vs H Q E h => ?_) (fun cdv A out s H vs Q E hr hg h => ?_)
  · obtain ⟨n, a, log, rfl, _⟩ := h
    rfl
  · obtain ⟨n, a, log, rfl, h1, hn, hl, hv, hnd, hp, q⟩ := h
    refine ⟨_, (pss_cons (ps_expr (pe_cG c_check_log hr (by omega) hg (by rfl) (pa_cons (pv 0) (pa_cons (pv 1) pa_nil))))
      (pss_one (ps_ret (pe_cG c_ways_after hr (by omega) hg (by rfl) (pa_cons (pv 0) (pa_cons (pv 1) pa_nil)))))), ?_⟩
    refine ⟨_, rfl, _, rfl, n, a, log, rfl, h1, hn, hv, hnd, hp, fun H1 sm => ⟨_, rfl, _, rfl, n, a, log, rfl, hn, hl, hv, hp.grow sm, fun H' p rs l er => q H' p rs ?_ er⟩⟩
    have := (Loc.of sm).call l
    rwa [List.append_nil] at this
end

theorem nodup_len : ∀ {l m : List Int}, l.Nodup → (∀ x ∈ l, x ∈ m) → l.length ≤ m.length
  | [], _, _, _ => Nat.zero_le _
  | x :: l, m, nd, sub => by
    have nd' := List.nodup_cons.mp nd
    have hx := sub x List.mem_cons_self
    have h := nodup_len (l := l) (m := m.erase x) nd'.2 fun y hy => (List.mem_erase_of_ne (fun e => by subst e; exact nd'.1 hy)).mpr (sub y (List.mem_cons_of_mem _ hy))
    rw [List.length_erase_of_mem hx] at h
    have : 0 < m.length := List.length_pos_of_mem hx
    rw [List.length_cons]
    omega
/-! ### a row of neighbours -/
theorem nbraw_cons (e : Int × Int) (r : List (Int × Int)) (k : Int) : nbraw (e :: r) k = ((if e.1 = k then [e.2] else []) ++ (if e.2 = k then [e.1] else [])) ++ nbraw r k := rfl
theorem mem_nbraw {web : List (Int × Int)} {j k : Int} : j ∈ nbraw web k ↔ edge web k j := by
  induction web with
  | nil => simp [nbraw, edge]
  | cons e r ih =>
    rw [nbraw_cons, List.mem_append, ih]
    obtain ⟨x, y⟩ := e
    unfold edge
    simp only [List.mem_append, List.mem_cons, Prod.mk.injEq]
    constructor
    · rintro ((h | h) | (h | h))
      · split at h
        · rename_i e; subst e; exact .inl (.inl ⟨rfl, by simpa using h⟩)
        · cases h
      · split at h
        · rename_i e; subst e; exact .inr (.inl ⟨by simpa using h, rfl⟩)
        · cases h
      · exact .inl (.inr h)
      · exact .inr (.inr h)
    · rintro ((⟨rfl, rfl⟩ | h) | (⟨rfl, rfl⟩ | h))
      · left; left; simp
      · right; left; exact h
      · left; right; simp
      · right; right; exact h
theorem nbraw_nodup {n : Nat} : ∀ {web : List (Int × Int)}, ValidW n web → ∀ k, (nbraw web k).Nodup
  | [], _, k => List.Pairwise.nil
  | e :: r, hv, k => by
    have hr : ValidW n r := ⟨fun q hq => hv.1 q (List.mem_cons_of_mem _ hq), (List.pairwise_cons.mp hv.2).2⟩
    have he := hv.1 e List.mem_cons_self
    have ih := nbraw_nodup hr k
    have ne : ∀ q ∈ r, q ≠ e := fun q hq z => by
      have := (List.pairwise_cons.mp hv.2).1 q hq
      rw [z] at this
      rcases this with h | ⟨_, h⟩ <;> omega
    rw [nbraw_cons]
    obtain ⟨x, y⟩ := e
    simp only at he ⊢
    by_cases h1 : x = k
    · have h2 : ¬ y = k := by omega
      rw [if_pos h1, if_neg h2]
      refine List.nodup_cons.mpr ⟨fun z => ?_, ih⟩
      rcases mem_nbraw.mp z with z | z
      · exact ne _ z (by rw [h1])
      · have := hr.1 _ z; simp at this; omega
    · by_cases h2 : y = k
      · rw [if_neg h1, if_pos h2]
        refine List.nodup_cons.mpr ⟨fun z => ?_, ih⟩
        rcases mem_nbraw.mp z with z | z
        · have := hr.1 _ z; simp at this; omega
        · exact ne _ z (by rw [h2])
      · rw [if_neg h1, if_neg h2]
        exact ih
theorem nbs_get (n : Nat) (web : List (Int × Int)) (k : Nat) (hk : k ≤ n) : (nbs n web)[k]? = some (srt (nbraw web k)) := by
  unfold nbs
  rw [List.getElem?_map, nbrows_get n web k hk]
  rfl
/-! ### going on from a cell -/
structure Dfs (web : List (Int × Int)) (c : Int) (pl wl : List Int) : Prop where
  nd : pl.Nodup
  self : c ∈ pl
  conn : ∀ j ∈ pl, Conn web c j
  sub : ∀ j ∈ wl, j ∈ pl
  cl : ∀ j ∈ pl, j ∉ wl → ∀ k, edge web j k → k ∈ pl
section
variable {web : List (Int × Int)} {c j : Int} {pl wl row : List Int} {n : Nat}
theorem Dfs.start : Dfs web c [c] [c] := by
  refine ⟨by simp, by simp, ?_, by simp, ?_⟩
  · intro j hj; cases List.mem_singleton.mp hj; exact .refl
  · intro j hj h; exact absurd hj h
theorem Dfs.step (d : Dfs web c pl (wl ++ [j])) (rn : row.Nodup) (rm : ∀ k, k ∈ row ↔ edge web j k) : Dfs web c (pl ++ row.filter fun k => !decide (k ∈ pl)) (wl ++ row.filter fun k => !decide (k ∈ pl)) := by
  have jp : j ∈ pl := d.sub j (List.mem_append_right _ (List.mem_singleton.mpr rfl))
  have mf : ∀ k, k ∈ row.filter (fun k => !decide (k ∈ pl)) ↔ edge web j k ∧ k ∉ pl := fun k => by rw [List.mem_filter, rm]; simp
  refine ⟨?_, List.mem_append_left _ d.self, ?_, ?_, ?_⟩
  · rw [List.nodup_append]
    refine ⟨d.nd, rn.sublist List.filter_sublist, ?_⟩
    rintro a ha b hb rfl
    exact ((mf a).mp hb).2 ha
  · intro k hk
    rcases List.mem_append.mp hk with hk | hk
    · exact d.conn k hk
    · exact .step (d.conn j jp) ((mf k).mp hk).1
  · intro k hk
    rcases List.mem_append.mp hk with hk | hk
    · exact List.mem_append_left _ (d.sub k (List.mem_append_left _ hk))
    · exact List.mem_append_right _ hk
  · intro k hk nk l hl
    have nk1 : k ∉ wl := fun z => nk (List.mem_append_left _ z)
    have nk2 := fun z => nk (List.mem_append_right wl z)
    have kp : k ∈ pl := by
      rcases List.mem_append.mp hk with hk | hk
      · exact hk
      · exact absurd hk nk2
    by_cases e : k = j
    · subst e
      by_cases lp : l ∈ pl
      · exact List.mem_append_left _ lp
      · exact List.mem_append_right _ ((mf l).mpr ⟨hl, lp⟩)
    · refine List.mem_append_left _ (d.cl k kp (fun z => ?_) l hl)
      rcases List.mem_append.mp z with z | z
      · exact nk1 z
      · exact e (List.mem_singleton.mp z)
theorem Dfs.done (d : Dfs web c pl []) (k : Int) : k ∈ pl ↔ Conn web c k := by
  refine ⟨d.conn k, fun h => ?_⟩
  induction h with
  | refl => exact d.self
  | step _ e ih => exact d.cl _ ih (by simp) _ e
theorem Dfs.len (d : Dfs web c pl wl) (hv : ValidL n web) (hc : 1 ≤ c ∧ c ≤ n) : pl.length ≤ n := by
  have := nodup_len (m := cellsTo n) d.nd fun j hj => mem_cellsTo.mpr ((d.conn j hj).within hv hc)
  rwa [cellsTo_len] at this
end

abbrev s_neighbours_of : Stmt := topS 10
theorem sc_neighbours_of : FnScope ["cells", "web", "told", "first", "second", "cell", "row"] ["cells", "web"] (defScope s_neighbours_of) := ⟨rfl, rfl, rfl, by decide +kernel, rfl, by decide +kernel, by decide +kernel⟩
section
variable {P : Program} {w : World} {K : PySem.W.Frag} {mg : Str → Option Value} {base : Heap}
def sp_neighbours_of (K : PySem.W.Frag) : Sp := fun vs H Q _ => ∃ (n : Nat) (a : Addr) (web : List (Int × Int)), vs = [.int n, .ref a] ∧ n ≤ 16 ∧ web.length ≤ 1000 ∧ ValidL n web ∧ IsPairs K H a web ∧
  ∀ H' p, Same H H' → IsRows K H' p (nbs n web) → Q (.ref p) H'
theorem ok_neighbours_of {f : Addr} {fd : FuncData} {k : Nat} (F : Fun K "neighbours_of" "neighbours_of" s_neighbours_of f fd) (z_range : mg "range" = none) (z_sorted : mg "sorted" = none) : FG P w K mg base CX0 (k + 1) f fd ["cells", "web"] (sp_neighbours_of K) := by
  refine fg_fun F sc_neighbours_of (fun vs H Q E h => ?_) (fun cdv A out s H vs Q E hr hg h => ?_)
  · obtain ⟨n, a, web, rfl, _⟩ := h
    rfl
  · obtain ⟨n, a, web, rfl, hn, hw, hv, hp, q⟩ := h
    refine ⟨_, (pss_cons (ps_setLc (i := 2) (own := [("cell", 5)]) (tt := tYes) rfl sc_neighbours_of.nd rfl rfl (sw_true rfl rfl rfl (by decide +kernel)) (pi_range1 (by rfl) z_range (pa_cons (pe_op op_add (pv 0) pe_int) pa_nil)) (blkOk_by (N := ["cells", "web", "told", "first", "second", "cell", "row"]) (sc := defScope s_neighbours_of) (by decide +kernel)) (fun _ _ _ _ _ => (pg_name (i := 5) sc_neighbours_of.nd rfl (Or.inl rfl))) (fun _ _ _ _ _ => pts_nil) (fun _ _ _ _ _ => (pe_lst pa_nil)))
      (pss_cons (ps_for PassesOwn.never rfl (pi_listK K rfl (pv 1)) (pg_tupK K rfl rfl (pgs_cons (pg_name (i := 3) sc_neighbours_of.nd rfl (.inl rfl)) (pgs_cons (pg_name (i := 4) sc_neighbours_of.nd rfl (.inl rfl)) pgs_nil)))
        (pss_cons (ps_expr (pe_bmK K rfl PySem.F.plainAttrs_list PySem.F.slot_list_append PySem.F.type_list_append mt_append (pe_ix (ix_listK K rfl) (pv 2) (pv 3) (fun _ _ => rfl)) (pa_cons (pv 4) pa_nil)))
          (pss_one (ps_expr (pe_bmK K rfl PySem.F.plainAttrs_list PySem.F.slot_list_append PySem.F.type_list_append mt_append (pe_ix (ix_listK K rfl) (pv 2) (pv 4) (fun _ _ => rfl)) (pa_cons (pv 3) pa_nil))))))
      (pss_one (ps_ret (pe_lc (own := [("row", 6)]) (tt := tYes) rfl sc_neighbours_of.nd (pi_listK K rfl (pv 2)) (blkOk_by (N := ["cells", "web", "told", "first", "second", "cell", "row"]) (sc := defScope s_neighbours_of) (by decide +kernel)) (fun _ _ _ _ _ => (pg_name (i := 6) sc_neighbours_of.nd rfl (Or.inl rfl))) (fun _ _ _ _ _ => pts_nil) (fun _ _ _ _ _ => (pe_callB (cr_sortedIK K rfl) (by rfl) z_sorted bt_sorted (pa_cons (pv 6) pa_nil)))))))), ?_⟩
    -- a new list for each cell
    refine ⟨_, rfl, _, _, rfl, rfl, _, rfl, by omega, by omega, fun t ht => lc_range (lo := 0) (n := ((n : Int) + 1).toNat)
      (fun i H1 => ∃ rs : List (Addr × List Int), vals rs = List.replicate i [] ∧ Loc H H1 ((t, .lst (refs rs)) :: rowL rs)) ?_ ?_ ?_⟩
    · exact ⟨[], rfl, (Loc.refl H).alloc ht⟩
    · rintro i H1 hi ⟨rs, e, l⟩
      refine ⟨rfl, Nat.zero_le _, fun p hp' => ⟨refs rs, ?_, ?_, rs ++ [(p, [])], ?_, l.rowNew (row := []) hp'⟩⟩
      · rw [upd_ne (ne_of_none l.at0 hp')]; exact l.at0
      · have := congrArg List.length e
        rw [vals_len, List.length_replicate] at this
        exact sl_line' (by rw [refs_len]; omega)
      · unfold vals at e ⊢
        rw [List.map_append, e, List.replicate_succ']
        rfl
    · rintro H1 ⟨rs, e, l⟩
      -- the exchanges
      obtain ⟨ts, ets, hts, htt⟩ := hp
      refine ⟨_, rfl, a, rfl, ⟨_, l.same.seq hts⟩, for_list (K := K) (a := a) (xs := refs ts)
        (fun i σ H2 => ∃ (rs : List (Addr × List Int)) (y3 y4 : Option V), σ = [some (.int n), some (.ref a), some (.ref t), y3, y4, none, none] ∧ vals rs = nbrows n (web.take i) ∧ Loc H H2 ((t, .lst (refs rs)) :: rowL rs)) ?_ ?_ ?_ ?_⟩
      · refine ⟨rs, none, none, rfl, ?_, l⟩
        rw [e]
        have e1 : ((n : Int) + 1).toNat = n + 1 := by omega
        rw [e1]
        refine List.ext_getElem? fun j => ?_
        by_cases hj : j ≤ n
        · rw [nbrows_get _ _ _ hj, List.getElem?_replicate, if_pos (by omega)]; rfl
        · rw [List.getElem?_replicate, if_neg (by omega), List.getElem?_eq_none (by rw [nbrows_len]; omega)]
      · rintro i σ H2 _ ⟨_, _, _, _, _, l2⟩
        exact l2.same.seq hts
      · rintro i x σ H2 hx ⟨rs, y3, y4, rfl, er, l2⟩
        obtain ⟨⟨b, x1, x2⟩, hq, rfl⟩ := refs_inv hx
        have hT := Same.sqT l2.same (htt _ (List.mem_of_getElem? hq))
        have hwi : web[i]? = some (x1, x2) := by
          rw [← ets]; unfold vals; rw [List.getElem?_map, hq]; rfl
        obtain ⟨v1, v2, v3⟩ := hv _ (List.mem_of_getElem? hwi)
        obtain ⟨c1, rfl⟩ : ∃ c1 : Nat, x1 = c1 := ⟨x1.toNat, by simp at v1 v2; omega⟩
        obtain ⟨c2, rfl⟩ : ∃ c2 : Nat, x2 = c2 := ⟨x2.toNat, by simp at v1 v2 v3; omega⟩
        have n1 : c1 ≤ n := by simp at v2 v3; omega
        have n2 : c2 ≤ n := by simp at v3; omega
        have ne : c1 ≠ c2 := by simp at v2; omega
        obtain ⟨r1, hr1⟩ : ∃ r1, rs[c1]? = some (r1, nbraw (web.take i) c1) := vals_get (by rw [er]; exact nbrows_get _ _ _ n1)
        have small : ∀ c : Int, (iv (nbraw (web.take i) c)).length < sizeLine := fun c => sl_line' (by
          have := nbraw_len (web.take i) c
          rw [List.length_take] at this
          rw [iv_len]; omega)
        refine ⟨b, _, rfl, hT, rfl, _, _, rfl, _, _, rfl, rfl, ?_⟩
        have at1 := l2.atIx (i := c1 + 1) (by rw [List.getElem?_cons_succ]; exact rowL_get hr1)
        refine ⟨_, rfl, _, rfl, t, refs rs, _, _, rfl, rfl, SqL.of l2.at0, atI_nat (refs_get hr1), ⟨.inl ⟨rfl, _, SqL.of at1⟩, _, rfl, r1, _, _, rfl, rfl, at1, small _, ?_⟩⟩
        have l3 := l2.rowGrow (z := (c2 : Int)) hr1
        obtain ⟨r2, hr2⟩ : ∃ r2, (rs.set c1 (r1, nbraw (web.take i) c1 ++ [(c2 : Int)]))[c2]? = some (r2, nbraw (web.take i) c2) := by
          rw [List.getElem?_set, if_neg ne]
          exact vals_get (by rw [er]; exact nbrows_get _ _ _ n2)
        have at2 := l3.atIx (i := c2 + 1) (by rw [List.getElem?_cons_succ]; exact rowL_get hr2)
        refine ⟨_, rfl, _, rfl, t, _, _, _, rfl, rfl, SqL.of l3.at0, atI_nat (refs_get hr2), ⟨.inl ⟨rfl, _, SqL.of at2⟩, _, rfl, r2, _, _, rfl, rfl, at2, small _, ?_⟩⟩
        refine ⟨_, _, _, rfl, ?_, l3.rowGrow hr2⟩
        rw [vals_set, vals_set, er, take_snoc hwi, nbrows_snoc n1 n2 ne]
      · rintro σ H2 ⟨rs, y3, y4, rfl, er, l2⟩
        have full : web.take (refs ts).length = web := by
          rw [refs_len, ← vals_len ts, ets, List.take_length]
        rw [full] at er
        -- sorted rows
        refine ⟨_, rfl, t, rfl, ⟨_, SqL.of l2.at0⟩, fun D hD => lc_list (K := K) (a := t) (xs := refs rs)
          (fun j H3 => ∃ ss : List (Addr × List Int), vals ss = ((vals rs).take j).map srt ∧ Loc H2 H3 ((D, .lst (refs ss)) :: rowL ss)) ?_ ?_ ?_ ?_⟩
        · exact ⟨[], rfl, (Loc.refl H2).alloc hD⟩
        · rintro j H3 _ ⟨_, _, l3⟩
          exact l3.same.seq (SqL.of l2.at0)
        · rintro j x H3 hx ⟨ss, es, l3⟩
          obtain ⟨⟨r, row⟩, hq, rfl⟩ := refs_inv hx
          have at1 := l2.atIx (i := j + 1) (by rw [List.getElem?_cons_succ]; exact rowL_get hq)
          refine ⟨rfl, _, rfl, r, row, rfl, l3.same.seq (SqL.of at1), fun ns' p perm asc hp' => ⟨refs ss, ?_, ?_, ss ++ [(p, ns')], ?_, l3.rowNew hp'⟩⟩
          · rw [upd_ne (ne_of_none l3.at0 hp')]; exact l3.at0
          · have := congrArg List.length es
            rw [vals_len, List.length_map, List.length_take, er, nbrows_len] at this
            exact sl_line' (by rw [refs_len]; omega)
          · have hv : (vals rs)[j]? = some row := by unfold vals; rw [List.getElem?_map, hq]; rfl
            rw [take_snoc hv, List.map_append, ← es, srt_of perm asc]
            unfold vals
            rw [List.map_append]
            rfl
        · rintro H3 ⟨ss, es, l3⟩
          have full2 : (vals rs).take (refs rs).length = vals rs := by
            rw [refs_len, ← vals_len rs, List.take_length]
          rw [full2, er] at es
          refine q H3 D (l2.same.trans l3.same) ?_
          have := l3.isRows (K := K)
          rw [es] at this
          exact this
end

abbrev s_pieces_of : Stmt := topS 11
theorem sc_pieces_of : FnScope ["cells", "web", "neighbours", "told", "seen", "cell", "piece", "waiting", "fresh", "other"] ["cells", "web"] (defScope s_pieces_of) := ⟨rfl, rfl, rfl, by decide +kernel, rfl, by decide +kernel, by decide +kernel⟩
section
variable {P : Program} {w : World} {K : PySem.W.Frag} {mg : Str → Option Value} {base : Heap}
/-- the list told is new, its rows, too -/
def sp_pieces_of (K : PySem.W.Frag) : Sp := fun vs H Q _ => ∃ (n : Nat) (a : Addr) (web : List (Int × Int)), vs = [.int n, .ref a] ∧ n ≤ 16 ∧ web.length ≤ 1000 ∧ ValidW n web ∧ IsPairs K H a web ∧
  ∀ H' p (rs : List (Addr × List Int)), Loc H H' ((p, .lst (refs rs)) :: rowL rs) → vals rs = pcs n web → Q (.ref p) H'
theorem ok_pieces_of {f : Addr} {fd : FuncData} {k : Nat} (F : Fun K "pieces_of" "pieces_of" s_pieces_of f fd) (z_range : mg "range" = none) (z_sorted : mg "sorted" = none)
    (c_neighbours_of : CalG P w K mg base k "neighbours_of" s_neighbours_of ["cells", "web"] (sp_neighbours_of K)) : FG P w K mg base CX0 (k + 1) f fd ["cells", "web"] (sp_pieces_of K) := by
  refine fg_fun F sc_pieces_of (fun vs H Q E h => ?_) (fun cdv A out s H vs Q E hr hg h => ?_)
  · obtain ⟨n, a, web, rfl, _⟩ := h
    rfl
  · obtain ⟨n, a, web, rfl, hn, hw, hv, hp, q⟩ := h
    have hu64 := hr.units
    refine ⟨_, (pss_cons (ps_par3 (i := 2) (j := 3) (l := 4) (by rfl) sc_pieces_of.nd rfl rfl rfl (by decide) (by decide) (by decide) rfl rfl rfl (pa_cons (pe_cG c_neighbours_of hr (by omega) hg (by rfl) (pa_cons (pv 0) (pa_cons (pv 1) pa_nil))) (pa_cons (pe_lst pa_nil) (pa_cons (pe_lst pa_nil) pa_nil))) (by rfl))
      (pss_cons (ps_for PassesOwn.never rfl (pi_range2 (by rfl) z_range (pa_cons pe_int (pa_cons (pe_op op_add (pv 0) pe_int) pa_nil))) (pg_name (i := 5) sc_pieces_of.nd rfl (.inl rfl))
        (pss_one (ps_if (pt_cmpR (op_notIn_seqK K rfl) (pv 5) (pv 4) (by rfl))
            (pss_cons (ps_asg (pe_tup (pa_cons (pe_lst (pa_cons (pv 5) pa_nil)) (pa_cons (pe_lst (pa_cons (pv 5) pa_nil)) pa_nil))) (pg_tupK K rfl rfl (pgs_cons (pg_name (i := 6) sc_pieces_of.nd rfl (.inr rfl)) (pgs_cons (pg_name (i := 7) sc_pieces_of.nd rfl (.inl rfl)) pgs_nil))))
              (pss_cons (ps_while PassesOwn.never (pt_cmpR (op_neDK K rfl hu64) (pv 7) (pe_lst pa_nil) (nomark _))
                (pss_cons (ps_setLc (i := 8) (own := [("other", 9)]) rfl sc_pieces_of.nd rfl rfl (sw_true rfl rfl rfl (by decide +kernel)) (pi_listK K rfl (pe_ix (ix_listK K rfl) (pv 2) (pe_bm0K K rfl PySem.F.plainAttrs_list PySem.F.slot_list_pop PySem.F.type_list_pop mt_pop (pv 7)) (fun _ _ => rfl))) (blkOk_by (N := ["cells", "web", "neighbours", "told", "seen", "cell", "piece", "waiting", "fresh", "other"]) (sc := defScope s_pieces_of) (by decide +kernel)) (fun _ _ _ _ _ => (pg_name (i := 9) sc_pieces_of.nd rfl (Or.inl rfl))) (fun _ _ _ _ _ => (pts_one (pt_cmpR (op_notIn_seqK K rfl) (pv 9) (pv 6) (by rfl)))) (fun _ _ _ _ _ => (pv 9)))
                  (pss_cons (ps_aug (i := 6) sc_pieces_of.nd rfl (.inr rfl) (pv 8) ip_ext)
                  (pss_one (ps_aug (i := 7) sc_pieces_of.nd rfl (.inl rfl) (pv 8) ip_ext)))))
              (pss_cons (ps_aug (i := 4) sc_pieces_of.nd rfl (.inl rfl) (pv 6) ip_ext)
              (pss_one (ps_expr (pe_bmK K rfl PySem.F.plainAttrs_list PySem.F.slot_list_append PySem.F.type_list_append mt_append (pv 3) (pa_cons (pe_callB (cr_sortedIK K rfl) (by rfl) z_sorted bt_sorted (pa_cons (pv 6) pa_nil)) pa_nil)))))))
            pss_nil)))
      (pss_one (ps_ret (pv 3))))), ?_⟩
    refine ⟨_, rfl, _, rfl, n, a, web, rfl, hn, hw, hv.1, hp, fun H1 nb sm hnb => ⟨by decide, fun told ht => ⟨by decide, fun seen hs => ?_⟩⟩⟩
    obtain ⟨ns, ens, hns, hrow⟩ := hnb
    refine ⟨_, _, _, rfl, ?_⟩
    refine ⟨_, rfl, _, _, rfl, rfl, _, _, rfl, by omega, for_range (lo := 1) (n := ((n : Int) + 1 - 1).toNat)
      (fun i σ H2 => ∃ (rs : List (Addr × List Int)) (sn : List Int) (y5 y6 y7 y8 y9 : Option V), σ = [some (.int n), some (.ref a), some (.ref nb), some (.ref told), some (.ref seen), y5, y6, y7, y8, y9] ∧
        vals rs = pcsTo n web i ∧ sn.Nodup ∧ (∀ j, j ∈ sn ↔ ∃ k : Int, 1 ≤ k ∧ k ≤ i ∧ Conn web k j) ∧ Loc H1 H2 ((seen, .lst (iv sn)) :: (told, .lst (refs rs)) :: rowL rs)) ?_ ?_ ?_⟩
    · refine ⟨[], [], none, none, none, none, none, rfl, rfl, List.Pairwise.nil, fun j => ⟨(fun z => nomatch z), fun ⟨k, h1, h2, _⟩ => by omega⟩, ?_⟩
      exact ((Loc.refl H1).alloc ht).alloc hs
    · rintro i σ H2 hi ⟨rs, sn, y5, y6, y7, y8, y9, rfl, er, nd, mem, l⟩
      have ci : 1 ≤ (1 : Int) + i ∧ (1 : Int) + i ≤ n := by omega
      have ec : (i : Int) + 1 = 1 + i := by omega
      have least : isLeast n web (1 + i) = true ↔ ¬ ((1 : Int) + i) ∈ sn := by
        rw [isLeast_iff hv.1 ci, mem]
        constructor
        · rintro h ⟨j, h1, h2, h3⟩
          have := h j h3.symm
          omega
        · intro h j hj
          have w1 := hj.within hv.1 ci
          exact Int.not_lt.mp fun z => h ⟨j, w1.1, by omega, hj.symm⟩
      have snl : sn.length ≤ n := by
        have := nodup_len (m := cellsTo n) nd fun j hj => by
          obtain ⟨k, h1, h2, h3⟩ := (mem j).mp hj
          exact mem_cellsTo.mpr (h3.within hv.1 ⟨h1, by omega⟩)
        rwa [cellsTo_len] at this
      refine ⟨_, rfl, _, rfl, seen, iv sn, rfl, .inl (SqL.of l.at0), rfl, iv_flat sn, _, rfl, ite2 (fun hb => ?_) (fun hb => ?_)⟩
      · -- a new piece
        have hns' : ¬ ((1 : Int) + i) ∈ sn := by
          rw [inV_iv] at hb
          simpa using hb
        refine ⟨_, rfl, sl1, fun p1 hp1 => ⟨_, rfl, sl1, fun p2 hp2 => ⟨sl2, fun T hT => ?_⟩⟩⟩
        refine ⟨T, _, rfl, .inl (.inl upd_same), rfl, _, _, rfl, _, _, rfl, rfl, ?_⟩
        refine ⟨fun m σ H3 => ∃ (pl wl : List Int) (y8 y9 : Option V), σ = [some (.int n), some (.ref a), some (.ref nb), some (.ref told), some (.ref seen), some (.int (1 + i)), some (.ref p1), some (.ref p2), y8, y9] ∧
          Dfs web (1 + i) pl wl ∧ 2 * (n - pl.length) + wl.length = m ∧ m ≤ 2 * n + 1 ∧ Loc H1 H3 ((p2, .lst (iv wl)) :: (p1, .lst (iv pl)) :: (seen, .lst (iv sn)) :: (told, .lst (refs rs)) :: rowL rs),
          ⟨_, [1 + i], [1 + i], _, _, rfl, .start, rfl, ?_, (((l.alloc hp1).alloc hp2).alloc hT).drop1⟩, ?_⟩
        · simp only [List.length_singleton]; omega
        rintro m σ H3 ⟨pl, wl, y8, y9, rfl, d, em, lm, l3⟩
        have pln := d.len hv.1 ci
        refine ⟨_, rfl, by decide, fun e he => ⟨dI wl, dI [], IsInts.dp (SqL.of ((l3.alloc he).atIx (i := 1) rfl)), IsInts.dp (ns := []) (SqL.of upd_same), shaped_dI _, shaped_dI _, _, rfl, ite2 (fun hb2 => ?_) (fun hb2 => ?_)⟩⟩
        · rw [eqv_dI_nil] at hb2
          have wne : wl ≠ [] := by simpa using hb2
          obtain ⟨wl', j, rfl⟩ : ∃ wl' j, wl = wl' ++ [j] := ⟨wl.dropLast, wl.getLast wne, (List.dropLast_concat_getLast wne).symm⟩
          have hj := (d.conn j (d.sub j (List.mem_append_right _ (List.mem_singleton.mpr rfl)))).within hv.1 ci
          obtain ⟨jn, rfl⟩ : ∃ jn : Nat, j = jn := ⟨j.toNat, by omega⟩
          have l4 := (l3.alloc (o := .lst []) he).drop1
          refine ⟨fun σ' H' => ∃ m', m' < m ∧ _, fun _ _ z => z, ?_⟩
          obtain ⟨r, hr⟩ : ∃ r, ns[jn]? = some (r, srt (nbraw web jn)) := vals_get (by rw [ens]; exact nbs_get _ _ _ (by omega))
          have hd : (iv (wl' ++ [(jn : Int)])).dropLast = iv wl' := by rw [iv_snoc, List.dropLast_concat]
          have hl : (iv (wl' ++ [(jn : Int)]))[(iv (wl' ++ [(jn : Int)])).length - 1]? = some (.int jn) := by
            rw [iv_len]
            refine iv_get ?_
            simp
          have l5 := l4.put0 (o' := .lst (iv wl'))
          have hrw := hrow _ (List.mem_of_getElem? hr)
          have sm5 : Same (upd (upd H1 told (.lst [])) seen (.lst [])) (upd (upd H1 told (.lst [])) seen (.lst [])) := Same.refl _
          refine ⟨_, rfl, _, rfl, .inl ⟨rfl, _, SqL.of l4.at0⟩, p2, iv (wl' ++ [(jn : Int)]), .int jn, rfl, rfl, l4.at0, hl, ?_⟩
          rw [hd]
          refine ⟨nb, refs ns, _, .ref r, rfl, rfl, l5.same.seq hns, atI_nat (refs_get hr), r, rfl, ⟨_, l5.same.seq hrw⟩, fun D hD => lc_list (K := K) (a := r) (xs := iv (srt (nbraw web jn)))
            (fun t H5 => Loc H1 H5 ((D, .lst (iv (((srt (nbraw web jn)).take t).filter fun k => !decide (k ∈ pl)))) :: (p2, .lst (iv wl')) :: (p1, .lst (iv pl)) :: (seen, .lst (iv sn)) :: (told, .lst (refs rs)) :: rowL rs)) (l5.alloc hD) (fun t H5 _ l6 => l6.same.seq hrw) ?_ ?_⟩
          · intro t x H5 hx l6
            obtain ⟨z, hz, rfl⟩ := iv_inv hx
            have hfl : (((srt (nbraw web jn)).take t).filter fun k => !decide (k ∈ pl)).length ≤ 2 * web.length := by
              refine Nat.le_trans (List.length_filter_le _ _) (Nat.le_trans (List.length_take_le' _ _) ?_)
              rw [(srt_perm _).length_eq]
              exact nbraw_len _ _
            refine ⟨rfl, _, rfl, _, rfl, p1, iv pl, rfl, .inl (SqL.of (l6.atIx (i := 2) rfl)), rfl, iv_flat pl, _, rfl, ite2 (fun hb3 => ?_) (fun hb3 => ?_)⟩
            · rw [inV_iv] at hb3
              have e6 := l6.put0 (o' := .lst (iv (((srt (nbraw web jn)).take t).filter fun k => !decide (k ∈ pl)) ++ [.int z]))
              refine ⟨_, rfl, _, l6.at0, sl_line' (by rw [iv_len]; omega), ?_⟩
              show Loc H1 _ _
              rw [take_snoc hz, List.filter_append, List.filter_cons_of_pos (by simpa using hb3), List.filter_nil, iv_snoc]
              exact e6
            · rw [inV_iv] at hb3
              show Loc H1 _ _
              rw [take_snoc hz, List.filter_append, List.filter_cons_of_neg (by simpa using hb3), List.filter_nil, List.append_nil]
              exact l6
          · intro H5 l6
            rw [iv_len, List.take_length] at l6
            have rn : (srt (nbraw web jn)).Nodup := (srt_perm _).nodup_iff.mpr (nbraw_nodup hv jn)
            have rm : ∀ k, k ∈ srt (nbraw web jn) ↔ edge web jn k := fun k => by rw [(srt_perm _).mem_iff, mem_nbraw]
            have d2 := d.step rn rm
            have len2 := d2.len hv.1 ci
            rw [List.length_append] at len2
            rw [List.length_append, List.length_singleton] at em
            refine ⟨_, rfl, _, rfl, p1, D, iv pl, _, rfl, rfl, l6.atIx (i := 2) rfl, l6.at0, by rw [iv_len, iv_len]; exact Nat.le_of_lt (sl_line' (by omega)), ?_⟩
            have l7 := l6.setIx (i := 2) (o' := .lst (iv pl ++ iv ((srt (nbraw web jn)).filter fun k => !decide (k ∈ pl)))) rfl
            refine ⟨_, rfl, _, rfl, p2, D, iv wl', _, rfl, rfl, l7.atIx (i := 1) rfl, l7.atIx (i := 0) rfl, by rw [iv_len, iv_len]; exact Nat.le_of_lt (sl_line' (by omega)), ?_⟩
            have l8 := l7.setIx (i := 1) (o' := .lst (iv wl' ++ iv ((srt (nbraw web jn)).filter fun k => !decide (k ∈ pl)))) rfl
            refine ⟨_, ?_, _, _, _, _, rfl, d2, rfl, ?_, ?_⟩
            · rw [List.length_append, List.length_append]; omega
            · rw [List.length_append, List.length_append]; omega
            · have e1 : iv (pl ++ (srt (nbraw web jn)).filter fun k => !decide (k ∈ pl)) = iv pl ++ iv ((srt (nbraw web jn)).filter fun k => !decide (k ∈ pl)) := List.map_append ..
              have e2 : iv (wl' ++ (srt (nbraw web jn)).filter fun k => !decide (k ∈ pl)) = iv wl' ++ iv ((srt (nbraw web jn)).filter fun k => !decide (k ∈ pl)) := List.map_append ..
              rw [e1, e2]
              exact l8.drop1
        · rw [eqv_dI_nil] at hb2
          have we : wl = [] := by simpa using hb2
          subst we
          have l4 := (l3.alloc (o := .lst []) he).drop1.drop1
          refine ⟨_, rfl, _, rfl, seen, p1, iv sn, iv pl, rfl, rfl, l4.atIx (i := 1) rfl, l4.at0, by rw [iv_len, iv_len]; exact Nat.le_of_lt (sl_line' (by omega)), ?_⟩
          have l5 := l4.setIx (i := 1) (o' := .lst (iv sn ++ iv pl)) rfl
          have rl : rs.length ≤ n := by
            have e1 := congrArg List.length er
            rw [vals_len] at e1
            rw [e1]
            unfold pcsTo
            rw [List.length_map]
            refine Nat.le_trans (List.length_filter_le _ _) ?_
            rw [cellsTo_len]
            omega
          refine ⟨_, rfl, .inl ⟨rfl, _, SqL.of (l5.atIx (i := 2) rfl)⟩, _, rfl, p1, pl, rfl, SqL.of l5.at0, fun ns' p perm asc hp' => ⟨told, refs rs, _, rfl, rfl, (l5.alloc hp').atIx (i := 3) rfl, sl_line' (by rw [refs_len]; omega), ?_⟩⟩
          have l6 := (l5.alloc (o := .lst (iv ns')) hp').setIx (i := 3) (o' := .lst (refs rs ++ [.ref p])) rfl
          refine ⟨rs ++ [(p, ns')], sn ++ pl, _, _, _, _, _, rfl, ?_, ?_, ?_, ?_⟩
          · rw [pcsTo_succ hv.1, ec, if_pos (least.mpr hns'), ← er, srt_of perm asc, comp_unique hv.1 ci d.nd (fun j => d.done j)]
            unfold vals
            rw [List.map_append]
            rfl
          · rw [List.nodup_append]
            refine ⟨nd, d.nd, ?_⟩
            rintro x hx y hy rfl
            obtain ⟨k, h1, h2, h3⟩ := (mem x).mp hx
            exact hns' ((mem _).mpr ⟨k, h1, h2, h3.trans ((d.done x).mp hy).symm⟩)
          · intro j
            rw [List.mem_append, mem, d.done]
            constructor
            · rintro (⟨k, h1, h2, h3⟩ | h)
              · exact ⟨k, h1, by omega, h3⟩
              · exact ⟨1 + i, by omega, by omega, h⟩
            · rintro ⟨k, h1, h2, h3⟩
              by_cases e2 : k ≤ i
              · exact .inl ⟨k, h1, e2, h3⟩
              · have : k = 1 + i := by omega
                subst this
                exact .inr h3
          · have e1 : iv (sn ++ pl) = iv sn ++ iv pl := List.map_append ..
            have e2 : rowL (rs ++ [(p, ns')]) = rowL rs ++ [(p, .lst (iv ns'))] := List.map_append ..
            rw [e1, e2, refs_snoc]
            have l7 := l6.keep (M := [(p, .lst (iv ns'))] ++ ((seen, .lst (iv sn ++ iv pl)) :: (told, .lst (refs rs ++ [.ref p])) :: rowL rs)) (List.Sublist.cons_cons _ (List.sublist_cons_self _ _))
            exact l7.perm (M := ((seen, .lst (iv sn ++ iv pl)) :: (told, .lst (refs rs ++ [.ref p])) :: rowL rs) ++ [(p, .lst (iv ns'))]) List.perm_append_comm
      · have hns' : ((1 : Int) + i) ∈ sn := by
          rw [inV_iv] at hb
          simpa using hb
        refine ⟨rs, sn, _, _, _, _, _, rfl, ?_, nd, ?_, l⟩
        · rw [pcsTo_succ hv.1, ec, if_neg (fun z => least.mp z hns'), List.append_nil, er]
        · intro j
          rw [mem]
          constructor
          · rintro ⟨k, h1, h2, h3⟩
            exact ⟨k, h1, by omega, h3⟩
          · rintro ⟨k, h1, h2, h3⟩
            by_cases e : k ≤ i
            · exact ⟨k, h1, e, h3⟩
            · obtain ⟨k', g1, g2, g3⟩ := (mem _).mp hns'
              have : k = 1 + i := by omega
              subst this
              exact ⟨k', g1, g2, g3.trans h3⟩
    · rintro σ H2 ⟨rs, sn, y5, y6, y7, y8, y9, rfl, er, nd, mem, l⟩
      have e1 : ((n : Int) + 1 - 1).toNat = n := by omega
      rw [e1] at er
      exact ⟨_, rfl, q H2 told rs (Loc.call (Loc.of sm) l.drop1 |>.keep (by simp)) er⟩
end

abbrev s_check_web : Stmt := topS 9
theorem sc_check_web : FnScope ["cells", "web", "index", "exchange"] ["cells", "web"] (defScope s_check_web) := ⟨rfl, rfl, rfl, by decide +kernel, rfl, by decide +kernel, by decide +kernel⟩
section
variable {P : Program} {w : World} {K : PySem.W.Frag} {mg : Str → Option Value} {base : Heap}
/-- right webs -/
def sp_check_web (K : PySem.W.Frag) : Sp := fun vs H Q _ => ∃ (n : Nat) (a : Addr) (web : List (Int × Int)), vs = [.int n, .ref a] ∧ 1 ≤ n ∧ n ≤ 16 ∧ ValidW n web ∧ IsPairs K H a web ∧ ∀ H', Same H H' → Q .non H'
theorem ok_check_web {f : Addr} {fd : FuncData} {k : Nat} (F : Fun K "check_web" "check_web" s_check_web f fd) (z_list : mg "list" = none) (z_isinstance : mg "isinstance" = none) (z_enumerate : mg "enumerate" = none)
    (c_check_cells : CalG P w K mg base k "check_cells" s_check_cells ["cells"] sp_check_cells) (c_is_exchange : CalG P w K mg base k "is_exchange" s_is_exchange ["thing", "cells"] (sp_is_exchange K)) :
    FG P w K mg base CX0 (k + 1) f fd ["cells", "web"] (sp_check_web K) := by
  refine fg_fun F sc_check_web (fun vs H Q E h => ?_) (fun cdv A out s H vs Q E hr hg h => ?_)
  · obtain ⟨_, _, _, rfl, _⟩ := h
    rfl
  · obtain ⟨n, a, web, rfl, h1, h2, hv, hp, q⟩ := h
    have hu0 := hr.units0
    refine ⟨_, (pss_cons (ps_expr (pe_cG c_check_cells hr (by omega) hg (by rfl) (pa_cons (pv 0) pa_nil)))
      (pss_cons (ps_if (pt_not (pt_val (pe_callB (call_isiK2 K rfl) (by rfl) z_isinstance bt_isinstance (pa_cons (pv 1) (pa_cons (pe_bltn (v := .ty "list") (by rfl) z_list bt_list rfl) pa_nil)))))
        (pss_one ps_never)
        pss_nil)
      (pss_one (ps_for PassesOwn.never rfl (pi_enumK K rfl (by rfl) z_enumerate (pa_cons (pv 1) pa_nil)) (pg_tupK K rfl rfl (pgs_cons (pg_name (i := 2) sc_check_web.nd rfl (.inl rfl)) (pgs_cons (pg_name (i := 3) sc_check_web.nd rfl (.inl rfl)) pgs_nil)))
        (pss_one (ps_if (PW.pt (pw_or (pt_not (pt_val (pe_cG c_is_exchange hr (by omega) hg (by rfl) (pa_cons (pv 3) (pa_cons (pv 0) pa_nil))))) (pw_or1 (PW.pt (pw_and (pt_cmpR op_gt (pv 2) pe_int (nomark _)) (pw_and1 (pt_cmpR (op_leTK K rfl hu0) (pv 3) (pe_ix (ix_listK K rfl) (pv 1) (pe_op op_sub (pv 2) pe_int) (fun _ _ => rfl)) (nomark _))))))))
            (pss_one ps_never)
            pss_nil)))))), ?_⟩
    obtain ⟨ts, ets, hts, htt⟩ := hp
    refine ⟨_, rfl, n, rfl, by omega, by omega, ?_⟩
    refine ⟨_, rfl, ⟨_, _, _, _, _, rfl, .ty _, tyx_list hts, kit_ty kb_ll, _, rfl, iteF ?_⟩⟩
    refine ⟨_, rfl, a, refs ts, rfl, hts, for_enum (K := K) (a := a) (xs := refs ts) (fun i σ H2 => ∃ y2 y3 : Option V, σ = [some (.int n), some (.ref a), y2, y3] ∧ Same H H2) ⟨none, none, rfl, Same.refl H⟩ ?_ ?_ ?_⟩
    · rintro i σ H2 ⟨_, _, _, sm⟩
      exact sm.seq hts
    · rintro i x σ H2 T hx ⟨y2, y3, rfl, sm⟩ hT
      obtain ⟨⟨b, x1, x2⟩, hq, rfl⟩ := refs_inv hx
      have sm2 : Same H (upd H2 T (.tup [.int (i : Nat), .ref b])) := fun c o e => by
        rw [upd_ne (ne_of_none (sm _ _ e) hT)]; exact sm _ _ e
      have hb := Same.sqT sm2 (htt _ (List.mem_of_getElem? hq))
      have hwi : web[i]? = some (x1, x2) := by
        rw [← ets]; unfold vals; rw [List.getElem?_map, hq]; rfl
      have hval := hv.1 _ (List.mem_of_getElem? hwi)
      refine ⟨T, _, rfl, .inl (.inl upd_same), rfl, _, _, rfl, _, _, rfl, rfl, ?_⟩
      refine ⟨_, rfl, _, rfl, b, x1, x2, n, rfl, hb, _, rfl, ?_⟩
      have e : decide (1 ≤ x1 ∧ x1 < x2 ∧ x2 ≤ (n : Int)) = true := decide_eq_true hval
      rw [e]
      refine iteF ⟨_, rfl, _, _, rfl, rfl, _, rfl, ite2 (fun hi => ?_) (fun hi => ?_)⟩
      · have hi := of_decide_eq_true hi
        obtain ⟨j, rfl⟩ : ∃ j, i = j + 1 := ⟨i - 1, by omega⟩
        have hj : j < ts.length := by have := (List.getElem?_eq_some_iff.mp hq).1; omega
        obtain ⟨⟨b', z1, z2⟩, hq'⟩ : ∃ q, ts[j]? = some q := ⟨_, List.getElem?_eq_getElem hj⟩
        have hwj : web[j]? = some (z1, z2) := by
          rw [← ets]; unfold vals; rw [List.getElem?_map, hq']; rfl
        have lt : ltP (z1, z2) (x1, x2) := by
          obtain ⟨i1, e1⟩ := List.getElem?_eq_some_iff.mp hwj
          obtain ⟨i2, e2⟩ := List.getElem?_eq_some_iff.mp hwi
          have := List.pairwise_iff_getElem.mp hv.2 j (j + 1) i1 i2 (by omega)
          rw [e1, e2] at this
          exact this
        refine ⟨_, rfl, _, rfl, _, rfl, _, _, rfl, rfl, _, _, _, _, rfl, rfl, sm2.seq hts, at_of (j := j) (by omega) (refs_get hq'), ?_⟩
        refine ⟨b, b', [x1, x2], [z1, z2], rfl, rfl, hb, Same.sqT sm2 (htt _ (List.mem_of_getElem? hq')), _, rfl, ?_⟩
        have no : Ob.lexAt (fun j => decide (([x1, x2] : List Int).getD j 0 = ([z1, z2] : List Int).getD j 0)) (fun j => decide (([x1, x2] : List Int).getD j 0 ≤ ([z1, z2] : List Int).getD j 0))
            (decide (([x1, x2] : List Int).length ≤ ([z1, z2] : List Int).length)) 0 (min ([x1, x2] : List Int).length ([z1, z2] : List Int).length) = false := by
          show (if decide (x1 = z1) = true then (if decide (x2 = z2) = true then _ else decide (x2 ≤ z2)) else decide (x1 ≤ z1)) = false
          rcases lt with lt | ⟨lt, lt2⟩
          · have : z1 < x1 := lt
            rw [if_neg (by simp; omega)]
            simp; omega
          · have h1 : z1 = x1 := lt
            have h2 : z2 < x2 := lt2
            rw [if_pos (by simp; omega), if_neg (by simp; omega)]
            simp; omega
        exact iteFF no ⟨_, _, rfl, sm2⟩
      · exact ⟨_, _, rfl, sm2⟩
    · rintro σ H2 ⟨_, _, _, sm⟩
      exact q H2 sm
end

abbrev s_is_tree_web : Stmt := topS 12
theorem sc_is_tree_web : FnScope ["cells", "web"] ["cells", "web"] (defScope s_is_tree_web) := ⟨rfl, rfl, rfl, by decide +kernel, rfl, by decide +kernel, by decide +kernel⟩
abbrev s_is_tree : Stmt := topS 13
theorem sc_is_tree : FnScope ["cells", "web"] ["cells", "web"] (defScope s_is_tree) := ⟨rfl, rfl, rfl, by decide +kernel, rfl, by decide +kernel, by decide +kernel⟩
def treeB (n : Nat) (web : List (Int × Int)) : Bool := decide ((web.length : Int) = n - 1) && decide (((pcs n web).length : Int) = 1)
section
variable {P : Program} {w : World} {K : PySem.W.Frag} {mg : Str → Option Value} {base : Heap}
def sp_is_tree_web (K : PySem.W.Frag) : Sp := fun vs H Q _ => ∃ (n : Nat) (a : Addr) (web : List (Int × Int)), vs = [.int n, .ref a] ∧ n ≤ 16 ∧ web.length ≤ 1000 ∧ ValidW n web ∧ IsPairs K H a web ∧
  ∀ H', Same H H' → Q (.bl (treeB n web)) H'
theorem ok_is_tree_web {f : Addr} {fd : FuncData} {k : Nat} (F : Fun K "is_tree_web" "is_tree_web" s_is_tree_web f fd) (z_len : mg "len" = none)
    (c_pieces_of : CalG P w K mg base k "pieces_of" s_pieces_of ["cells", "web"] (sp_pieces_of K)) : FG P w K mg base CX0 (k + 1) f fd ["cells", "web"] (sp_is_tree_web K) := by
  refine fg_fun F sc_is_tree_web (fun vs H Q E h => ?_) (fun cdv A out s H vs Q E hr hg h => ?_)
  · obtain ⟨n, a, web, rfl, _⟩ := h
    rfl
  · obtain ⟨n, a, web, rfl, hn, hw, hv, hp, q⟩ := h
    refine ⟨_, (pss_one (ps_ret (pe_and (pe_cmpR op_eq (pe_callB (call_len_seqK K rfl) (by rfl) z_len bt_len (pa_cons (pv 1) pa_nil)) (pe_op op_sub (pv 0) pe_int) (nomark _)) (pe_one (pe_cmpR op_eq (pe_callB (call_len_seqK K rfl) (by rfl) z_len bt_len (pa_cons (pe_cG c_pieces_of hr (by omega) hg (by rfl) (pa_cons (pv 0) (pa_cons (pv 1) pa_nil))) pa_nil)) pe_int (nomark _)))))), ?_⟩
    have hp2 := hp
    obtain ⟨ts, ets, hts, _⟩ := hp
    have lt : (refs ts).length = web.length := by rw [refs_len, ← ets, vals_len]
    refine ⟨_, rfl, _, _, rfl, .inl hts, _, rfl, _, _, rfl, rfl, rfl, _, rfl, ?_⟩
    rw [lt, dVI]
    refine ite2 (fun h1 => ?_) (fun h1 => ?_)
    · refine ⟨_, rfl, _, rfl, n, a, web, rfl, hn, hw, hv, hp2, fun H' p rs l er => ⟨_, _, rfl, .inl (SqL.of l.at0), rfl, ?_⟩⟩
      rw [dVI]
      have e : ((pcs n web).length : Int) = (refs rs).length := by rw [refs_len, ← er, vals_len]
      have q2 := q H' l.same
      unfold treeB at q2
      rw [h1, Bool.true_and, e] at q2
      exact q2
    · have q2 := q H (Same.refl H)
      unfold treeB at q2
      rw [show decide ((web.length : Int) = n - 1) = false from by simpa using h1, Bool.false_and] at q2
      exact q2
def sp_is_tree (K : PySem.W.Frag) : Sp := fun vs H Q _ => ∃ (n : Nat) (a : Addr) (web : List (Int × Int)), vs = [.int n, .ref a] ∧ 1 ≤ n ∧ n ≤ 16 ∧ web.length ≤ 1000 ∧ ValidW n web ∧ IsPairs K H a web ∧
  ∀ H', Same H H' → Q (.bl (treeB n web)) H'
theorem ok_is_tree {f : Addr} {fd : FuncData} {k : Nat} (F : Fun K "is_tree" "is_tree" s_is_tree f fd)
    (c_check_web : CalG P w K mg base k "check_web" s_check_web ["cells", "web"] (sp_check_web K)) (c_is_tree_web : CalG P w K mg base k "is_tree_web" s_is_tree_web ["cells", "web"] (sp_is_tree_web K)) : FG P w K mg base CX0 (k + 1) f fd ["cells", "web"] (sp_is_tree K) := by
  refine fg_fun F sc_is_tree (fun vs H Q E h => ?_) (fun cdv A out s H vs Q E hr hg h => ?_)
  · obtain ⟨n, a, web, rfl, _⟩ := h
    rfl
  · obtain ⟨n, a, web, rfl, h1, hn, hw, hv, hp, q⟩ := h
    refine ⟨_, (pss_cons (ps_expr (pe_cG c_check_web hr (by omega) hg (by rfl) (pa_cons (pv 0) (pa_cons (pv 1) pa_nil))))
      (pss_one (ps_ret (pe_cG c_is_tree_web hr (by omega) hg (by rfl) (pa_cons (pv 0) (pa_cons (pv 1) pa_nil)))))), ?_⟩
    exact ⟨_, rfl, _, rfl, n, a, web, rfl, h1, hn, hv, hp, fun H1 sm => ⟨_, rfl, _, rfl, n, a, web, rfl, hn, hw, hv, hp.grow sm, fun H' sm2 => q H' (sm.trans sm2)⟩⟩
end

abbrev s__law_right : Stmt := topS 29
theorem sc__law_right : FnScope ["_law_size", "_law_some", "_law_made", "_law_kept", "_law_due", "_law_told", "_law_steps", "_law_way", "_law_k", "_law_pair"] ["_law_size", "_law_some", "_law_made"] (defScope s__law_right) := ⟨rfl, rfl, rfl, by decide +kernel, rfl, by decide +kernel, by decide +kernel⟩
abbrev scN__law_right : Scope := { kind := .function, names := [(".0", .local), ("_law_k", .cell), ("len", .globalImplicit), ("_law_due", .cell)], isGenerator := false, isCoroutine := false }
theorem log_sm14 {n : Nat} {web : List (Int × Int)} (hn : n ≤ 16) (hv : ValidL n web) (hl : web.length ≤ 300) : Sm 900 2 (dP web) :=
  sm_dP (m := 300) (fun e he => by have := hv e he; omega) hl
/-- the pair at a place, by the place -/
def keyOf (ts : List (Addr × Int × Int)) (v : V) : Int × Int := match v with
  | .ref t => ((ts.find? fun x => x.1 == t).map Prod.snd).getD (0, 0)
  | _ => (0, 0)
theorem keyOf_at {ts : List (Addr × Int × Int)} (nd : (ts.map Prod.fst).Nodup) {x : Addr × Int × Int} (hx : x ∈ ts) : keyOf ts (.ref x.1) = x.2 := by
  unfold keyOf
  simp only
  induction ts with
  | nil => cases hx
  | cons y r ih =>
    rw [List.map_cons, List.nodup_cons] at nd
    rw [List.find?_cons]
    rcases List.mem_cons.mp hx with e | hx
    · subst e; simp
    · have ne : (y.1 == x.1) = false := by
        simp only [beq_eq_false_iff_ne, ne_eq]
        intro z
        exact nd.1 (by rw [z]; exact List.mem_map.mpr ⟨x, hx, rfl⟩)
      rw [ne]
      exact ih nd.2 hx
theorem lex_ltP {p q : Int × Int} (h : SrtO.lexB q p = false) (ne : p ≠ q) : ltP p q := by
  obtain ⟨a, b⟩ := p
  obtain ⟨c, d⟩ := q
  have ne' : ¬ (a = c ∧ b = d) := fun z => ne (by rw [z.1, z.2])
  have h' : ¬ (c < a ∨ (c = a ∧ d < b)) := fun z => by
    rw [SrtO.lexB_iff.mpr z] at h
    cases h
  show a < c ∨ (a = c ∧ b < d)
  omega
section
variable {P : Program} {w : World} {K : PySem.W.Frag} {mg : Str → Option Value} {base : Heap}
def sp__law_right (K : PySem.W.Frag) : Sp := fun vs H Q _ => ∃ (n : Nat) (s a : Addr) (web log : List (Int × Int)), vs = [.int n, .ref s, .ref a] ∧ 1 ≤ n ∧ n ≤ 16 ∧ ValidW n web ∧ web.length ≤ 300 ∧ log.Perm web ∧ IsPairs K H s web ∧ IsPairs K H a log ∧ ∀ H', Same H H' → Q (.bl true) H'
theorem ok__law_right {f : Addr} {fd : FuncData} {k : Nat} (F : Fun K "_law_right" "_law_right" s__law_right f fd) (z_repr : mg "repr" = none) (z_len : mg "len" = none) (z_range : mg "range" = none) (z_sorted : mg "sorted" = none)
    (c__law_met : CalG P w K mg base k "_law_met" s__law_met ["_law_size", "_law_made"] (sp__law_met K)) (c_met : CalG P w K mg base k "met" s_met ["cells", "log"] (sp_met K)) (c__law_ends : CalG P w K mg base k "_law_ends" s__law_ends ["_law_size", "_law_made"] (sp__law_ends K))
    (c_ends : CalG P w K mg base k "ends" s_ends ["cells", "log"] (sp_ends K)) (c_ways : CalG P w K mg base k "ways" s_ways ["cells", "log"] (sp_ways K)) (c_is_tree : CalG P w K mg base k "is_tree" s_is_tree ["cells", "web"] (sp_is_tree K))
    (k_met_log_cells : KwOk "met" s_met ["cells", "log"] ["log", "cells"] turn2 turn2) : FG P w K mg base CX0 (k + 1) f fd ["_law_size", "_law_some", "_law_made"] (sp__law_right K) := by
  refine fg_fun F sc__law_right (fun vs H Q E h => ?_) (fun cdv A out s H vs Q E hr hg h => ?_)
  · obtain ⟨n, s, a, web, log, rfl, _⟩ := h
    rfl
  · obtain ⟨n, s, a, web, log, rfl, n1, n2, hvw, hlw, pm, pw, hp, q⟩ := h
    have hu64 := hr.units
    refine ⟨_, (pss_cons (ps_set (i := 3) sc__law_right.nd rfl (.inl rfl) (pe_callB (call_reprDK K rfl hu64 hg) (by rfl) z_repr bt_repr (pa_cons (pv 2) pa_nil)))
      (pss_cons (ps_set (i := 4) sc__law_right.nd rfl (.inr rfl) (pe_cG c__law_met hr (by omega) hg (by rfl) (pa_cons (pv 0) (pa_cons (pv 2) pa_nil))))
      (pss_cons (ps_set (i := 5) sc__law_right.nd rfl (.inl rfl) (pe_lst (pa_cons (pe_cG c_met hr (by omega) hg (by rfl) (pa_cons (pv 0) (pa_cons (pv 2) pa_nil))) (pa_cons (pe_ckG c_met k_met_log_cells hr (by omega) hg (by rfl) (pk_cons (pv 2) (pk_cons (pv 0) pk_nil))) pa_nil))))
      (pss_cons (ps_if (PW.pt (pw_or (pt_cmpR op_ne (pe_callB (call_reprDK K rfl hu64 hg) (by rfl) z_repr bt_repr (pa_cons (pv 5) pa_nil)) (pe_callB (call_reprDK K rfl hu64 hg) (by rfl) z_repr bt_repr (pa_cons (pe_lst (pa_cons (pv 4) (pa_cons (pv 4) pa_nil))) pa_nil)) (nomark _)) (pw_or1 (pt_cmpR op_ne (pe_callB (call_reprDK K rfl hu64 hg) (by rfl) z_repr bt_repr (pa_cons (pv 2) pa_nil)) (pv 3) (nomark _)))))
        (pss_one (ps_ret pe_bl))
        pss_nil)
      (pss_cons (ps_if (PW.pt (pw_or (pt_cmpR (op_neDK K rfl hu64) (pe_cG c__law_ends hr (by omega) hg (by rfl) (pa_cons (pv 0) (pa_cons (pe_revLK K rfl (pv 4)) pa_nil))) (pe_cG c_ends hr (by omega) hg (by rfl) (pa_cons (pv 0) (pa_cons (pv 2) pa_nil))) (nomark _)) (pw_or1 (pt_cmpR (op_neDK K rfl hu64) (pe_cG c__law_ends hr (by omega) hg (by rfl) (pa_cons (pv 0) (pa_cons (pv 2) pa_nil))) (pe_cG c_ends hr (by omega) hg (by rfl) (pa_cons (pv 0) (pa_cons (pv 2) pa_nil))) (nomark _)))))
        (pss_one (ps_ret pe_bl))
        pss_nil)
      (pss_cons (ps_setLc (i := 6) (own := [("_law_way", 7)]) (tt := tYes) rfl sc__law_right.nd rfl rfl (sw_true rfl rfl rfl (by decide +kernel)) (pi_listK K rfl (pe_cG c_ways hr (by omega) hg (by rfl) (pa_cons (pv 0) (pa_cons (pv 2) pa_nil)))) (blkOk_by (N := ["_law_size", "_law_some", "_law_made", "_law_kept", "_law_due", "_law_told", "_law_steps", "_law_way", "_law_k", "_law_pair"]) (sc := defScope s__law_right) (by decide +kernel)) (fun _ _ _ _ _ => (pg_name (i := 7) sc__law_right.nd rfl (Or.inl rfl))) (fun _ _ _ _ _ => pts_nil) (fun _ _ _ _ _ => (pe_op op_sub (pe_callB (call_len_seqK K rfl) (by rfl) z_len bt_len (pa_cons (pv 7) pa_nil)) pe_int)))
      (pss_cons (ps_if (pt_cmpR (op_neDK K rfl hu64) (pv 6) (pe_lc (own := [("_law_k", 8)]) (tt := tYes) rfl sc__law_right.nd (pi_range2 (by rfl) z_range (pa_cons pe_int (pa_cons (pe_op op_add (pv 0) pe_int) pa_nil))) (blkOk_by (N := ["_law_size", "_law_some", "_law_made", "_law_kept", "_law_due", "_law_told", "_law_steps", "_law_way", "_law_k", "_law_pair"]) (sc := defScope s__law_right) (by decide +kernel)) (fun _ _ _ _ _ => (pg_name (i := 8) sc__law_right.nd rfl (Or.inr rfl))) (fun _ _ _ _ _ => pts_nil) (fun _ _ _ _ _ => (pe_callB (call_len_seqK K rfl) (by rfl) z_len bt_len (pa_cons (pe_lc (own := [("_law_pair", 9)]) rfl sc__law_right.nd (pi_listK K rfl (pv 4)) (blkOk_by (N := ["_law_size", "_law_some", "_law_made", "_law_kept", "_law_due", "_law_told", "_law_steps", "_law_way", "_law_k", "_law_pair"]) (sc := scN__law_right) (by decide +kernel)) (fun _ _ _ _ _ => (pg_name (i := 9) sc__law_right.nd rfl (Or.inl rfl))) (fun _ _ _ _ _ => (pts_one (pt_cmpR (op_in_seqK K rfl) (pv 8) (pv 9) (by rfl)))) (fun _ _ _ _ _ => (pv 9))) pa_nil)))) (nomark _))
        (pss_one (ps_ret pe_bl))
        pss_nil)
      (pss_cons (ps_if (PW.pt (pw_and (pt_val (pe_cG c_is_tree hr (by omega) hg (by rfl) (pa_cons (pv 0) (pa_cons (pv 1) pa_nil)))) (pw_and1 (pt_not (pt_val (pe_cG c_is_tree hr (by omega) hg (by rfl) (pa_cons (pv 0) (pa_cons (pe_callB (cr_sortedPOK K rfl) (by rfl) z_sorted bt_sorted (pa_cons (pv 4) pa_nil)) pa_nil))))))))
        (pss_one (ps_ret pe_bl))
        pss_nil)
      (pss_cons (ps_expr (pe_bmK K rfl PySem.F.plainAttrs_list PySem.F.slot_list_append PySem.F.type_list_append mt_append (pe_ix (ix_listK K rfl) (pv 5) pe_int (fun _ _ => rfl)) (pa_cons pe_non pa_nil)))
      (pss_one (ps_ret (pe_and (pe_cmpR op_eq (pe_callB (call_reprDK K rfl hu64 hg) (by rfl) z_repr bt_repr (pa_cons (pe_cG c_met hr (by omega) hg (by rfl) (pa_cons (pv 0) (pa_cons (pv 2) pa_nil))) pa_nil)) (pe_callB (call_reprDK K rfl hu64 hg) (by rfl) z_repr bt_repr (pa_cons (pv 4) pa_nil)) (nomark _)) (pe_one (pe_cmpR op_eq (pe_callB (call_reprDK K rfl hu64 hg) (by rfl) z_repr bt_repr (pa_cons (pv 2) pa_nil)) (pv 3) (nomark _))))))))))))))), ?_⟩
    have hv : ValidL n log := fun e he => hvw.1 e (pm.mem_iff.mp he)
    have hnd : log.Nodup := pm.nodup_iff.mpr (hvw.2.imp fun {x y} h e => by
      subst e
      rcases h with h | ⟨_, h⟩ <;> omega)
    have hl : log.length ≤ 300 := by rw [pm.length_eq]; exact hlw
    have vm := metL_valid log hv
    have ml : (metL log).length ≤ 300 := by rw [metL_len]; exact hl
    have smL := log_sm14 n2 hv hl
    have smM := log_sm14 n2 vm ml
    refine ⟨_, rfl, _, _, rfl, hp.dp, smQ smL (by decide) (by decide) ?_⟩
    refine ⟨_, rfl, _, rfl, n, a, log, rfl, n2, by omega, hv, hp, fun H1 dm ds l1 ed => ?_⟩
    have nds : (ds.map Prod.fst).Nodup := by
      have h := l1.nd
      rw [List.map_cons, List.nodup_cons] at h
      have e : (pairL ds).map Prod.fst = ds.map Prod.fst := by unfold pairL; rw [List.map_map]; rfl
      rw [e] at h
      exact h.2
    have dsAt : ∀ x ∈ ds, H1 x.1 = some (.tup [.int x.2.1, .int x.2.2]) := fun x hx => l1.here (x.1, .tup [.int x.2.1, .int x.2.2]) (List.mem_cons_of_mem _ (List.mem_map.mpr ⟨x, hx, rfl⟩))
    have due1 : IsPairs K H1 dm (metL log) := ⟨ds, ed, SqL.of l1.at0, fun x hx => .inl (.inl (dsAt x hx))⟩
    have hp1 := hp.grow l1.same
    have pw1 := pw.grow l1.same
    refine ⟨_, rfl, _, rfl, n, a, log, rfl, n1, n2, by omega, hv, hnd, hp1, fun H2 m2 t2 l2 e2 => ⟨_, rfl, _, rfl, rfl, n, a, log, rfl, n1, n2, by omega, hv, hnd, hp1.grow l2.same, fun H3 m3 t3 l3 e3 => ⟨sl2, fun tl htl => ?_⟩⟩⟩
    have l4 := (l2.ext l3.same).alloc (o := .lst [.ref m2, .ref m3]) htl
    have l4' := l3.alloc (o := .lst [.ref m2, .ref m3]) htl
    have p2 : IsPairs K _ m2 (metL log) := ⟨t2, e2, SqL.of (l4.atIx (i := 1) rfl), fun x hx => .inl (.inl (l4.here (x.1, .tup [.int x.2.1, .int x.2.2]) (List.mem_cons_of_mem _ (List.mem_cons_of_mem _ (List.mem_map.mpr ⟨x, hx, rfl⟩)))))⟩
    have p3 : IsPairs K _ m3 (metL log) := ⟨t3, e3, SqL.of (l4'.atIx (i := 1) rfl), fun x hx => .inl (.inl (l4'.here (x.1, .tup [.int x.2.1, .int x.2.2]) (List.mem_cons_of_mem _ (List.mem_cons_of_mem _ (List.mem_map.mpr ⟨x, hx, rfl⟩)))))⟩
    refine ⟨_, rfl, _, _, rfl, dp_two (SqL.of l4.at0) p2.dp p3.dp, smQ (sm_two smM smM) (by decide) (by decide) ?_⟩
    refine ⟨_, rfl, _, rfl, sl2, fun e1 he1 => ?_⟩
    have l5 := l4.alloc (o := .lst [.ref dm, .ref dm]) he1
    refine ⟨_, _, rfl, dp_two (SqL.of l5.at0) (due1.grow l5.same).dp (due1.grow l5.same).dp, smQ (sm_two smM smM) (by decide) (by decide) ⟨rfl, _, rfl, ?_⟩⟩
    refine iteFF (by simp) ⟨_, rfl, _, _, rfl, (hp1.grow l5.same).dp, smQ smL (by decide) (by decide) ⟨_, rfl, rfl, _, rfl, iteFF (by simp) ?_⟩⟩
    have l6 : Loc H1 _ [(tl, .lst [.ref m2, .ref m3]), (m2, .lst (refs t2))] := l5.keep (List.Sublist.cons _ (List.Sublist.cons_cons _ (List.Sublist.cons_cons _ (List.nil_sublist _))))
    have due6 := due1.grow l6.same
    -- backward
    refine ⟨_, rfl, _, rfl, dm, refs ds, rfl, SqL.of (l6.same _ _ l1.at0), fun rv hrv => ?_⟩
    have er : (refs ds).reverse = refs ds.reverse := by unfold refs; rw [List.map_reverse]
    rw [er]
    have l7 := l6.alloc (o := .lst (refs ds.reverse)) hrv
    have prv : IsPairs K _ rv (metL log).reverse := ⟨ds.reverse, by rw [← ed]; unfold vals; rw [List.map_reverse], SqL.of l7.at0, fun x hx => .inl (.inl (l7.same _ _ (dsAt x (List.mem_reverse.mp hx))))⟩
    have vr : ValidL n (metL log).reverse := fun e he => vm e (List.mem_reverse.mp he)
    have eE : endsL n (metL log).reverse = endsL n log := tab_ext fun j _ => meet_back log _
    refine ⟨n, rv, (metL log).reverse, rfl, n2, by rw [List.length_reverse]; omega, vr, prv, fun H8 p8 l8 => ⟨_, rfl, _, rfl, n, a, log, rfl, n1, n2, by omega, hv, hnd, hp1.grow (l7.same.trans l8.same), fun H9 p9 l9 => ?_⟩⟩
    rw [eE] at l8
    refine ⟨_, _, IsInts.dp (SqL.of (l8.ext l9.same).at0), IsInts.dp (SqL.of l9.at0), shaped_dI _, shaped_dI _, _, rfl, iteFF (by rw [eqv_dI]; simp) ?_⟩
    have s79 := (l7.same.trans l8.same).trans l9.same
    refine ⟨_, rfl, _, rfl, n, a, log, rfl, n2, by omega, hv, hp1.grow s79, fun H10 p10 l10 => ⟨_, rfl, _, rfl, n, a, log, rfl, n1, n2, by omega, hv, hnd, hp1.grow (s79.trans l10.same), fun H11 p11 l11 => ?_⟩⟩
    refine ⟨_, _, IsInts.dp (SqL.of (l10.ext l11.same).at0), IsInts.dp (SqL.of l11.at0), shaped_dI _, shaped_dI _, _, rfl, iteFF (by rw [eqv_dI]; simp) ?_⟩
    have l11' : Loc H1 H11 [(tl, .lst [.ref m2, .ref m3]), (m2, .lst (refs t2))] := ((((l7.keep (List.sublist_cons_self _ _)).ext l8.same).ext l9.same).ext l10.same).ext l11.same
    -- steps
    refine ⟨_, rfl, _, rfl, n, a, log, rfl, n1, n2, by omega, hv, hnd, hp1.grow l11'.same, fun H12 pw' rw' l12 ew => ⟨pw', rfl, ⟨_, SqL.of l12.at0⟩, fun D hD => lc_list (K := K) (a := pw') (xs := refs rw')
      (fun i H13 => Loc H12 H13 [(D, .lst (iv (tab i fun m => (((way log (m + 1)).length : Nat) : Int) - 1)))]) ((Loc.refl H12).alloc hD) (fun i H13 _ l => l.same.seq (SqL.of l12.at0)) ?_ ?_⟩⟩
    · intro i x H13 hx l
      obtain ⟨⟨r, row⟩, hq, rfl⟩ := refs_inv hx
      have hi : i < n := by
        have h1 := (List.getElem?_eq_some_iff.mp hq).1
        have h2 := congrArg List.length ew
        unfold waysL at h2
        rw [vals_len, tab_len] at h2
        omega
      have hrow : row = way log (i + 1) := by
        have h1 : (vals rw')[i]? = some row := by unfold vals; rw [List.getElem?_map, hq]; rfl
        rw [ew] at h1
        unfold waysL at h1
        rw [tab_get hi] at h1
        exact (Option.some.inj h1).symm
      have hat : SqL K H13 r (iv row) := l.same.seq (SqL.of (l12.here (r, .lst (iv row)) (List.mem_cons_of_mem _ (List.mem_of_getElem? (rowL_get hq)))))
      refine ⟨rfl, _, rfl, r, _, rfl, .inl hat, _, _, rfl, rfl, _, l.at0, sl_line' (by rw [iv_len, tab_len]; omega), ?_⟩
      show Loc H12 _ _
      rw [tab_succ, iv_snoc, iv_len, hrow]
      exact l.put0
    intro H13 l13
    have lnw : (refs rw').length = n := by
      have h2 := congrArg List.length ew
      unfold waysL at h2
      rw [vals_len, tab_len] at h2
      rw [refs_len]
      exact h2
    rw [lnw] at l13
    have s13 : Same H1 H13 := (l11'.same.trans l12.same).trans l13.same
    have dueAt : ∀ H', Same H1 H' → SqL K H' dm (refs ds) := fun H' s => SqL.of (s _ _ l1.at0)
    refine ⟨_, rfl, _, rfl, _, _, rfl, rfl, _, _, rfl, by omega, fun D2 hD2 => lc_range (lo := 1) (n := ((n : Int) + 1 - 1).toNat)
      (fun i H14 => Loc H13 H14 [(D2, .lst (iv (tab i fun m => (((metL log).countP fun e => decide (e.1 = (m : Int) + 1 ∨ e.2 = (m : Int) + 1) : Nat) : Int))))]) ((Loc.refl H13).alloc hD2) ?_ ?_⟩
    · intro i H14 hi l14
      refine ⟨rfl, _, rfl, dm, rfl, ⟨_, dueAt H14 (s13.trans l14.same)⟩, fun D3 hD3 => lc_list (K := K) (a := dm) (xs := refs ds)
        (fun j H15 => ∃ us : List V, us.length = ((metL log).take j).countP (fun e => decide (e.1 = (i : Int) + 1 ∨ e.2 = (i : Int) + 1)) ∧ Loc H13 H15 [(D3, .lst us), (D2, .lst (iv (tab i fun m => (((metL log).countP fun e => decide (e.1 = (m : Int) + 1 ∨ e.2 = (m : Int) + 1) : Nat) : Int))))]) ⟨[], rfl, l14.alloc hD3⟩
        (fun j H15 _ h => by obtain ⟨_, _, l⟩ := h; exact dueAt H15 (s13.trans l.same)) ?_ ?_⟩
      · rintro j x H15 hx ⟨us, ul, l15⟩
        obtain ⟨⟨b, y1, y2⟩, hq, rfl⟩ := refs_inv hx
        have hm : (metL log)[j]? = some (y1, y2) := by rw [← ed]; unfold vals; rw [List.getElem?_map, hq]; rfl
        have hb := (s13.trans l15.same) _ _ (dsAt _ (List.mem_of_getElem? hq))
        have ub : us.length ≤ 300 := by
          rw [ul]
          exact Nat.le_trans List.countP_le_length (Nat.le_trans (List.length_take_le' _ _) ml)
        refine ⟨rfl, _, rfl, _, rfl, b, iv [y1, y2], rfl, .inr (.inl (.inl hb)), rfl, iv_flat _, _, rfl, ?_⟩
        have cnt : ((metL log).take (j + 1)).countP (fun e => decide (e.1 = (i : Int) + 1 ∨ e.2 = (i : Int) + 1)) = ((metL log).take j).countP (fun e => decide (e.1 = (i : Int) + 1 ∨ e.2 = (i : Int) + 1)) + if y1 = (i : Int) + 1 ∨ y2 = (i : Int) + 1 then 1 else 0 := by
          rw [take_snoc hm, List.countP_append]
          congr 1
          rw [List.countP_cons, List.countP_nil]
          simp
        refine ite2 (fun hc => ?_) (fun hc => ?_)
        · have hc' : 1 + (i : Int) = y1 ∨ 1 + (i : Int) = y2 := by
            have h := hc
            have h2 : inV (.int (1 + (i : Int))) (iv [y1, y2]) = true := h
            rw [inV_iv] at h2
            simpa using h2
          refine ⟨_, rfl, us, l15.at0, sl_line' (by omega), us ++ [.ref b], ?_, l15.put0⟩
          rw [List.length_append, ul, cnt, if_pos (by omega)]
          rfl
        · have hc' : ¬ (1 + (i : Int) = y1 ∨ 1 + (i : Int) = y2) := by
            intro z
            refine hc ?_
            show inV (.int (1 + (i : Int))) (iv [y1, y2]) = true
            rw [inV_iv]
            simpa using z
          refine ⟨us, ?_, l15⟩
          rw [ul, cnt, if_neg (by omega)]
          rfl
      · rintro H15 ⟨us, ul, l15⟩
        have full : (metL log).take (refs ds).length = metL log := by rw [refs_len, ← vals_len ds, ed, List.take_length]
        rw [full] at ul
        refine ⟨D3, us, rfl, .inl (SqL.of l15.at0), _, l15.atIx (i := 1) rfl, sl_line' (by rw [iv_len, tab_len]; omega), ?_⟩
        show Loc H13 _ _
        rw [tab_succ, iv_snoc, ul]
        exact (l15.setIx (i := 1) rfl).drop1
    intro H14 l14
    have en1 : ((n : Int) + 1 - 1).toNat = n := by omega
    rw [en1] at l14
    have eS : tab n (fun m => (((way log (m + 1)).length : Nat) : Int) - 1) = tab n fun m => (((metL log).countP fun e => decide (e.1 = (m : Int) + 1 ∨ e.2 = (m : Int) + 1) : Nat) : Int) := tab_ext fun j _ => by
      rw [meet_steps]
      omega
    refine ⟨_, _, IsInts.dp (SqL.of (l13.ext l14.same).at0), IsInts.dp (SqL.of l14.at0), shaped_dI _, shaped_dI _, _, rfl, iteFF (by rw [eqv_dI, decide_eq_true eS]; rfl) ?_⟩
    have s14 := s13.trans l14.same
    have l14' : Loc H1 H14 [(tl, .lst [.ref m2, .ref m3]), (m2, .lst (refs t2))] := ((l11'.ext l12.same).ext l13.same).ext l14.same
    -- trees
    refine ⟨_, rfl, _, rfl, n, s, web, rfl, n1, n2, by omega, hvw, pw1.grow s14, fun H15 s15 => ⟨_, rfl, ?_⟩⟩
    have l15 := l14'.ext s15
    refine ite2 (fun ht => ?ct) (fun ht => ?cf)
    case' cf =>
      have lF := l15
    case' ct =>
      have t1 : ((web.length : Int) = n - 1) ∧ (((pcs n web).length : Nat) : Int) = 1 := by
        unfold treeB at ht
        simpa using ht
      have cw : cnt n web = 1 := by rw [← cnt_pcs]; omega
      have cl : cnt n log = 1 := by rw [← cw]; exact cnt_congr hv hvw.1 fun x y => ⟨conn_perm pm, conn_perm pm.symm⟩
      have nf : ¬ ∃ l1 e r, log = l1 ++ e :: r ∧ Conn l1 e.1 e.2 := fun z => by
        have h1 := (forest log hv).2 z
        have h2 := pm.length_eq
        omega
      have mnd := meet_nodup log hv nf
      refine ⟨_, rfl, _, rfl, dm, refs ds, keyOf ds, rfl, dueAt _ (s14.trans s15), fun x hx => ?hk, fun ys p srtd stb hpn => ?hc⟩
      case hk =>
        obtain ⟨y, hy, rfl⟩ := List.mem_map.mp hx
        refine ⟨y.1, rfl, ?_⟩
        rw [keyOf_at nds hy]
        exact (s14.trans s15) _ _ (dsAt y hy)
      have inY : ∀ v ∈ ys, ∃ y ∈ ds, v = V.ref y.1 := fun v hv' => by
        obtain ⟨y, hy, e⟩ := List.mem_map.mp (stb.perm.mem_iff.mp hv')
        exact ⟨y, hy, e.symm⟩
      have eK : (refs ds).map (keyOf ds) = metL log := by
        rw [← ed]
        unfold refs vals
        rw [List.map_map]
        exact List.map_congr_left fun y hy => keyOf_at nds hy
      have pK : (ys.map (keyOf ds)).Perm (metL log) := by rw [← eK]; exact stb.perm.map _
      have ndK : (ys.map (keyOf ds)).Nodup := pK.nodup_iff.mpr mnd
      have vK : ValidW n (ys.map (keyOf ds)) := by
        refine ⟨fun e he => vm e (pK.mem_iff.mp he), ?_⟩
        rw [List.pairwise_map]
        have nd2 : ys.Pairwise fun x y => keyOf ds x ≠ keyOf ds y := List.pairwise_map.mp ndK
        exact (srtd.and nd2).imp fun {x y} h => lex_ltP h.1 h.2
      have l16 := l15.alloc (o := .lst ys) hpn
      have pK2 : IsPairs K (upd H15 p (.lst ys)) p (ys.map (keyOf ds)) := by
        refine ⟨ys.map fun v => ((match v with | .ref t => t | _ => 0), keyOf ds v), ?_, ?_, fun t ht' => ?_⟩
        · unfold vals
          rw [List.map_map]
          rfl
        · have : refs (ys.map fun v => (((match v with | .ref t => t | _ => 0) : Addr), keyOf ds v)) = ys := by
            unfold refs
            rw [List.map_map]
            refine (List.map_congr_left fun v hv' => ?_).trans (List.map_id ys)
            obtain ⟨y, hy, rfl⟩ := inY v hv'
            rfl
          rw [this]
          exact SqL.of l16.at0
        · obtain ⟨v, hv', rfl⟩ := List.mem_map.mp ht'
          obtain ⟨y, hy, rfl⟩ := inY v hv'
          simp only [keyOf_at nds hy]
          exact .inl (.inl (l16.same _ _ (dsAt y hy)))
      have lenK : (ys.map (keyOf ds)).length = log.length := by rw [pK.length_eq, metL_len]
      have tK : treeB n (ys.map (keyOf ds)) = true := by
        have h2 := pm.length_eq
        have h3 : cnt n (ys.map (keyOf ds)) = 1 := by
          rw [← cl]
          exact cnt_congr vK.1 hv fun x y => ⟨fun h => (conn_meet log x y).mp (conn_perm pK h), fun h => conn_perm pK.symm ((conn_meet log x y).mpr h)⟩
        unfold treeB
        rw [cnt_pcs, h3, lenK]
        simp
        omega
      refine ⟨n, p, ys.map (keyOf ds), rfl, n1, n2, by omega, vK, pK2, fun H17 s17 => ⟨_, rfl, ?hd⟩⟩
      case' hd =>
        refine iteFF (by rw [tK]; rfl) ?_
        have lF := (l16.ext s17).drop1
    all_goals
      refine ⟨_, rfl, _, _, _, _, rfl, rfl, SqL.of (lF.atIx (i := 0) rfl), at_of (j := 0) rfl rfl, .inl ⟨rfl, _, SqL.of (lF.atIx (i := 1) rfl)⟩, m2, refs t2, _, rfl, rfl, lF.atIx (i := 1) rfl, sl_line' (by
        have := congrArg List.length e2
        rw [vals_len] at this
        rw [refs_len]
        omega), ?_⟩
      have lG := lF.setIx (i := 1) (o' := .lst (refs t2 ++ [.non])) rfl
      refine ⟨_, rfl, _, rfl, n, a, log, rfl, n1, n2, by omega, hv, hnd, hp1.grow lG.same, fun H20 p20 t20 l20 e20 => ?_⟩
      have p20' : IsPairs K H20 p20 (metL log) := ⟨t20, e20, SqL.of l20.at0, fun x hx => .inl (.inl (l20.here (x.1, .tup [.int x.2.1, .int x.2.2]) (List.mem_cons_of_mem _ (List.mem_map.mpr ⟨x, hx, rfl⟩))))⟩
      have s20 : Same H1 H20 := lG.same.trans l20.same
      refine ⟨_, _, rfl, p20'.dp, smQ smM (by decide) (by decide) ⟨_, rfl, _, _, rfl, (due1.grow s20).dp, smQ smM (by decide) (by decide) ⟨rfl, _, rfl, ?_⟩⟩⟩
      refine iteTT (by simp) ⟨_, rfl, _, _, rfl, (hp1.grow s20).dp, smQ smL (by decide) (by decide) ⟨_, rfl, rfl, ?_⟩⟩
      have e0 : decide (V.str (dP log).shown = V.str (dP log).shown) = true := by simp
      rw [e0]
      exact q H20 (l1.same.trans s20)
end

abbrev s__law_draws : Stmt := topS 22
theorem sc__law_draws : FnScope ["_law_cell"] ["_law_cell"] (defScope s__law_draws) := ⟨rfl, rfl, rfl, by decide +kernel, rfl, by decide +kernel, by decide +kernel⟩
abbrev s__law_next : Stmt := topS 23
theorem sc__law_next : FnScope ["_law_draws_here", "_law_k", "_law_number"] ["_law_draws_here"] (defScope s__law_next) := ⟨rfl, rfl, rfl, by decide +kernel, rfl, by decide +kernel, by decide +kernel⟩
/-- what the draws hold: a number, how often was drawn, whether by figures -/
def drawO (n k : Int) (b : Bool) : HO := .lst [.int n, .int k, .bl b]
def Draw (H : Hp) (a : Addr) (m : Nat) : Prop := ∃ (n k : Int) (b : Bool), H a = some (drawO n k b) ∧ 0 ≤ n ∧ 0 ≤ k ∧ k ≤ m
section
variable {P : Program} {w : World} {K : PySem.W.Frag} {mg : Str → Option Value} {base : Heap}
def sp__law_draws : Sp := fun vs H Q _ => ∃ c : Int, vs = [.int c] ∧ ∀ (p : Addr) (n : Int) (b : Bool), H p = none → 0 ≤ n → Q (.ref p) (upd H p (drawO n 0 b))
theorem ok__law_draws {f : Addr} {fd : FuncData} {k : Nat} (F : Fun K "_law_draws" "_law_draws" s__law_draws f fd) (z_int : mg "int" = none) : FG P w K mg base CX0 (k + 1) f fd ["_law_cell"] sp__law_draws := by
  refine fg_fun F sc__law_draws (fun vs H Q E h => ?_) (fun cdv A out s H vs Q E hr hg h => ?_)
  · obtain ⟨c, rfl, _⟩ := h
    rfl
  · obtain ⟨c, rfl, q⟩ := h
    refine ⟨_, (pss_one (ps_ret (pe_lst (pa_cons (pe_op op_mod (pe_callTy call_int1 (by rfl) z_int bt_int (pa_cons (pv 0) pa_nil)) (pe_op op_powW (pe_op op_powW (pe_op op_powW pe_int pe_int) pe_int) pe_int)) (pa_cons pe_int (pa_cons (pe_cmpR op_ge (pv 0) (pe_op op_powW pe_int pe_int) (nomark _)) pa_nil)))))), ?_⟩
    have p1 : CPowW 10 60 := ⟨by decide, by decide, by decide, by decide +kernel⟩
    have p2 : CPowW (10 ^ (60 : Int).toNat) 60 := ⟨by decide, by decide, by decide +kernel, by decide +kernel⟩
    have p3 : CPowW ((10 ^ (60 : Int).toNat) ^ (60 : Int).toNat) 4 := ⟨by decide, by decide, by decide +kernel, by decide +kernel⟩
    have p4 : CPowW 10 18 := ⟨by decide, by decide, by decide, by decide +kernel⟩
    have pos : (0 : Int) < ((10 ^ (60 : Int).toNat) ^ (60 : Int).toNat) ^ (4 : Int).toNat := Int.pow_pos (Int.pow_pos (Int.pow_pos (by decide)))
    refine ⟨_, rfl, .inl ⟨_, rfl, ?_⟩⟩
    refine ⟨_, _, rfl, rfl, p1, _, _, rfl, rfl, p2, _, _, rfl, rfl, p3, _, _, rfl, rfl, pos, ?_⟩
    refine ⟨_, rfl, _, _, rfl, rfl, p4, _, _, rfl, rfl, ?_⟩
    exact ⟨sl3, fun p hp => q p _ _ hp (Int.emod_nonneg _ (by omega))⟩
def sp__law_next : Sp := fun vs H Q _ => ∃ (a : Addr) (m : Nat), vs = [.ref a] ∧ Draw H a m ∧ m ≤ 1000000 ∧ ∀ (n k : Int) (b : Bool) (r : Int), 0 ≤ n → 0 ≤ k → k ≤ (m : Int) + 1 → 0 ≤ r → Q (.int r) (upd H a (drawO n k b))
theorem ok__law_next {f : Addr} {fd : FuncData} {k : Nat} (F : Fun K "_law_next" "_law_next" s__law_next f fd) (z_int : mg "int" = none) : FG P w K mg base CX0 (k + 1) f fd ["_law_draws_here"] sp__law_next := by
  refine fg_fun F sc__law_next (fun vs H Q E h => ?_) (fun cdv A out s H vs Q E hr hg h => ?_)
  · obtain ⟨a, m, rfl, _⟩ := h
    rfl
  · obtain ⟨a, m, rfl, ⟨n, k, b, ha, n0, k0, km⟩, hm, q⟩ := h
    refine ⟨_, (pss_cons (ps_asg (pe_op op_add (pe_ix (ix_listK K rfl) (pv 0) pe_int (fun _ _ => rfl)) pe_int) (pg_sub (pv 0) pe_int set_list))
      (pss_cons (ps_set (i := 1) sc__law_next.nd rfl (.inl rfl) (pe_ix (ix_listK K rfl) (pv 0) pe_int (fun _ _ => rfl)))
      (pss_cons (ps_if (pt_truthK K rfl (pe_ix (ix_listK K rfl) (pv 0) pe_int (fun _ _ => rfl)) (by intro _; rfl))
        (pss_cons (ps_set (i := 2) sc__law_next.nd rfl (.inl rfl) (pe_op op_mod (pe_callTy call_int1 (by rfl) z_int bt_int (pa_cons (pe_ix (ix_listK K rfl) (pv 0) pe_int (fun _ _ => rfl)) pa_nil)) (pe_op op_powW pe_int pe_int)))
          (pss_cons (ps_asg (pe_op op_fdivW (pe_ix (ix_listK K rfl) (pv 0) pe_int (fun _ _ => rfl)) (pe_op op_powW pe_int pe_int)) (pg_sub (pv 0) pe_int set_list))
          (pss_one (ps_ret (pv 2)))))
        pss_nil)
      (pss_cons (ps_set (i := 2) sc__law_next.nd rfl (.inl rfl) (pe_op op_mod (pe_callTy call_int1 (by rfl) z_int bt_int (pa_cons (pe_op op_mulW (pe_op op_add (pe_op op_add (pe_op op_mod (pe_callTy call_int1 (by rfl) z_int bt_int (pa_cons (pe_ix (ix_listK K rfl) (pv 0) pe_int (fun _ _ => rfl)) pa_nil)) pe_int) (pe_op op_mulW (pe_op op_mulW (pv 1) (pv 1)) pe_int)) (pv 1)) pe_int) pa_nil)) pe_int))
      (pss_cons (ps_set (i := 2) sc__law_next.nd rfl (.inl rfl) (pe_op op_mod (pe_callTy call_int1 (by rfl) z_int bt_int (pa_cons (pe_op op_mulW (pv 2) (pv 2)) pa_nil)) pe_int))
      (pss_one (ps_ret (pe_op op_fdivW (pe_op op_mod (pe_callTy call_int1 (by rfl) z_int bt_int (pa_cons (pe_op op_mulW (pv 2) (pe_op op_add (pv 2) pe_int)) pa_nil)) pe_int) pe_int)))))))), ?_⟩
    have h1 : upd H a (drawO n (k + 1) b) a = some (drawO n (k + 1) b) := upd_same
    have p6 : CPowW 10 6 := ⟨by decide, by decide, by decide, by decide +kernel⟩
    have m1 : (0 : Int) < 10 ^ (6 : Int).toNat := by decide
    have m2 : (0 : Int) < 1000003 := by decide
    have m3 : (0 : Int) < 2147483629 := by decide
    have m4 : (0 : Int) < 2147483587 := by decide
    have m5 : (0 : Int) < 2147483579 := by decide
    have s1 : SqL K (upd H a (drawO n (k + 1) b)) a [.int n, .int (k + 1), .bl b] := SqL.of h1
    refine ⟨_, rfl, _, _, _, _, rfl, rfl, SqL.of ha, at_of (j := 1) rfl rfl, _, _, rfl, rfl, _, rfl, a, _, _, 1, rfl, rfl, ha, rfl, ?_⟩
    refine ⟨_, rfl, _, _, _, _, rfl, rfl, s1, at_of (j := 1) rfl rfl, ?_⟩
    refine ⟨_, rfl, _, _, _, _, rfl, rfl, s1, at_of (j := 2) rfl rfl, b, rfl, ?_⟩
    cases b with
    | true =>
      refine iteT ?_
      refine ⟨_, rfl, _, _, _, _, rfl, rfl, s1, at_of (j := 0) rfl rfl, .inl ⟨_, rfl, ?_⟩⟩
      refine ⟨_, _, rfl, rfl, p6, _, _, rfl, rfl, m1, ?_⟩
      refine ⟨_, rfl, _, _, _, _, rfl, rfl, s1, at_of (j := 0) rfl rfl, _, _, rfl, rfl, p6, _, _, rfl, rfl, ⟨by decide, by decide +kernel⟩, _, rfl, a, _, _, 0, rfl, rfl, h1, rfl, ?_⟩
      refine ⟨_, rfl, ?_⟩
      have := q (n / 10 ^ (6 : Int).toNat) (k + 1) true (n % 10 ^ (6 : Int).toNat) (Int.ediv_nonneg n0 (by decide)) (by omega) (by omega) (Int.emod_nonneg _ (by decide))
      rw [← L2.upd_upd (o := drawO n (k + 1) true)] at this
      exact this
    | false =>
      refine iteF ?_
      have kl : k + 1 ≤ 2000000 := by omega
      have b1 : (k + 1).natAbs < 2 ^ 21 := by omega
      have b2 : ((k + 1) * (k + 1)).natAbs < 2 ^ (21 + 21) := wide_lt b1 b1
      have b3 : ((k + 1) * (k + 1) * 7919).natAbs < 2 ^ (21 + 21 + 13) := wide_lt b2 (by decide)
      have b4 : (n % 1000003).natAbs < 2 ^ 20 := by omega
      have b5 : (n % 1000003 + (k + 1) * (k + 1) * 7919 + (k + 1)).natAbs < 2 ^ 60 := by omega
      refine ⟨_, rfl, _, _, _, _, rfl, rfl, s1, at_of (j := 0) rfl rfl, .inl ⟨_, rfl, _, _, rfl, rfl, m2, ?_⟩⟩
      refine ⟨_, rfl, _, rfl, _, _, rfl, rfl, wide_mul b1 b1 (by decide) (by decide) (by decide), _, _, rfl, rfl, wide_mul b2 (by decide : (7919 : Int).natAbs < 2 ^ 13) (by decide) (by decide) (by decide), _, _, rfl, rfl, ?_⟩
      have b6 : ((n % 1000003 + (k + 1) * (k + 1) * 7919 + (k + 1)) * 48271 % 2147483629).natAbs < 2 ^ 31 := by omega
      refine ⟨_, rfl, _, _, rfl, rfl, _, _, rfl, rfl, wide_mul b5 (by decide : (48271 : Int).natAbs < 2 ^ 16) (by decide) (by decide) (by decide), .inl ⟨_, rfl, _, _, rfl, rfl, m3, ?_⟩⟩
      refine ⟨_, rfl, _, rfl, _, _, rfl, rfl, wide_mul b6 b6 (by decide) (by decide) (by decide), .inl ⟨_, rfl, _, _, rfl, rfl, m4, ?_⟩⟩
      have b7 : (((n % 1000003 + (k + 1) * (k + 1) * 7919 + (k + 1)) * 48271 % 2147483629) * ((n % 1000003 + (k + 1) * (k + 1) * 7919 + (k + 1)) * 48271 % 2147483629) % 2147483587).natAbs < 2 ^ 31 := by omega
      have b8 : ((((n % 1000003 + (k + 1) * (k + 1) * 7919 + (k + 1)) * 48271 % 2147483629) * ((n % 1000003 + (k + 1) * (k + 1) * 7919 + (k + 1)) * 48271 % 2147483629) % 2147483587) + 2).natAbs < 2 ^ 32 := by omega
      refine ⟨_, rfl, _, rfl, _, _, rfl, rfl, _, _, rfl, rfl, wide_mul b7 b8 (by decide) (by decide) (by decide), .inl ⟨_, rfl, _, _, rfl, rfl, m5, _, _, rfl, rfl, ⟨by decide, by decide +kernel⟩, ?_⟩⟩
      exact q n (k + 1) false _ n0 (by omega) (by omega) (by omega)
end

abbrev s__law_web : Stmt := topS 24
theorem sc__law_web : FnScope ["_law_draws_here", "_law_most", "_law_many", "_law_size", "_law_told", "_law_kind", "_law_k", "_law_turn", "_law_one", "_law_two"] ["_law_draws_here", "_law_most", "_law_many"] (defScope s__law_web) := ⟨rfl, rfl, rfl, by decide +kernel, rfl, by decide +kernel, by decide +kernel⟩
/-- all but the draws' own list stays -/
def SameX (a : Addr) (H H' : Hp) : Prop := ∀ b o, b ≠ a → H b = some o → H' b = some o
/-- as Loc, the draws' list may have changed -/
def DLoc (H : Hp) (a : Addr) (m : Nat) (H2 : Hp) (L : Led) : Prop := ∃ (n k : Int) (b : Bool), Loc (upd H a (drawO n k b)) H2 L ∧ 0 ≤ n ∧ 0 ≤ k ∧ k ≤ m
section
variable {H H2 : Hp} {a p : Addr} {m m' : Nat} {L M : Led} {o o' : HO}
theorem Draw.dloc (h : Draw H a m) : DLoc H a m H [] := by
  obtain ⟨n, k, b, h1, h2, h3, h4⟩ := h
  exact ⟨n, k, b, Loc.start h1, h2, h3, h4⟩
theorem DLoc.draw (l : DLoc H a m H2 L) : Draw H2 a m := by
  obtain ⟨n, k, b, l, h⟩ := l
  exact ⟨n, k, b, l.own, h⟩
theorem DLoc.mono (l : DLoc H a m H2 L) (h : m ≤ m') : DLoc H a m' H2 L := by
  obtain ⟨n, k, b, l, h1, h2, h3⟩ := l
  exact ⟨n, k, b, l, h1, h2, by omega⟩
theorem DLoc.next (l : DLoc H a m H2 L) {n k : Int} {b : Bool} (h1 : 0 ≤ n) (h2 : 0 ≤ k) (h3 : k ≤ (m : Int) + 1) : DLoc H a (m + 1) (upd H2 a (drawO n k b)) L := by
  obtain ⟨_, _, _, l, _⟩ := l
  exact ⟨n, k, b, l.bump, h1, h2, by omega⟩
theorem DLoc.alloc (l : DLoc H a m H2 L) (hp : H2 p = none) : DLoc H a m (upd H2 p o) ((p, o) :: L) := by
  obtain ⟨n, k, b, l, h⟩ := l
  exact ⟨n, k, b, l.alloc hp, h⟩
theorem DLoc.setIx (l : DLoc H a m H2 L) {i : Nat} (h : L[i]? = some (p, o)) : DLoc H a m (upd H2 p o') (L.set i (p, o')) := by
  obtain ⟨n, k, b, l, h'⟩ := l
  exact ⟨n, k, b, l.setIx h, h'⟩
theorem DLoc.atIx (l : DLoc H a m H2 L) {i : Nat} (h : L[i]? = some (p, o)) : H2 p = some o := by
  obtain ⟨n, k, b, l, _⟩ := l
  exact l.atIx h
theorem DLoc.here (l : DLoc H a m H2 L) {q : Addr × HO} (h : q ∈ L) : H2 q.1 = some q.2 := by
  obtain ⟨n, k, b, l, _⟩ := l
  exact l.here q h
theorem DLoc.keep (l : DLoc H a m H2 L) (s : M.Sublist L) : DLoc H a m H2 M := by
  obtain ⟨n, k, b, l, h⟩ := l
  exact ⟨n, k, b, l.keep s, h⟩
theorem DLoc.perm (l : DLoc H a m H2 L) (s : M.Perm L) : DLoc H a m H2 M := by
  obtain ⟨n, k, b, l, h⟩ := l
  exact ⟨n, k, b, l.perm s, h⟩
theorem DLoc.sameX (l : DLoc H a m H2 L) : SameX a H H2 := by
  obtain ⟨n, k, b, l, _⟩ := l
  intro c o hc e
  exact l.same c o (by rw [upd_ne hc]; exact e)
end
theorem pairL_snoc (ts : List (Addr × Int × Int)) (p : Addr) (x y : Int) : pairL (ts ++ [(p, x, y)]) = pairL ts ++ [(p, .tup [.int x, .int y])] := List.map_append ..
section
variable {P : Program} {w : World} {K : PySem.W.Frag} {mg : Str → Option Value} {base : Heap}
def sp__law_web (K : PySem.W.Frag) : Sp := fun vs H Q _ => ∃ (a : Addr) (m most many : Nat), vs = [.ref a, .int most, .int many] ∧ Draw H a m ∧ m ≤ 900000 ∧ 1 ≤ most ∧ most ≤ 16 ∧ many ≤ 16 ∧
  ∀ H' (T s : Addr) (n : Nat) web, SameX a H H' → Draw H' a (m + 64) → SqT K H' T [.int n, .ref s] → IsPairs K H' s web → ValidW n web → 1 ≤ n → n ≤ most → web.length < 64 → Q (.ref T) H'
theorem ok__law_web {f : Addr} {fd : FuncData} {k : Nat} (F : Fun K "_law_web" "_law_web" s__law_web f fd) (z_int : mg "int" = none) (z_range : mg "range" = none) (z_min : mg "min" = none) (z_max : mg "max" = none) (z_set : mg "set" = none) (z_sorted : mg "sorted" = none)
    (c__law_next : CalG P w K mg base k "_law_next" s__law_next ["_law_draws_here"] sp__law_next) : FG P w K mg base CX0 (k + 1) f fd ["_law_draws_here", "_law_most", "_law_many"] (sp__law_web K) := by
  refine fg_fun F sc__law_web (fun vs H Q E h => ?_) (fun cdv A out s H vs Q E hr hg h => ?_)
  · obtain ⟨a, _, _, _, rfl, _⟩ := h
    rfl
  · obtain ⟨a, m, most, many, rfl, hD, hm, g1, g2, g3, q⟩ := h
    have hu64 := hr.units
    have four : (0 : Int) < 4 := by decide
    refine ⟨_, (pss_cons (ps_set (i := 3) sc__law_web.nd rfl (.inl rfl) (pe_op op_add pe_int (pe_op op_mod (pe_callTy call_int1 (by rfl) z_int bt_int (pa_cons (pe_cG c__law_next hr (by omega) hg (by rfl) (pa_cons (pv 0) pa_nil)) pa_nil)) (pv 1))))
      (pss_cons (ps_set (i := 4) sc__law_web.nd rfl (.inl rfl) (pe_lst pa_nil))
      (pss_cons (ps_set (i := 5) sc__law_web.nd rfl (.inl rfl) (pe_op op_mod (pe_callTy call_int1 (by rfl) z_int bt_int (pa_cons (pe_cG c__law_next hr (by omega) hg (by rfl) (pa_cons (pv 0) pa_nil)) pa_nil)) pe_int))
      (pss_cons (ps_for PassesOwn.never rfl (pi_range2 (by rfl) z_range (pa_cons pe_int (pa_cons (pe_op op_add (pv 3) pe_int) pa_nil))) (pg_name (i := 6) sc__law_web.nd rfl (.inl rfl))
        (pss_one (ps_if (pt_cmpR op_gt (pv 5) pe_int (nomark _))
            (pss_one (ps_expr (pe_bmK K rfl PySem.F.plainAttrs_list PySem.F.slot_list_append PySem.F.type_list_append mt_append (pv 4) (pa_cons (pe_tup (pa_cons (pe_op op_add pe_int (pe_op op_mod (pe_callTy call_int1 (by rfl) z_int bt_int (pa_cons (pe_cG c__law_next hr (by omega) hg (by rfl) (pa_cons (pv 0) pa_nil)) pa_nil)) (pe_op op_sub (pv 6) pe_int))) (pa_cons (pv 6) pa_nil))) pa_nil))))
            pss_nil)))
      (pss_cons (ps_for PassesOwn.never rfl (pi_range1 (by rfl) z_range (pa_cons (pe_ifExp (pt_cmpR op_lt (pv 5) pe_int (nomark _)) (pe_op op_mod (pe_callTy call_int1 (by rfl) z_int bt_int (pa_cons (pe_cG c__law_next hr (by omega) hg (by rfl) (pa_cons (pv 0) pa_nil)) pa_nil)) (pe_op op_add (pv 2) pe_int)) pe_int) pa_nil)) (pg_name (i := 7) sc__law_web.nd rfl (.inl rfl))
        (pss_cons (ps_set (i := 8) sc__law_web.nd rfl (.inl rfl) (pe_op op_add pe_int (pe_op op_mod (pe_callTy call_int1 (by rfl) z_int bt_int (pa_cons (pe_cG c__law_next hr (by omega) hg (by rfl) (pa_cons (pv 0) pa_nil)) pa_nil)) (pv 3))))
          (pss_cons (ps_set (i := 9) sc__law_web.nd rfl (.inl rfl) (pe_op op_add pe_int (pe_op op_mod (pe_callTy call_int1 (by rfl) z_int bt_int (pa_cons (pe_cG c__law_next hr (by omega) hg (by rfl) (pa_cons (pv 0) pa_nil)) pa_nil)) (pv 3))))
          (pss_one (ps_set (i := 4) sc__law_web.nd rfl (.inl rfl) (pe_op op_cat (pv 4) (pe_op op_rep (pe_lst (pa_cons (pe_tup (pa_cons (pe_callB (call_min2 rfl) (by rfl) z_min bt_min (pa_cons (pv 8) (pa_cons (pv 9) pa_nil))) (pa_cons (pe_callB (call_max2 rfl) (by rfl) z_max bt_max (pa_cons (pv 8) (pa_cons (pv 9) pa_nil))) pa_nil))) pa_nil)) (pe_callTy call_int1 (by rfl) z_int bt_int (pa_cons (pe_cmpR op_ne (pv 8) (pv 9) (nomark _)) pa_nil)))))))))
      (pss_one (ps_ret (pe_tup (pa_cons (pv 3) (pa_cons (pe_callB (cr_sortedTK P w K rfl rfl rfl rfl) (by rfl) z_sorted bt_sorted (pa_cons (pe_callTy (cr_setOfTK P w K rfl rfl rfl rfl hu64) (by rfl) z_set bt_set (pa_cons (pv 4) pa_nil)) pa_nil)) pa_nil)))))))))), ?_⟩
    refine ⟨_, rfl, a, m, rfl, hD, by omega, fun n0 k0 b0 r0 i1 i2 i3 i4 => .inl ⟨_, rfl, _, rfl, _, _, rfl, rfl, (by show (0 : Int) < most; omega), _, _, rfl, rfl, ?_⟩⟩
    have l1 := hD.dloc.next (b := b0) i1 i2 i3
    have e1 : 0 ≤ r0 % (most : Int) := Int.emod_nonneg _ (by omega)
    have e2 : r0 % (most : Int) < most := Int.emod_lt_of_pos _ (by omega)
    dsimp only
    generalize hsz : 1 + r0 % (most : Int) = sz
    obtain ⟨n, rfl⟩ : ∃ n : Nat, sz = n := ⟨sz.toNat, by omega⟩
    have n1 : 1 ≤ n := by omega
    have n2 : n ≤ most := by omega
    clear e1 e2 hsz
    refine ⟨by decide, fun t ht => ?_⟩
    have l2 := l1.alloc (o := .lst []) ht
    refine ⟨_, rfl, a, m + 1, rfl, l2.draw, by omega, fun n0 k0 b0 r1 i1 i2 i3 i4 => .inl ⟨_, rfl, _, _, rfl, rfl, four, ?_⟩⟩
    have l3 := l2.next (b := b0) i1 i2 i3
    dsimp only
    generalize r1 % 4 = kd
    refine ⟨_, rfl, _, _, rfl, rfl, _, _, rfl, by omega, for_range (lo := 2) (n := ((n : Int) + 1 - 2).toNat)
      (fun i σ H2 => ∃ (ts : List (Addr × Int × Int)) (y6 : Option V), σ = [some (.ref a), some (.int most), some (.int many), some (.int n), some (.ref t), some (.int kd), y6, none, none, none] ∧
        ts.length ≤ i ∧ (∀ q ∈ ts, 1 ≤ q.2.1 ∧ q.2.1 < q.2.2 ∧ q.2.2 ≤ n) ∧ DLoc H a (m + 2 + i) H2 ((t, .lst (refs ts)) :: pairL ts)) ?_ ?_ ?_⟩
    · exact ⟨[], none, rfl, Nat.le_refl _, (fun _ z => nomatch z), l3⟩
    · rintro i σ H2 hi ⟨ts, y6, rfl, tl, tv, l⟩
      refine ⟨_, rfl, _, _, rfl, rfl, _, rfl, ite2 (fun hb => ?_) (fun hb => ?_)⟩
      · refine ⟨_, rfl, .inl ⟨rfl, _, SqL.of (l.atIx (i := 0) rfl)⟩, _, rfl, a, _, rfl, l.draw, by omega, fun n0 k0 b0 r2 i1 i2 i3 i4 => .inl ⟨_, rfl, _, rfl, _, _, rfl, rfl, _, _, rfl, rfl, (by show (0 : Int) < 2 + i - 1; omega), _, _, rfl, rfl, _, rfl, sl2, fun p hp => ?_⟩⟩
        have l4 := (l.next (b := b0) i1 i2 i3).alloc (o := .tup [.int (1 + r2 % (2 + (i : Int) - 1)), .int (2 + i)]) hp
        refine ⟨t, refs ts, _, rfl, rfl, l4.atIx (i := 1) rfl, sl_line' (by rw [refs_len]; omega), ?_⟩
        have e1 : 0 ≤ r2 % (2 + (i : Int) - 1) := Int.emod_nonneg _ (by omega)
        have e2 : r2 % (2 + (i : Int) - 1) < 2 + (i : Int) - 1 := Int.emod_lt_of_pos _ (by omega)
        refine ⟨ts ++ [(p, 1 + r2 % (2 + (i : Int) - 1), (2 : Int) + i)], _, rfl, by simp; omega, ?_, ?_⟩
        · intro q hq
          rcases List.mem_append.mp hq with hq | hq
          · exact tv q hq
          · cases List.mem_singleton.mp hq
            simp only
            omega
        · have l5 := l4.setIx (i := 1) (o' := .lst (refs ts ++ [.ref p])) rfl
          rw [refs_snoc, pairL_snoc]
          exact l5.perm (M := ((t, .lst (refs ts ++ [.ref p])) :: pairL ts) ++ [(p, _)]) List.perm_append_comm
      · exact ⟨ts, _, rfl, by omega, tv, l.mono (by omega)⟩
    · rintro σ H2 ⟨ts, y6, rfl, tl, tv, l⟩
      have lt0 : ts.length ≤ 15 := by omega
      have l0 : DLoc H a (m + 20) H2 ((t, .lst (refs ts)) :: pairL ts) := l.mono (by omega)
      clear l tl
      refine ⟨_, rfl, _, _, rfl, rfl, _, rfl, ite2 (fun hb => ?ct) (fun hb => ?cf)⟩
      case' cf =>
        have e0 : (0 : Int) ≤ 0 ∧ (0 : Int) ≤ many := by omega
        have l6 : DLoc H a (m + 21) H2 ((t, .lst (refs ts)) :: pairL ts) := l0.mono (by omega)
      case' ct =>
        refine ⟨_, rfl, a, _, rfl, l0.draw, by omega, fun n0 k0 b0 r2 i1 i2 i3 i4 => .inl ⟨_, rfl, _, rfl, _, _, rfl, rfl, _, _, rfl, rfl, (by show (0 : Int) < many + 1; omega), ?_⟩⟩
        have l6 := l0.next (b := b0) i1 i2 i3
        have e0 : 0 ≤ r2 % ((many : Int) + 1) ∧ r2 % ((many : Int) + 1) ≤ many := ⟨Int.emod_nonneg _ (by omega), by have := Int.emod_lt_of_pos r2 (show (0 : Int) < many + 1 by omega); omega⟩
      all_goals
        refine ⟨_, rfl, by omega, by omega, for_range (lo := 0) (n := _) (fun j σ H3 => ∃ (u : Addr) (us : List (Addr × Int × Int)) (y7 y8 y9 : Option V), σ = [some (.ref a), some (.int most), some (.int many), some (.int n), some (.ref u), some (.int kd), y6, y7, y8, y9] ∧
          us.length ≤ 15 + j ∧ (∀ q ∈ us, 1 ≤ q.2.1 ∧ q.2.1 < q.2.2 ∧ q.2.2 ≤ n) ∧ DLoc H a (m + 21 + 2 * j) H3 ((u, .lst (refs us)) :: pairL us)) ⟨t, ts, _, _, _, rfl, by omega, tv, l6⟩ ?_ ?_⟩
        · rintro j σ H3 hj ⟨u, us, y7, y8, y9, rfl, ul, uv, l⟩
          have hj2 : j < 16 := by omega
          refine ⟨_, rfl, a, _, rfl, l.draw, by omega, fun n0 k0 b0 x1 i1 i2 i3 i4 => .inl ⟨_, rfl, _, rfl, _, _, rfl, rfl, (by show (0 : Int) < n; omega), _, _, rfl, rfl, ?_⟩⟩
          have l7 := l.next (b := b0) i1 i2 i3
          refine ⟨_, rfl, a, _, rfl, l7.draw, by omega, fun n0 k0 b0 x2 i1 i2 i3 i4 => .inl ⟨_, rfl, _, rfl, _, _, rfl, rfl, (by show (0 : Int) < n; omega), _, _, rfl, rfl, ?_⟩⟩
          have l8 := l7.next (b := b0) i1 i2 i3
          have f1 : 0 ≤ x1 % (n : Int) ∧ x1 % (n : Int) < n := ⟨Int.emod_nonneg _ (by omega), Int.emod_lt_of_pos _ (by omega)⟩
          have f2 : 0 ≤ x2 % (n : Int) ∧ x2 % (n : Int) < n := ⟨Int.emod_nonneg _ (by omega), Int.emod_lt_of_pos _ (by omega)⟩
          dsimp only
          generalize x1 % (n : Int) = z1 at f1 ⊢
          generalize x2 % (n : Int) = z2 at f2 ⊢
          refine ⟨_, rfl, _, rfl, _, rfl, _, _, rfl, _, rfl, _, rfl, _, _, rfl, sl2, fun p hp => ⟨sl1, fun e he => ?_⟩⟩
          have l9 := (l8.alloc hp).alloc (o := .lst [.ref p]) he
          refine ⟨_, rfl, _, rfl, rfl, .inr ⟨_, rfl, e, _, _, rfl, rfl, l9.atIx (i := 0) rfl, ?_, ?_, ?_, fun rp hrp => ?_⟩⟩
          · split <;> omega
          · split <;> omega
          · split <;> exact Nat.le_of_lt (sl_line' (by simp))
          have l10 := l9.alloc (o := .lst (List.replicate (if (!decide (V.int (1 + z1) = V.int (1 + z2))) = true then (1 : Int) else 0).toNat [V.ref p]).flatten) hrp
          refine ⟨u, rp, refs us, _, rfl, rfl, l10.atIx (i := 3) rfl, l10.atIx (i := 0) rfl, ?_, fun u2 hu2 => ?_⟩
          · rw [refs_len]
            split <;> exact Nat.le_of_lt (sl_line' (by simp; omega))
          have l11 := l10.alloc (o := .lst (refs us ++ (List.replicate (if (!decide (V.int (1 + z1) = V.int (1 + z2))) = true then (1 : Int) else 0).toNat [V.ref p]).flatten)) hu2
          by_cases ez : z1 = z2
          · have ed : (!decide (V.int (1 + z1) = V.int (1 + z2))) = false := by rw [dVI]; simp [ez]
            rw [ed] at l11
            refine ⟨u2, us, _, _, _, rfl, by omega, uv, ?_⟩
            have l12 := l11.keep (M := (u2, .lst (refs us ++ (List.replicate (if false = true then (1 : Int) else 0).toNat [V.ref p]).flatten)) :: pairL us) (by
              refine List.Sublist.cons_cons _ ?_
              exact (((List.sublist_cons_self _ _).trans (List.sublist_cons_self _ _)).trans (List.sublist_cons_self _ _)).trans (List.sublist_cons_self _ _))
            have en : refs us ++ (List.replicate (if false = true then (1 : Int) else 0).toNat [V.ref p]).flatten = refs us := by simp
            rw [en] at l12
            rw [ed, en]
            exact l12.mono (by omega)
          · have ed : (!decide (V.int (1 + z1) = V.int (1 + z2))) = true := by rw [dVI]; simp; omega
            rw [ed] at l11
            have en : refs us ++ (List.replicate (if true = true then (1 : Int) else 0).toNat [V.ref p]).flatten = refs us ++ [.ref p] := by simp
            rw [en] at l11
            rw [ed, en]
            refine ⟨u2, us ++ [(p, (if 1 + z2 < 1 + z1 then 1 + z2 else 1 + z1), (if 1 + z2 > 1 + z1 then 1 + z2 else 1 + z1))], _, _, _, rfl, by simp; omega, ?_, ?_⟩
            · intro q hq
              rcases List.mem_append.mp hq with hq | hq
              · exact uv q hq
              · cases List.mem_singleton.mp hq
                simp only
                split <;> split <;> omega
            · rw [refs_snoc, pairL_snoc]
              have l12 := l11.keep (M := (u2, .lst (refs us ++ [.ref p])) :: (p, _) :: pairL us) (by
                refine List.Sublist.cons_cons _ ?_
                refine List.Sublist.cons _ (List.Sublist.cons _ (List.Sublist.cons_cons _ (List.sublist_cons_self _ _))))
              have l13 := l12.perm (M := ((u2, .lst (refs us ++ [.ref p])) :: pairL us) ++ [(p, _)]) (List.Perm.cons _ List.perm_append_comm)
              exact l13.mono (by omega)
        · rintro σ H3 ⟨u, us, y7, y8, y9, rfl, ul, uv, l⟩
          have ul2 : us.length ≤ 31 := by omega
          have lz : DLoc H a (m + 64) H3 ((u, .lst (refs us)) :: pairL us) := l.mono (by omega)
          have us_at : ∀ x ∈ us, H3 x.1 = some (.tup [.int x.2.1, .int x.2.2]) := fun x hx => lz.here (q := (x.1, .tup [.int x.2.1, .int x.2.2])) (List.mem_cons_of_mem _ (List.mem_map.mpr ⟨x, hx, rfl⟩))
          refine ⟨_, rfl, _, rfl, u, us.map fun x => (x.1, [x.2.1, x.2.2]), rfl, ?_, ?_, by rw [List.length_map]; omega, fun sa S hsa hS1 hS2 => ?_⟩
          · rw [List.map_map]
            exact SqL.of (lz.atIx (i := 0) rfl)
          · intro x hx
            obtain ⟨y, hy, rfl⟩ := List.mem_map.mp hx
            exact .inl (.inl (us_at y hy))
          have inS : ∀ x ∈ S, ∃ y ∈ us, x = (y.1, [y.2.1, y.2.2]) := fun x hx => by
            obtain ⟨y, hy, e⟩ := List.mem_map.mp (hS1 x hx)
            exact ⟨y, hy, e.symm⟩
          have lz2 := lz.alloc (o := SetTO P w sa S) hsa
          refine ⟨sa, S, 2, 64, rfl, upd_same, ?_, by decide, ?_, fun S' s pm nd few pw hs => ?_⟩
          · intro x hx
            obtain ⟨y, hy, rfl⟩ := inS x hx
            exact .inl (.inl (lz2.here (q := (y.1, .tup [.int y.2.1, .int y.2.2])) (List.mem_cons_of_mem _ (List.mem_cons_of_mem _ (List.mem_map.mpr ⟨y, hy, rfl⟩)))))
          · intro x hx
            obtain ⟨y, hy, rfl⟩ := inS x hx
            have := uv y hy
            refine ⟨rfl, fun z hz => ?_⟩
            simp only [List.mem_cons, List.not_mem_nil, or_false] at hz
            rcases hz with rfl | rfl <;> omega
          have inS' : ∀ x ∈ S', ∃ y ∈ us, x = (y.1, [y.2.1, y.2.2]) := fun x hx => inS x (pm.mem_iff.mp hx)
          have lz3 := lz2.alloc (o := .lst (S'.map fun q => V.ref q.1)) hs
          refine ⟨sl2, fun T hT => ?_⟩
          have lz4 := lz3.alloc (o := .tup [.int n, .ref s]) hT
          refine q _ T s n (S'.map fun x => (x.2.getD 0 0, x.2.getD 1 0)) lz4.sameX lz4.draw (.inl (.inl upd_same)) ⟨S'.map fun x => (x.1, x.2.getD 0 0, x.2.getD 1 0), ?_, ?_, ?_⟩ ⟨?_, ?_⟩ n1 n2 (by rw [List.length_map]; exact few)
          · unfold vals
            rw [List.map_map]
            rfl
          · unfold refs
            rw [List.map_map]
            exact SqL.of (lz4.atIx (i := 1) rfl)
          · intro x hx
            obtain ⟨z, hz, rfl⟩ := List.mem_map.mp hx
            obtain ⟨y, hy, rfl⟩ := inS' z hz
            exact .inl (.inl (lz4.here (q := (y.1, .tup [.int y.2.1, .int y.2.2])) (List.mem_cons_of_mem _ (List.mem_cons_of_mem _ (List.mem_cons_of_mem _ (List.mem_cons_of_mem _ (List.mem_map.mpr ⟨y, hy, rfl⟩)))))))
          · intro x hx
            obtain ⟨z, hz, rfl⟩ := List.mem_map.mp hx
            obtain ⟨y, hy, rfl⟩ := inS' z hz
            exact uv y hy
          · rw [List.pairwise_map]
            have nd' : S'.Pairwise fun x y => x.2 ≠ y.2 := List.pairwise_map.mp nd
            refine (pw.and nd').imp_of_mem fun {x y} hx hy h => ?_
            obtain ⟨x', hx', rfl⟩ := inS' x hx
            obtain ⟨y', hy', rfl⟩ := inS' y hy
            have v1 := uv x' hx'
            have v2 := uv y' hy'
            obtain ⟨h1, h2⟩ := h
            rw [code_pair, code_pair] at h1
            have h3 : ¬ (x'.2.1 = y'.2.1 ∧ x'.2.2 = y'.2.2) := fun z => h2 (by rw [z.1, z.2])
            show x'.2.1 < y'.2.1 ∨ (x'.2.1 = y'.2.1 ∧ x'.2.2 < y'.2.2)
            omega
end

abbrev s__law_log : Stmt := topS 25
theorem sc__law_log : FnScope ["_law_draws_here", "_law_some", "_law_left", "_law_told"] ["_law_draws_here", "_law_some"] (defScope s__law_log) := ⟨rfl, rfl, rfl, by decide +kernel, rfl, by decide +kernel, by decide +kernel⟩
theorem SameX.sqT {K : PySem.W.Frag} {H H' : Hp} {a t : Addr} {m : Nat} {xs : List V} (d : Draw H a m) (s : SameX a H H') (h : SqT K H t xs) : SqT K H' t xs := by
  obtain ⟨_, _, _, e, _⟩ := d
  rcases h with (h | ⟨o, h⟩) | h
  · exact .inl (.inl (s _ _ (fun z => by rw [z, e] at h; cases h) h))
  · exact .inl (.inr ⟨o, s _ _ (fun z => by rw [z, e] at h; cases h) h⟩)
  · exact .inr h
theorem IsPairs.growX {K : PySem.W.Frag} {H H' : Hp} {a t : Addr} {m : Nat} {ps : List (Int × Int)} (d : Draw H a m) (s : SameX a H H') (h : IsPairs K H t ps) : IsPairs K H' t ps := by
  obtain ⟨ts, e, h1, h2⟩ := h
  refine ⟨ts, e, ?_, fun x hx => s.sqT d (h2 x hx)⟩
  obtain ⟨n, k, b, ea, _⟩ := d
  rcases h1 with (h | ⟨o, h⟩) | h
  · refine .inl (.inl (s _ _ (fun z => ?_) h))
    rw [z, ea] at h
    have h' := Option.some.inj h
    unfold drawO at h'
    have h'' : [V.int n, V.int k, V.bl b] = refs ts := by injection h'
    cases ts with
    | nil => cases h''
    | cons x r => cases h''
  · exact .inl (.inr ⟨o, s _ _ (fun z => by rw [z, ea] at h; cases h) h⟩)
  · exact .inr h
theorem refs_erase {α : Type} : ∀ (us : List (Addr × α)) (k : Nat), (refs us).eraseIdx k = refs (us.eraseIdx k)
  | [], _ => rfl
  | _ :: _, 0 => rfl
  | x :: r, k + 1 => by
    show V.ref x.1 :: (refs r).eraseIdx k = V.ref x.1 :: refs (r.eraseIdx k)
    rw [refs_erase r k]
theorem erase_perm {α : Type} : ∀ {us : List α} {k : Nat} {x : α}, us[k]? = some x → us.Perm (x :: us.eraseIdx k)
  | [], _, _, h => by simp at h
  | y :: r, 0, x, h => by
    have e : y = x := by simpa using h
    subst e
    exact List.Perm.refl _
  | y :: r, k + 1, x, h => by
    have h2 : r[k]? = some x := by simpa using h
    exact ((erase_perm h2).cons y).trans (List.Perm.swap _ _ _)
section
variable {P : Program} {w : World} {K : PySem.W.Frag} {mg : Str → Option Value} {base : Heap}
def sp__law_log (K : PySem.W.Frag) : Sp := fun vs H Q _ => ∃ (a s : Addr) (m : Nat) (web : List (Int × Int)), vs = [.ref a, .ref s] ∧ Draw H a m ∧ m ≤ 900000 ∧ web.length ≤ 1000 ∧ IsPairs K H s web ∧
  ∀ H' p log, SameX a H H' → Draw H' a (m + web.length) → IsPairs K H' p log → log.Perm web → Q (.ref p) H'
theorem ok__law_log {f : Addr} {fd : FuncData} {k : Nat} (F : Fun K "_law_log" "_law_log" s__law_log f fd) (z_list : mg "list" = none) (z_int : mg "int" = none) (z_len : mg "len" = none)
    (c__law_next : CalG P w K mg base k "_law_next" s__law_next ["_law_draws_here"] sp__law_next) : FG P w K mg base CX0 (k + 1) f fd ["_law_draws_here", "_law_some"] (sp__law_log K) := by
  refine fg_fun F sc__law_log (fun vs H Q E h => ?_) (fun cdv A out s H vs Q E hr hg h => ?_)
  · obtain ⟨a, s, m, web, rfl, _⟩ := h
    rfl
  · obtain ⟨a, s, m, web, rfl, hD, hm, hw, hp, q⟩ := h
    have hu64 := hr.units
    refine ⟨_, (pss_cons (ps_set (i := 2) sc__law_log.nd rfl (.inl rfl) (pe_callTy (call_list_ofK K rfl) (by rfl) z_list bt_list (pa_cons (pv 1) pa_nil)))
      (pss_cons (ps_set (i := 3) sc__law_log.nd rfl (.inl rfl) (pe_lst pa_nil))
      (pss_cons (ps_while PassesOwn.never (pt_cmpR (op_neDK K rfl hu64) (pv 2) (pe_lst pa_nil) (nomark _))
        (pss_one (ps_expr (pe_bmK K rfl PySem.F.plainAttrs_list PySem.F.slot_list_append PySem.F.type_list_append mt_append (pv 3) (pa_cons (pe_bmK K rfl PySem.F.plainAttrs_list PySem.F.slot_list_pop PySem.F.type_list_pop mt_popAt (pv 2) (pa_cons (pe_op op_mod (pe_callTy call_int1 (by rfl) z_int bt_int (pa_cons (pe_cG c__law_next hr (by omega) hg (by rfl) (pa_cons (pv 0) pa_nil)) pa_nil)) (pe_callB (call_len_seqK K rfl) (by rfl) z_len bt_len (pa_cons (pv 2) pa_nil))) pa_nil)) pa_nil)))))
      (pss_one (ps_ret (pv 3)))))), ?_⟩
    obtain ⟨ts, ets, hts, htt⟩ := hp
    have ltw : ts.length = web.length := by rw [← ets, vals_len]
    refine ⟨_, rfl, s, refs ts, rfl, .inl hts, fun L hL => ⟨by decide, fun T hT => ?_⟩⟩
    have l0 := (hD.dloc.alloc (o := .lst (refs ts)) hL).alloc (o := .lst []) hT
    refine ⟨fun k σ H2 => ∃ us vs : List (Addr × Int × Int), σ = [some (.ref a), some (.ref s), some (.ref L), some (.ref T)] ∧ us.length = k ∧ (us ++ vs).Perm ts ∧ DLoc H a (m + vs.length) H2 [(T, .lst (refs vs)), (L, .lst (refs us))],
      ⟨_, ts, [], rfl, rfl, by rw [List.append_nil], l0⟩, ?_⟩
    rintro k σ H2 ⟨us, vs, rfl, ek, pm, l⟩
    have ln : us.length + vs.length = web.length := by
      have := pm.length_eq
      rw [List.length_append] at this
      omega
    have us_at : ∀ x ∈ us, SqT K H2 x.1 [.int x.2.1, .int x.2.2] := fun x hx => l.sameX.sqT hD (htt x (pm.mem_iff.mp (List.mem_append_left _ hx)))
    have isp : IsPairs K H2 L (vals us) := ⟨us, rfl, SqL.of (l.atIx (i := 1) rfl), us_at⟩
    refine ⟨_, rfl, by decide, fun e he => ⟨dP (vals us), dP [], (isp.grow ((Loc.refl H2).alloc (o := .lst []) he).same).dp, IsPairs.dp (K := K) (ps := []) ⟨[], rfl, SqL.of upd_same, (fun _ z => nomatch z)⟩, shaped_dP _, shaped_dP _, _, rfl, ?_⟩⟩
    rw [eqv_dP_nil]
    have l2 := (l.alloc (o := .lst []) he).keep (List.sublist_cons_self _ _)
    refine ite2 (fun hb => ?_) (fun hb => ?_)
    · have ne : us ≠ [] := fun z => by rw [z] at hb; simp [vals] at hb
      have pos : 0 < us.length := List.length_pos_iff.mpr ne
      refine ⟨fun σ' H' => ∃ m', m' < k ∧ _, fun _ _ z => z, ?_⟩
      refine ⟨_, rfl, .inl ⟨rfl, _, SqL.of (l2.atIx (i := 0) rfl)⟩, _, rfl, .inl ⟨rfl, _, SqL.of (l2.atIx (i := 1) rfl)⟩, _, rfl, a, _, rfl, l2.draw, by omega, fun n0 k0 b0 r i1 i2 i3 i4 => .inl ⟨_, rfl, ?_⟩⟩
      have l3 := l2.next (b := b0) i1 i2 i3
      have lr : (refs us).length = us.length := refs_len us
      have e1 : 0 ≤ r % ((refs us).length : Int) := Int.emod_nonneg _ (by omega)
      have e2 : r % ((refs us).length : Int) < (refs us).length := Int.emod_lt_of_pos _ (by omega)
      have hk : (r % ((refs us).length : Int)).toNat < us.length := by omega
      obtain ⟨y, hy⟩ : ∃ y, us[(r % ((refs us).length : Int)).toNat]? = some y := ⟨_, List.getElem?_eq_getElem hk⟩
      have lens : (us.eraseIdx (r % ((refs us).length : Int)).toNat).length + 1 = us.length := by
        rw [List.length_eraseIdx_of_lt hk]; omega
      refine ⟨_, rfl, L, _, rfl, .inl (SqL.of (l3.atIx (i := 1) rfl)), _, _, rfl, rfl, (by show (0 : Int) < (refs us).length; omega), L, refs us, _, (r % ((refs us).length : Int)).toNat, .ref y.1, rfl, rfl, l3.atIx (i := 1) rfl, by omega, by omega,
        (ixN_seq (ixI e1 (by omega))).1, refs_get (r := y.2) hy, ?_⟩
      rw [refs_erase]
      have l4 := l3.setIx (i := 1) (o' := .lst (refs (us.eraseIdx (r % ((refs us).length : Int)).toNat))) rfl
      refine ⟨T, refs vs, _, rfl, rfl, l4.atIx (i := 0) rfl, sl_line' (by rw [refs_len]; omega), ?_⟩
      have l5 := l4.setIx (i := 0) (o' := .lst (refs vs ++ [.ref y.1])) rfl
      refine ⟨_, ?_, us.eraseIdx (r % ((refs us).length : Int)).toNat, vs ++ [y], rfl, rfl, ?_, ?_⟩
      · omega
      · have p1 := (erase_perm hy).append_right vs
        refine List.Perm.trans ?_ (p1.symm.trans pm)
        rw [← List.append_assoc]
        exact List.perm_append_comm (l₂ := [y])
      · rw [refs_snoc, List.length_append, List.length_singleton, ← Nat.add_assoc]
        exact l5
    · have ue : us = [] := by
        cases us with
        | nil => rfl
        | cons x r => exact absurd (by simp [vals]) hb
      subst ue
      have vl : vs.length = web.length := by simpa using ln
      rw [vl] at l2
      refine ⟨_, rfl, q _ T (vals vs) l2.sameX l2.draw ⟨vs, rfl, SqL.of (l2.atIx (i := 0) rfl), fun x hx => l2.sameX.sqT hD (htt x (pm.mem_iff.mp (List.mem_append_right _ hx)))⟩ ?_⟩
      rw [← ets]
      exact (pm.map Prod.snd)
end

abbrev s_law : Stmt := topS 30
theorem sc_law : FnScope ["_law_script", "_law_draws_here", "_law_turn", "_law_size", "_law_some", "_law_cell"] ["_law_script"] (defScope s_law) := ⟨rfl, rfl, rfl, by decide +kernel, rfl, by decide +kernel, by decide +kernel⟩
theorem SameX.draw {a b : Addr} {m : Nat} {H H' : Hp} (s : SameX a H H') (hb : b ≠ a) (h : Draw H b m) : Draw H' b m := by
  obtain ⟨n, k, c, h1, h2⟩ := h
  exact ⟨n, k, c, s _ _ hb h1, h2⟩
theorem Draw.grow {b : Addr} {m : Nat} {H H' : Hp} (s : Same H H') (h : Draw H b m) : Draw H' b m := by
  obtain ⟨n, k, c, h1, h2⟩ := h
  exact ⟨n, k, c, s _ _ h1, h2⟩
theorem SameX.trans {a : Addr} {H H1 H2 : Hp} (s : SameX a H H1) (t : SameX a H1 H2) : SameX a H H2 := fun b o hb e => t b o hb (s b o hb e)
theorem Same.x {a : Addr} {H H1 : Hp} (s : Same H H1) : SameX a H H1 := fun b o _ e => s b o e
theorem IsPairs.nil {K : PySem.W.Frag} {H : Hp} {a : Addr} (h : SqL K H a []) : IsPairs K H a [] := ⟨[], rfl, h, (fun _ z => nomatch z)⟩
theorem validW_nil {n : Nat} : ValidW n [] := ⟨(fun _ z => nomatch z), List.Pairwise.nil⟩
theorem ValidW.nodup {n : Nat} {web : List (Int × Int)} (h : ValidW n web) : web.Nodup := h.2.imp fun {x y} h e => by
  subst e
  rcases h with h | ⟨_, h⟩ <;> omega
theorem ValidL.perm {n : Nat} {l m : List (Int × Int)} (h : ValidL n l) (p : m.Perm l) : ValidL n m := fun e he => h e (p.mem_iff.mp he)
def drawL (ds : List (Addr × Int × Bool)) : Led := ds.map fun q => (q.1, drawO q.2.1 0 q.2.2)
section
variable {P : Program} {w : World} {K : PySem.W.Frag} {mg : Str → Option Value} {base : Heap}
def sp_law (K : PySem.W.Frag) : Sp := fun vs H Q _ => ∃ (a : Addr) (ns : List Int), vs = [.ref a] ∧ ns.length ≤ 63 ∧ SqL K H a (iv ns) ∧ ∀ H', Q (.bl true) H'
theorem ok_law {f : Addr} {fd : FuncData} {k : Nat} (F : Fun K "law" "law" s_law f fd) (z_range : mg "range" = none)
    (c__law_draws : CalG P w K mg base k "_law_draws" s__law_draws ["_law_cell"] sp__law_draws) (c__law_web : CalG P w K mg base k "_law_web" s__law_web ["_law_draws_here", "_law_most", "_law_many"] (sp__law_web K))
    (c__law_log : CalG P w K mg base k "_law_log" s__law_log ["_law_draws_here", "_law_some"] (sp__law_log K)) (c__law_right : CalG P w K mg base k "_law_right" s__law_right ["_law_size", "_law_some", "_law_made"] (sp__law_right K)) (c_met : CalG P w K mg base k "met" s_met ["cells", "log"] (sp_met K)) :
    FG P w K mg base CX0 (k + 1) f fd ["_law_script"] (sp_law K) := by
  refine fg_fun F sc_law (fun vs H Q E h => ?_) (fun cdv A out s H vs Q E hr hg h => ?_)
  · obtain ⟨a, ns, rfl, _⟩ := h
    rfl
  · obtain ⟨a, ns, rfl, nl, hs, q⟩ := h
    have hu64 := hr.units
    refine ⟨_, (pss_cons (ps_for PassesOwn.never rfl (pi_listK K rfl (pe_lc (own := [("_law_cell", 5)]) (tt := tYes) rfl sc_law.nd (pi_listK K rfl (pe_op op_cat (pe_slice (sl_listK K rfl) (pv 0) po_none (po_some pe_int)) (pe_lst (pa_cons pe_int pa_nil)))) (blkOk_by (N := ["_law_script", "_law_draws_here", "_law_turn", "_law_size", "_law_some", "_law_cell"]) (sc := defScope s_law) (by decide +kernel)) (fun _ _ _ _ _ => (pg_name (i := 5) sc_law.nd rfl (Or.inl rfl))) (fun _ _ _ _ _ => pts_nil) (fun _ _ _ _ _ => (pe_cG c__law_draws hr (by omega) hg (by rfl) (pa_cons (pv 5) pa_nil))))) (pg_name (i := 1) sc_law.nd rfl (.inl rfl))
        (pss_one (ps_for PassesOwn.never rfl (pi_range1 (by rfl) z_range (pa_cons pe_int pa_nil)) (pg_name (i := 2) sc_law.nd rfl (.inl rfl))
            (pss_cons (ps_asg (pe_cG c__law_web hr (by omega) hg (by rfl) (pa_cons (pv 1) (pa_cons pe_int (pa_cons pe_int pa_nil)))) (pg_tupK K rfl rfl (pgs_cons (pg_name (i := 3) sc_law.nd rfl (.inl rfl)) (pgs_cons (pg_name (i := 4) sc_law.nd rfl (.inl rfl)) pgs_nil))))
              (pss_one (ps_if (pt_not (pt_val (pe_cG c__law_right hr (by omega) hg (by rfl) (pa_cons (pv 3) (pa_cons (pv 4) (pa_cons (pe_cG c__law_log hr (by omega) hg (by rfl) (pa_cons (pv 1) (pa_cons (pv 4) pa_nil))) pa_nil))))))
                (pss_one (ps_ret pe_bl))
                pss_nil))))))
      (pss_one (ps_ret (pe_and (pe_cmpR (op_eqDK K rfl hu64) (pe_cG c_met hr (by omega) hg (by rfl) (pa_cons pe_int (pa_cons (pe_lst (pa_cons (pe_tup (pa_cons pe_int (pa_cons pe_int pa_nil))) (pa_cons (pe_tup (pa_cons pe_int (pa_cons pe_int pa_nil))) (pa_cons (pe_tup (pa_cons pe_int (pa_cons pe_int pa_nil))) pa_nil)))) pa_nil))) (pe_lst (pa_cons (pe_tup (pa_cons pe_int (pa_cons pe_int pa_nil))) (pa_cons (pe_tup (pa_cons pe_int (pa_cons pe_int pa_nil))) (pa_cons (pe_tup (pa_cons pe_int (pa_cons pe_int pa_nil))) pa_nil)))) (nomark _)) (pe_one (pe_cmpR (op_eqDK K rfl hu64) (pe_cG c_met hr (by omega) hg (by rfl) (pa_cons pe_int (pa_cons (pe_lst pa_nil) pa_nil))) (pe_lst pa_nil) (nomark _))))))), ?_⟩
    have ec : cutV (iv ns) none (some 6) = iv (ns.take 6) := (cut_to (xs := iv ns) (k := 6)).trans List.map_take.symm
    refine ⟨_, rfl, _, rfl, a, iv ns, rfl, hs, fun p1 hp1 => ⟨sl1, fun p2 hp2 => ?_⟩⟩
    rw [ec] at hp2 ⊢
    have m1 : upd (upd H p1 (.lst (iv (ns.take 6)))) p2 (.lst [.int 0]) p1 = some (.lst (iv (ns.take 6))) := by
      rw [upd_ne (ne_of_none upd_same hp2)]; exact upd_same
    have tl : (ns.take 6).length ≤ 6 := List.length_take_le _ _
    refine ⟨p1, p2, _, _, rfl, rfl, m1, upd_same, by rw [iv_len]; exact Nat.le_of_lt (sl_line' (by simp; omega)), fun p3 hp3 => ⟨p3, rfl, ⟨_, SqL.of upd_same⟩, fun D hD => ?_⟩⟩
    generalize hH0 : upd (upd (upd H p1 (.lst (iv (ns.take 6)))) p2 (.lst [.int 0])) p3 (.lst (iv (ns.take 6) ++ [.int 0])) = H0 at hD ⊢
    have s3 : SqL K H0 p3 (iv (ns.take 6 ++ [0])) := by rw [← hH0, iv_snoc]; exact SqL.of upd_same
    clear hH0
    refine lc_list (K := K) (a := p3) (xs := iv (ns.take 6 ++ [0])) (fun i H1 => ∃ ds : List (Addr × Int × Bool), ds.length = i ∧ (∀ q ∈ ds, 0 ≤ q.2.1) ∧ Loc H0 H1 ((D, .lst (refs ds)) :: drawL ds))
      ⟨[], rfl, (fun _ z => nomatch z), (Loc.refl H0).alloc hD⟩ (fun i H1 _ h => by obtain ⟨_, _, _, l⟩ := h; exact l.same.seq s3) ?_ ?_
    · rintro i x H1 hx ⟨ds, dl, dn, l⟩
      obtain ⟨c, hc, rfl⟩ := iv_inv hx
      have hi : i < (ns.take 6 ++ [0]).length := (List.getElem?_eq_some_iff.mp hc).1
      rw [List.length_append, List.length_singleton] at hi
      refine ⟨rfl, _, rfl, c, rfl, fun p n b hp n0 => ⟨refs ds, (l.alloc hp).atIx (i := 1) rfl, sl_line' (by rw [refs_len]; omega), ds ++ [(p, n, b)], by simp; omega, ?_, ?_⟩⟩
      · intro q hq
        rcases List.mem_append.mp hq with hq | hq
        · exact dn q hq
        · cases List.mem_singleton.mp hq; exact n0
      · have l2 := (l.alloc (o := drawO n 0 b) hp).setIx (i := 1) (o' := .lst (refs ds ++ [.ref p])) rfl
        have e : drawL (ds ++ [(p, n, b)]) = drawL ds ++ [(p, drawO n 0 b)] := List.map_append ..
        rw [refs_snoc, e]
        exact l2.perm (M := ((D, .lst (refs ds ++ [.ref p])) :: drawL ds) ++ [(p, _)]) List.perm_append_comm
    · rintro H1 ⟨ds, dl, dn, l⟩
      have nd := l.nd
      have fst : (drawL ds).map Prod.fst = ds.map Prod.fst := by unfold drawL; rw [List.map_map]; rfl
      rw [List.map_cons, fst, List.nodup_cons] at nd
      obtain ⟨ndD, nd⟩ := nd
      have neD : ∀ q ∈ ds, D ≠ q.1 := fun q hq e => ndD (by rw [e]; exact List.mem_map.mpr ⟨q, hq, rfl⟩)
      have neI : ∀ (i j : Nat) (q r : Addr × Int × Bool), ds[i]? = some q → ds[j]? = some r → i ≠ j → r.1 ≠ q.1 := fun i j q r h1 h2 h3 e => by
        refine h3 (nd_ix nd (by rw [List.getElem?_map, h1]; rfl) (by rw [List.getElem?_map, h2, ← e]; rfl))
      have start : ∀ q ∈ ds, Draw H1 q.1 0 := fun q hq => ⟨q.2.1, 0, q.2.2, l.here (q.1, drawO q.2.1 0 q.2.2) (List.mem_cons_of_mem _ (List.mem_map.mpr ⟨q, hq, rfl⟩)), dn q hq, by omega, by omega⟩
      refine ⟨D, rfl, ⟨_, SqL.of l.at0⟩, for_list (K := K) (a := D) (xs := refs ds)
        (fun i σ H2 => ∃ y1 y2 y3 y4 : Option V, σ = [some (.ref a), y1, y2, y3, y4, none] ∧ H2 D = some (.lst (refs ds)) ∧ ∀ j q, i ≤ j → ds[j]? = some q → Draw H2 q.1 0) ?_ ?_ ?_ ?_⟩
      · exact ⟨none, none, none, none, rfl, l.at0, fun j q _ hq => start q (List.mem_of_getElem? hq)⟩
      · intro i σ H2 _ h
        obtain ⟨_, _, _, _, _, h, _⟩ := h
        exact SqL.of h
      · rintro i x σ H2 hx ⟨y1, y2, y3, y4, rfl, hD2, hdr⟩
        obtain ⟨⟨b, z⟩, hq, rfl⟩ := refs_inv hx
        refine ⟨_, rfl, by omega, by omega, for_range (lo := 0) (n := (3 : Int).toNat)
          (fun t σ H3 => ∃ y2 y3 y4 : Option V, σ = [some (.ref a), some (.ref b), y2, y3, y4, none] ∧ H3 D = some (.lst (refs ds)) ∧ Draw H3 b (128 * t) ∧ ∀ j q, i + 1 ≤ j → ds[j]? = some q → Draw H3 q.1 0) ?_ ?_ ?_⟩
        · exact ⟨_, _, _, rfl, hD2, hdr i _ (Nat.le_refl _) hq, fun j q hj h => hdr j q (by omega) h⟩
        · rintro t σ H3 ht ⟨y2, y3, y4, rfl, hD3, hb, hdr3⟩
          have ht3 : t < 3 := ht
          have fin : ∀ H5, SameX b H3 H5 → Draw H5 b (128 * t + 128) → H5 D = some (.lst (refs ds)) ∧ Draw H5 b (128 * (t + 1)) ∧ ∀ j q, i + 1 ≤ j → ds[j]? = some q → Draw H5 q.1 0 := fun H5 sx dr =>
            ⟨sx _ _ (neD _ (List.mem_of_getElem? hq)) hD3, by rwa [show 128 * (t + 1) = 128 * t + 128 from by omega], fun j q hj h => sx.draw (neI i j _ _ hq h (by omega)) (hdr3 j q hj h)⟩
          refine ⟨_, rfl, b, 128 * t, 16, 9, rfl, hb, by omega, by decide, by decide, by decide, fun H4 T s n web sx dr hT hp hv n1 n2 wl => ⟨T, _, rfl, hT, rfl, _, _, rfl, _, _, rfl, rfl, ?_⟩⟩
          refine ⟨_, rfl, _, rfl, _, rfl, _, rfl, b, s, _, web, rfl, dr, by omega, by omega, hp, fun H5 p log sx2 dr2 hp2 pm => ?_⟩
          refine ⟨n, s, p, web, log, rfl, n1, n2, hv, by omega, pm, hp.growX dr sx2, hp2, fun H6 sm => ⟨_, rfl, ?_⟩⟩
          obtain ⟨f1, f2, f3⟩ := fin H6 (SameX.trans (SameX.trans sx sx2) (Same.x sm)) (by
            obtain ⟨a1, a2, a3, a4, a5, a6, a7⟩ := Draw.grow sm dr2
            exact ⟨a1, a2, a3, a4, a5, a6, by omega⟩)
          exact iteFF rfl ⟨_, _, _, rfl, f1, f2, f3⟩
        · rintro σ H3 ⟨y2, y3, y4, rfl, hD3, hb, hdr3⟩
          exact ⟨_, _, _, _, rfl, hD3, hdr3⟩
      · rintro σ H2 ⟨y1, y2, y3, y4, rfl, hD2, hdr⟩
        clear hdr hD2 neI neD start fst
        refine ⟨sl2, fun t1 h1 => ⟨sl2, fun t2 h2 => ⟨sl2, fun t3 h3 => ⟨sl3, fun lg hlg => ?_⟩⟩⟩⟩
        have l1 := ((((Loc.refl H2).alloc (o := .tup [.int 2, .int 3]) h1).alloc (o := .tup [.int 1, .int 2]) h2).alloc (o := .tup [.int 3, .int 4]) h3).alloc (o := .lst [.ref t1, .ref t2, .ref t3]) hlg
        have hp1 : IsPairs K _ lg [(2, 3), (1, 2), (3, 4)] := ⟨[(t1, 2, 3), (t2, 1, 2), (t3, 3, 4)], rfl, SqL.of l1.at0, fun x hx => by
          simp only [List.mem_cons, List.not_mem_nil, or_false] at hx
          rcases hx with rfl | rfl | rfl
          · exact .inl (.inl (l1.atIx (i := 3) rfl))
          · exact .inl (.inl (l1.atIx (i := 2) rfl))
          · exact .inl (.inl (l1.atIx (i := 1) rfl))⟩
        refine ⟨4, lg, [(2, 3), (1, 2), (3, 4)], rfl, by decide, by decide, by decide, by unfold ValidL; decide, by decide, hp1, fun H3 p ts l3 e3 => ?_⟩
        have p3 : IsPairs K H3 p [(2, 3), (1, 3), (2, 4)] := ⟨ts, e3.trans (by decide), SqL.of l3.at0, fun x hx => .inl (.inl (l3.here (x.1, .tup [.int x.2.1, .int x.2.2]) (List.mem_cons_of_mem _ (List.mem_map.mpr ⟨x, hx, rfl⟩))))⟩
        refine ⟨sl2, fun t4 h4 => ⟨sl2, fun t5 h5 => ⟨sl2, fun t6 h6 => ⟨sl3, fun lh hlh => ?_⟩⟩⟩⟩
        have l4 := ((((Loc.refl H3).alloc (o := .tup [.int 2, .int 3]) h4).alloc (o := .tup [.int 1, .int 3]) h5).alloc (o := .tup [.int 2, .int 4]) h6).alloc (o := .lst [.ref t4, .ref t5, .ref t6]) hlh
        have p4 : IsPairs K _ lh [(2, 3), (1, 3), (2, 4)] := ⟨[(t4, 2, 3), (t5, 1, 3), (t6, 2, 4)], rfl, SqL.of l4.at0, fun x hx => by
          simp only [List.mem_cons, List.not_mem_nil, or_false] at hx
          rcases hx with rfl | rfl | rfl
          · exact .inl (.inl (l4.atIx (i := 3) rfl))
          · exact .inl (.inl (l4.atIx (i := 2) rfl))
          · exact .inl (.inl (l4.atIx (i := 1) rfl))⟩
        refine ⟨_, _, (p3.grow l4.same).dp, p4.dp, shaped_dP _, shaped_dP _, _, rfl, iteTT (by decide) ?_⟩
        refine ⟨by decide, fun e1 he1 => ?_⟩
        refine ⟨1, e1, [], rfl, by decide, by decide, by decide, (fun _ z => nomatch z), List.Pairwise.nil, .nil (SqL.of upd_same), fun H5 p5 ts5 l5 e5 => ⟨by decide, fun e6 he6 => ?_⟩⟩
        have hts5 : ts5 = [] := by
          cases ts5 with
          | nil => rfl
          | cons x r => cases e5
        subst hts5
        have l6 := l5.alloc (o := .lst []) he6
        refine ⟨dP [], dP [], IsPairs.dp (.nil (SqL.of (l6.atIx (i := 1) rfl))), IsPairs.dp (.nil (SqL.of upd_same)), shaped_dP _, shaped_dP _, ?_⟩
        have eb : PyData.eqv (dP []) (dP []) = true := by decide
        rw [eb]
        exact q _
end

theorem all_mk {l : PySem.W.OpenLaw} {w : World} {K : PySem.W.Frag} {h : Heap} {mg : Str → Option Value} {fa : Addr} (X : K.In h) (G : h.Ns mainGlobals mg) (hfa : mg "law" = some (.ref fa))
    {oc1 kV1 dc1 pm1 cd1 ct1 : Value} {od1 an1 : Option Addr} {sl1 : Array (Option Value)} {f1 : Addr}
    (a1 : PySem.W.nsIn K mainGlobals "is_whole" = some (some (.ref f1)))
    (l1 : K.lookup f1 = some ⟨oc1, od1, .func (PySem.W.fnOf "is_whole" "is_whole" (defArgs s_is_whole) (defBody s_is_whole) (defScope s_is_whole) .none kV1 dc1 pm1 an1 cd1 ct1), sl1⟩)
    (c1 : PySem.W.codeIn K cd1 "is_whole" = true) (k1 : PySem.W.keepIn K (.ref f1) = true)
    {oc2 kV2 dc2 pm2 cd2 ct2 : Value} {od2 an2 : Option Addr} {sl2 : Array (Option Value)} {f2 : Addr}
    (a2 : PySem.W.nsIn K mainGlobals "neighbours_of" = some (some (.ref f2)))
    (l2 : K.lookup f2 = some ⟨oc2, od2, .func (PySem.W.fnOf "neighbours_of" "neighbours_of" (defArgs s_neighbours_of) (defBody s_neighbours_of) (defScope s_neighbours_of) .none kV2 dc2 pm2 an2 cd2 ct2), sl2⟩)
    (c2 : PySem.W.codeIn K cd2 "neighbours_of" = true) (k2 : PySem.W.keepIn K (.ref f2) = true)
    {oc3 kV3 dc3 pm3 cd3 ct3 : Value} {od3 an3 : Option Addr} {sl3 : Array (Option Value)} {f3 : Addr}
    (a3 : PySem.W.nsIn K mainGlobals "ways_after" = some (some (.ref f3)))
    (l3 : K.lookup f3 = some ⟨oc3, od3, .func (PySem.W.fnOf "ways_after" "ways_after" (defArgs s_ways_after) (defBody s_ways_after) (defScope s_ways_after) .none kV3 dc3 pm3 an3 cd3 ct3), sl3⟩)
    (c3 : PySem.W.codeIn K cd3 "ways_after" = true) (k3 : PySem.W.keepIn K (.ref f3) = true)
    {oc4 kV4 dc4 pm4 cd4 ct4 : Value} {od4 an4 : Option Addr} {sl4 : Array (Option Value)} {f4 : Addr}
    (a4 : PySem.W.nsIn K mainGlobals "_law_draws" = some (some (.ref f4)))
    (l4 : K.lookup f4 = some ⟨oc4, od4, .func (PySem.W.fnOf "_law_draws" "_law_draws" (defArgs s__law_draws) (defBody s__law_draws) (defScope s__law_draws) .none kV4 dc4 pm4 an4 cd4 ct4), sl4⟩)
    (c4 : PySem.W.codeIn K cd4 "_law_draws" = true) (k4 : PySem.W.keepIn K (.ref f4) = true)
    {oc5 kV5 dc5 pm5 cd5 ct5 : Value} {od5 an5 : Option Addr} {sl5 : Array (Option Value)} {f5 : Addr}
    (a5 : PySem.W.nsIn K mainGlobals "_law_next" = some (some (.ref f5)))
    (l5 : K.lookup f5 = some ⟨oc5, od5, .func (PySem.W.fnOf "_law_next" "_law_next" (defArgs s__law_next) (defBody s__law_next) (defScope s__law_next) .none kV5 dc5 pm5 an5 cd5 ct5), sl5⟩)
    (c5 : PySem.W.codeIn K cd5 "_law_next" = true) (k5 : PySem.W.keepIn K (.ref f5) = true)
    {oc6 kV6 dc6 pm6 cd6 ct6 : Value} {od6 an6 : Option Addr} {sl6 : Array (Option Value)} {f6 : Addr}
    (a6 : PySem.W.nsIn K mainGlobals "_law_ends" = some (some (.ref f6)))
    (l6 : K.lookup f6 = some ⟨oc6, od6, .func (PySem.W.fnOf "_law_ends" "_law_ends" (defArgs s__law_ends) (defBody s__law_ends) (defScope s__law_ends) .none kV6 dc6 pm6 an6 cd6 ct6), sl6⟩)
    (c6 : PySem.W.codeIn K cd6 "_law_ends" = true) (k6 : PySem.W.keepIn K (.ref f6) = true)
    {oc7 kV7 dc7 pm7 cd7 ct7 : Value} {od7 an7 : Option Addr} {sl7 : Array (Option Value)} {f7 : Addr}
    (a7 : PySem.W.nsIn K mainGlobals "_law_met" = some (some (.ref f7)))
    (l7 : K.lookup f7 = some ⟨oc7, od7, .func (PySem.W.fnOf "_law_met" "_law_met" (defArgs s__law_met) (defBody s__law_met) (defScope s__law_met) .none kV7 dc7 pm7 an7 cd7 ct7), sl7⟩)
    (c7 : PySem.W.codeIn K cd7 "_law_met" = true) (k7 : PySem.W.keepIn K (.ref f7) = true)
    {oc8 kV8 dc8 pm8 cd8 ct8 : Value} {od8 an8 : Option Addr} {sl8 : Array (Option Value)} {f8 : Addr}
    (a8 : PySem.W.nsIn K mainGlobals "check_cells" = some (some (.ref f8)))
    (l8 : K.lookup f8 = some ⟨oc8, od8, .func (PySem.W.fnOf "check_cells" "check_cells" (defArgs s_check_cells) (defBody s_check_cells) (defScope s_check_cells) .none kV8 dc8 pm8 an8 cd8 ct8), sl8⟩)
    (c8 : PySem.W.codeIn K cd8 "check_cells" = true) (k8 : PySem.W.keepIn K (.ref f8) = true)
    {oc9 kV9 dc9 pm9 cd9 ct9 : Value} {od9 an9 : Option Addr} {sl9 : Array (Option Value)} {f9 : Addr}
    (a9 : PySem.W.nsIn K mainGlobals "is_exchange" = some (some (.ref f9)))
    (l9 : K.lookup f9 = some ⟨oc9, od9, .func (PySem.W.fnOf "is_exchange" "is_exchange" (defArgs s_is_exchange) (defBody s_is_exchange) (defScope s_is_exchange) .none kV9 dc9 pm9 an9 cd9 ct9), sl9⟩)
    (c9 : PySem.W.codeIn K cd9 "is_exchange" = true) (k9 : PySem.W.keepIn K (.ref f9) = true)
    {oc10 kV10 dc10 pm10 cd10 ct10 : Value} {od10 an10 : Option Addr} {sl10 : Array (Option Value)} {f10 : Addr}
    (a10 : PySem.W.nsIn K mainGlobals "pieces_of" = some (some (.ref f10)))
    (l10 : K.lookup f10 = some ⟨oc10, od10, .func (PySem.W.fnOf "pieces_of" "pieces_of" (defArgs s_pieces_of) (defBody s_pieces_of) (defScope s_pieces_of) .none kV10 dc10 pm10 an10 cd10 ct10), sl10⟩)
    (c10 : PySem.W.codeIn K cd10 "pieces_of" = true) (k10 : PySem.W.keepIn K (.ref f10) = true)
    {oc11 kV11 dc11 pm11 cd11 ct11 : Value} {od11 an11 : Option Addr} {sl11 : Array (Option Value)} {f11 : Addr}
    (a11 : PySem.W.nsIn K mainGlobals "ends_after" = some (some (.ref f11)))
    (l11 : K.lookup f11 = some ⟨oc11, od11, .func (PySem.W.fnOf "ends_after" "ends_after" (defArgs s_ends_after) (defBody s_ends_after) (defScope s_ends_after) .none kV11 dc11 pm11 an11 cd11 ct11), sl11⟩)
    (c11 : PySem.W.codeIn K cd11 "ends_after" = true) (k11 : PySem.W.keepIn K (.ref f11) = true)
    {oc12 kV12 dc12 pm12 cd12 ct12 : Value} {od12 an12 : Option Addr} {sl12 : Array (Option Value)} {f12 : Addr}
    (a12 : PySem.W.nsIn K mainGlobals "_law_web" = some (some (.ref f12)))
    (l12 : K.lookup f12 = some ⟨oc12, od12, .func (PySem.W.fnOf "_law_web" "_law_web" (defArgs s__law_web) (defBody s__law_web) (defScope s__law_web) .none kV12 dc12 pm12 an12 cd12 ct12), sl12⟩)
    (c12 : PySem.W.codeIn K cd12 "_law_web" = true) (k12 : PySem.W.keepIn K (.ref f12) = true)
    {oc13 kV13 dc13 pm13 cd13 ct13 : Value} {od13 an13 : Option Addr} {sl13 : Array (Option Value)} {f13 : Addr}
    (a13 : PySem.W.nsIn K mainGlobals "_law_log" = some (some (.ref f13)))
    (l13 : K.lookup f13 = some ⟨oc13, od13, .func (PySem.W.fnOf "_law_log" "_law_log" (defArgs s__law_log) (defBody s__law_log) (defScope s__law_log) .none kV13 dc13 pm13 an13 cd13 ct13), sl13⟩)
    (c13 : PySem.W.codeIn K cd13 "_law_log" = true) (k13 : PySem.W.keepIn K (.ref f13) = true)
    {oc14 kV14 dc14 pm14 cd14 ct14 : Value} {od14 an14 : Option Addr} {sl14 : Array (Option Value)} {f14 : Addr}
    (a14 : PySem.W.nsIn K mainGlobals "check_web" = some (some (.ref f14)))
    (l14 : K.lookup f14 = some ⟨oc14, od14, .func (PySem.W.fnOf "check_web" "check_web" (defArgs s_check_web) (defBody s_check_web) (defScope s_check_web) .none kV14 dc14 pm14 an14 cd14 ct14), sl14⟩)
    (c14 : PySem.W.codeIn K cd14 "check_web" = true) (k14 : PySem.W.keepIn K (.ref f14) = true)
    {oc15 kV15 dc15 pm15 cd15 ct15 : Value} {od15 an15 : Option Addr} {sl15 : Array (Option Value)} {f15 : Addr}
    (a15 : PySem.W.nsIn K mainGlobals "is_tree_web" = some (some (.ref f15)))
    (l15 : K.lookup f15 = some ⟨oc15, od15, .func (PySem.W.fnOf "is_tree_web" "is_tree_web" (defArgs s_is_tree_web) (defBody s_is_tree_web) (defScope s_is_tree_web) .none kV15 dc15 pm15 an15 cd15 ct15), sl15⟩)
    (c15 : PySem.W.codeIn K cd15 "is_tree_web" = true) (k15 : PySem.W.keepIn K (.ref f15) = true)
    {oc16 kV16 dc16 pm16 cd16 ct16 : Value} {od16 an16 : Option Addr} {sl16 : Array (Option Value)} {f16 : Addr}
    (a16 : PySem.W.nsIn K mainGlobals "check_log" = some (some (.ref f16)))
    (l16 : K.lookup f16 = some ⟨oc16, od16, .func (PySem.W.fnOf "check_log" "check_log" (defArgs s_check_log) (defBody s_check_log) (defScope s_check_log) .none kV16 dc16 pm16 an16 cd16 ct16), sl16⟩)
    (c16 : PySem.W.codeIn K cd16 "check_log" = true) (k16 : PySem.W.keepIn K (.ref f16) = true)
    {oc17 kV17 dc17 pm17 cd17 ct17 : Value} {od17 an17 : Option Addr} {sl17 : Array (Option Value)} {f17 : Addr}
    (a17 : PySem.W.nsIn K mainGlobals "is_tree" = some (some (.ref f17)))
    (l17 : K.lookup f17 = some ⟨oc17, od17, .func (PySem.W.fnOf "is_tree" "is_tree" (defArgs s_is_tree) (defBody s_is_tree) (defScope s_is_tree) .none kV17 dc17 pm17 an17 cd17 ct17), sl17⟩)
    (c17 : PySem.W.codeIn K cd17 "is_tree" = true) (k17 : PySem.W.keepIn K (.ref f17) = true)
    {oc18 kV18 dc18 pm18 cd18 ct18 : Value} {od18 an18 : Option Addr} {sl18 : Array (Option Value)} {f18 : Addr}
    (a18 : PySem.W.nsIn K mainGlobals "ends" = some (some (.ref f18)))
    (l18 : K.lookup f18 = some ⟨oc18, od18, .func (PySem.W.fnOf "ends" "ends" (defArgs s_ends) (defBody s_ends) (defScope s_ends) .none kV18 dc18 pm18 an18 cd18 ct18), sl18⟩)
    (c18 : PySem.W.codeIn K cd18 "ends" = true) (k18 : PySem.W.keepIn K (.ref f18) = true)
    {oc19 kV19 dc19 pm19 cd19 ct19 : Value} {od19 an19 : Option Addr} {sl19 : Array (Option Value)} {f19 : Addr}
    (a19 : PySem.W.nsIn K mainGlobals "ways" = some (some (.ref f19)))
    (l19 : K.lookup f19 = some ⟨oc19, od19, .func (PySem.W.fnOf "ways" "ways" (defArgs s_ways) (defBody s_ways) (defScope s_ways) .none kV19 dc19 pm19 an19 cd19 ct19), sl19⟩)
    (c19 : PySem.W.codeIn K cd19 "ways" = true) (k19 : PySem.W.keepIn K (.ref f19) = true)
    {oc20 kV20 dc20 pm20 cd20 ct20 : Value} {od20 an20 : Option Addr} {sl20 : Array (Option Value)} {f20 : Addr}
    (a20 : PySem.W.nsIn K mainGlobals "met" = some (some (.ref f20)))
    (l20 : K.lookup f20 = some ⟨oc20, od20, .func (PySem.W.fnOf "met" "met" (defArgs s_met) (defBody s_met) (defScope s_met) .none kV20 dc20 pm20 an20 cd20 ct20), sl20⟩)
    (c20 : PySem.W.codeIn K cd20 "met" = true) (k20 : PySem.W.keepIn K (.ref f20) = true)
    {oc21 kV21 dc21 pm21 cd21 ct21 : Value} {od21 an21 : Option Addr} {sl21 : Array (Option Value)} {f21 : Addr}
    (a21 : PySem.W.nsIn K mainGlobals "_law_right" = some (some (.ref f21)))
    (l21 : K.lookup f21 = some ⟨oc21, od21, .func (PySem.W.fnOf "_law_right" "_law_right" (defArgs s__law_right) (defBody s__law_right) (defScope s__law_right) .none kV21 dc21 pm21 an21 cd21 ct21), sl21⟩)
    (c21 : PySem.W.codeIn K cd21 "_law_right" = true) (k21 : PySem.W.keepIn K (.ref f21) = true)
    {oc22 kV22 dc22 pm22 cd22 ct22 : Value} {od22 an22 : Option Addr} {sl22 : Array (Option Value)} {f22 : Addr}
    (a22 : PySem.W.nsIn K mainGlobals "law" = some (some (.ref f22)))
    (l22 : K.lookup f22 = some ⟨oc22, od22, .func (PySem.W.fnOf "law" "law" (defArgs s_law) (defBody s_law) (defScope s_law) .none kV22 dc22 pm22 an22 cd22 ct22), sl22⟩)
    (c22 : PySem.W.codeIn K cd22 "law" = true) (k22 : PySem.W.keepIn K (.ref f22) = true)
    (z_bool : PySem.W.nsIn K mainGlobals "bool" = some none)
    (z_enumerate : PySem.W.nsIn K mainGlobals "enumerate" = some none)
    (z_int : PySem.W.nsIn K mainGlobals "int" = some none)
    (z_isinstance : PySem.W.nsIn K mainGlobals "isinstance" = some none)
    (z_len : PySem.W.nsIn K mainGlobals "len" = some none)
    (z_list : PySem.W.nsIn K mainGlobals "list" = some none)
    (z_max : PySem.W.nsIn K mainGlobals "max" = some none)
    (z_min : PySem.W.nsIn K mainGlobals "min" = some none)
    (z_range : PySem.W.nsIn K mainGlobals "range" = some none)
    (z_repr : PySem.W.nsIn K mainGlobals "repr" = some none)
    (z_set : PySem.W.nsIn K mainGlobals "set" = some none)
    (z_sorted : PySem.W.nsIn K mainGlobals "sorted" = some none)
    (z_tuple : PySem.W.nsIn K mainGlobals "tuple" = some none)
    {tg_MOST_CELLS : Nat} (g_MOST_CELLS : PySem.W.nsIn K mainGlobals "MOST_CELLS" = some (some (.int 16 tg_MOST_CELLS)))
    : ∃ fd : FuncData, (∀ (s : Shared) (u : Value), BindsTo s fd ⟨[u], []⟩ [("_law_script", u)]) ∧ ∀ base : Heap, K.In base → base.Ns mainGlobals mg → FG l.prog w K mg base CX0 6 fa fd ["_law_script"] (sp_law K) := by
  have e := hfa.symm.trans (PySem.W.mg_of X G a22)
  cases e
  have F1 := fun_mk (st := s_is_whole) l1 c1 k1
  have F2 := fun_mk (st := s_neighbours_of) l2 c2 k2
  have F3 := fun_mk (st := s_ways_after) l3 c3 k3
  have F4 := fun_mk (st := s__law_draws) l4 c4 k4
  have F5 := fun_mk (st := s__law_next) l5 c5 k5
  have F6 := fun_mk (st := s__law_ends) l6 c6 k6
  have F7 := fun_mk (st := s__law_met) l7 c7 k7
  have F8 := fun_mk (st := s_check_cells) l8 c8 k8
  have F9 := fun_mk (st := s_is_exchange) l9 c9 k9
  have F10 := fun_mk (st := s_pieces_of) l10 c10 k10
  have F11 := fun_mk (st := s_ends_after) l11 c11 k11
  have F12 := fun_mk (st := s__law_web) l12 c12 k12
  have F13 := fun_mk (st := s__law_log) l13 c13 k13
  have F14 := fun_mk (st := s_check_web) l14 c14 k14
  have F15 := fun_mk (st := s_is_tree_web) l15 c15 k15
  have F16 := fun_mk (st := s_check_log) l16 c16 k16
  have F17 := fun_mk (st := s_is_tree) l17 c17 k17
  have F18 := fun_mk (st := s_ends) l18 c18 k18
  have F19 := fun_mk (st := s_ways) l19 c19 k19
  have F20 := fun_mk (st := s_met) l20 c20 k20
  have F21 := fun_mk (st := s__law_right) l21 c21 k21
  have F22 := fun_mk (st := s_law) l22 c22 k22
  have z_bool' := PySem.W.mg_none_of X G z_bool
  have z_enumerate' := PySem.W.mg_none_of X G z_enumerate
  have z_int' := PySem.W.mg_none_of X G z_int
  have z_isinstance' := PySem.W.mg_none_of X G z_isinstance
  have z_len' := PySem.W.mg_none_of X G z_len
  have z_list' := PySem.W.mg_none_of X G z_list
  have z_max' := PySem.W.mg_none_of X G z_max
  have z_min' := PySem.W.mg_none_of X G z_min
  have z_range' := PySem.W.mg_none_of X G z_range
  have z_repr' := PySem.W.mg_none_of X G z_repr
  have z_set' := PySem.W.mg_none_of X G z_set
  have z_sorted' := PySem.W.mg_none_of X G z_sorted
  have z_tuple' := PySem.W.mg_none_of X G z_tuple
  have g_MOST_CELLS' := PySem.W.mg_of X G g_MOST_CELLS
  have k_met_log_cells : KwOk "met" s_met ["cells", "log"] ["log", "cells"] turn2 turn2 := ⟨fun _ _ _ _ _ _ ws hl => match ws, hl with | [_, _], _ => rfl, fun h => turn2_vals h⟩
  refine ⟨PySem.W.fnOf "law" "law" (defArgs s_law) (defBody s_law) (defScope s_law) .none kV22 dc22 pm22 an22 cd22 ct22, fun s v => .of_eq rfl, fun base _ _ => ?_⟩
  have C1 : CalG l.prog w K mg base 1 "is_whole" s_is_whole ["thing"] (sp_is_whole K) := ⟨⟨f1, _, ok_is_whole (P := l.prog) (w := w) (K := K) (mg := mg) (base := base) (k := 0) F1 z_int' z_isinstance' z_bool', PySem.W.mg_of X G a1, F1⟩, fun _ _ _ _ _ _ us hl => match us, hl with | [_], _ => rfl⟩
  have C2 : CalG l.prog w K mg base 1 "neighbours_of" s_neighbours_of ["cells", "web"] (sp_neighbours_of K) := ⟨⟨f2, _, ok_neighbours_of (P := l.prog) (w := w) (K := K) (mg := mg) (base := base) (k := 0) F2 z_range' z_sorted', PySem.W.mg_of X G a2, F2⟩, fun _ _ _ _ _ _ us hl => match us, hl with | [_, _], _ => rfl⟩
  have C3 : CalG l.prog w K mg base 1 "ways_after" s_ways_after ["cells", "log"] (sp_ways_after K) := ⟨⟨f3, _, ok_ways_after (P := l.prog) (w := w) (K := K) (mg := mg) (base := base) (k := 0) F3 z_range' z_list', PySem.W.mg_of X G a3, F3⟩, fun _ _ _ _ _ _ us hl => match us, hl with | [_, _], _ => rfl⟩
  have C4 : CalG l.prog w K mg base 1 "_law_draws" s__law_draws ["_law_cell"] sp__law_draws := ⟨⟨f4, _, ok__law_draws (P := l.prog) (w := w) (K := K) (mg := mg) (base := base) (k := 0) F4 z_int', PySem.W.mg_of X G a4, F4⟩, fun _ _ _ _ _ _ us hl => match us, hl with | [_], _ => rfl⟩
  have C5 : CalG l.prog w K mg base 1 "_law_next" s__law_next ["_law_draws_here"] sp__law_next := ⟨⟨f5, _, ok__law_next (P := l.prog) (w := w) (K := K) (mg := mg) (base := base) (k := 0) F5 z_int', PySem.W.mg_of X G a5, F5⟩, fun _ _ _ _ _ _ us hl => match us, hl with | [_], _ => rfl⟩
  have C6 : CalG l.prog w K mg base 1 "_law_ends" s__law_ends ["_law_size", "_law_made"] (sp__law_ends K) := ⟨⟨f6, _, ok__law_ends (P := l.prog) (w := w) (K := K) (mg := mg) (base := base) (k := 0) F6 z_list' z_range', PySem.W.mg_of X G a6, F6⟩, fun _ _ _ _ _ _ us hl => match us, hl with | [_, _], _ => rfl⟩
  have C7 : CalG l.prog w K mg base 1 "_law_met" s__law_met ["_law_size", "_law_made"] (sp__law_met K) := ⟨⟨f7, _, ok__law_met (P := l.prog) (w := w) (K := K) (mg := mg) (base := base) (k := 0) F7 z_list' z_range' z_min' z_max', PySem.W.mg_of X G a7, F7⟩, fun _ _ _ _ _ _ us hl => match us, hl with | [_, _], _ => rfl⟩
  have C8 : CalG l.prog w K mg base 2 "check_cells" s_check_cells ["cells"] sp_check_cells := ⟨⟨f8, _, ok_check_cells (P := l.prog) (w := w) (K := K) (mg := mg) (base := base) (k := 1) F8 (C1.mono (by decide)) ⟨_, g_MOST_CELLS'⟩, PySem.W.mg_of X G a8, F8⟩, fun _ _ _ _ _ _ us hl => match us, hl with | [_], _ => rfl⟩
  have C9 : CalG l.prog w K mg base 2 "is_exchange" s_is_exchange ["thing", "cells"] (sp_is_exchange K) := ⟨⟨f9, _, ok_is_exchange (P := l.prog) (w := w) (K := K) (mg := mg) (base := base) (k := 1) F9 z_tuple' z_isinstance' z_len' (C1.mono (by decide)), PySem.W.mg_of X G a9, F9⟩, fun _ _ _ _ _ _ us hl => match us, hl with | [_, _], _ => rfl⟩
  have C10 : CalG l.prog w K mg base 2 "pieces_of" s_pieces_of ["cells", "web"] (sp_pieces_of K) := ⟨⟨f10, _, ok_pieces_of (P := l.prog) (w := w) (K := K) (mg := mg) (base := base) (k := 1) F10 z_range' z_sorted' (C2.mono (by decide)), PySem.W.mg_of X G a10, F10⟩, fun _ _ _ _ _ _ us hl => match us, hl with | [_, _], _ => rfl⟩
  have C11 : CalG l.prog w K mg base 2 "ends_after" s_ends_after ["cells", "log"] (sp_ends_after K) := ⟨⟨f11, _, ok_ends_after (P := l.prog) (w := w) (K := K) (mg := mg) (base := base) (k := 1) F11 (C3.mono (by decide)), PySem.W.mg_of X G a11, F11⟩, fun _ _ _ _ _ _ us hl => match us, hl with | [_, _], _ => rfl⟩
  have C12 : CalG l.prog w K mg base 2 "_law_web" s__law_web ["_law_draws_here", "_law_most", "_law_many"] (sp__law_web K) := ⟨⟨f12, _, ok__law_web (P := l.prog) (w := w) (K := K) (mg := mg) (base := base) (k := 1) F12 z_int' z_range' z_min' z_max' z_set' z_sorted' (C5.mono (by decide)), PySem.W.mg_of X G a12, F12⟩, fun _ _ _ _ _ _ us hl => match us, hl with | [_, _, _], _ => rfl⟩
  have C13 : CalG l.prog w K mg base 2 "_law_log" s__law_log ["_law_draws_here", "_law_some"] (sp__law_log K) := ⟨⟨f13, _, ok__law_log (P := l.prog) (w := w) (K := K) (mg := mg) (base := base) (k := 1) F13 z_list' z_int' z_len' (C5.mono (by decide)), PySem.W.mg_of X G a13, F13⟩, fun _ _ _ _ _ _ us hl => match us, hl with | [_, _], _ => rfl⟩
  have C14 : CalG l.prog w K mg base 3 "check_web" s_check_web ["cells", "web"] (sp_check_web K) := ⟨⟨f14, _, ok_check_web (P := l.prog) (w := w) (K := K) (mg := mg) (base := base) (k := 2) F14 z_list' z_isinstance' z_enumerate' (C8.mono (by decide)) (C9.mono (by decide)), PySem.W.mg_of X G a14, F14⟩, fun _ _ _ _ _ _ us hl => match us, hl with | [_, _], _ => rfl⟩
  have C15 : CalG l.prog w K mg base 3 "is_tree_web" s_is_tree_web ["cells", "web"] (sp_is_tree_web K) := ⟨⟨f15, _, ok_is_tree_web (P := l.prog) (w := w) (K := K) (mg := mg) (base := base) (k := 2) F15 z_len' (C10.mono (by decide)), PySem.W.mg_of X G a15, F15⟩, fun _ _ _ _ _ _ us hl => match us, hl with | [_, _], _ => rfl⟩
  have C16 : CalG l.prog w K mg base 3 "check_log" s_check_log ["cells", "log"] (sp_check_log K) := ⟨⟨f16, _, ok_check_log (P := l.prog) (w := w) (K := K) (mg := mg) (base := base) (k := 2) F16 z_list' z_isinstance' z_enumerate' (C8.mono (by decide)) (C9.mono (by decide)), PySem.W.mg_of X G a16, F16⟩, fun _ _ _ _ _ _ us hl => match us, hl with | [_, _], _ => rfl⟩
  have C17 : CalG l.prog w K mg base 4 "is_tree" s_is_tree ["cells", "web"] (sp_is_tree K) := ⟨⟨f17, _, ok_is_tree (P := l.prog) (w := w) (K := K) (mg := mg) (base := base) (k := 3) F17 (C14.mono (by decide)) (C15.mono (by decide)), PySem.W.mg_of X G a17, F17⟩, fun _ _ _ _ _ _ us hl => match us, hl with | [_, _], _ => rfl⟩
  have C18 : CalG l.prog w K mg base 4 "ends" s_ends ["cells", "log"] (sp_ends K) := ⟨⟨f18, _, ok_ends (P := l.prog) (w := w) (K := K) (mg := mg) (base := base) (k := 3) F18 (C16.mono (by decide)) (C11.mono (by decide)), PySem.W.mg_of X G a18, F18⟩, fun _ _ _ _ _ _ us hl => match us, hl with | [_, _], _ => rfl⟩
  have C19 : CalG l.prog w K mg base 4 "ways" s_ways ["cells", "log"] (sp_ways K) := ⟨⟨f19, _, ok_ways (P := l.prog) (w := w) (K := K) (mg := mg) (base := base) (k := 3) F19 (C16.mono (by decide)) (C3.mono (by decide)), PySem.W.mg_of X G a19, F19⟩, fun _ _ _ _ _ _ us hl => match us, hl with | [_, _], _ => rfl⟩
  have C20 : CalG l.prog w K mg base 4 "met" s_met ["cells", "log"] (sp_met K) := ⟨⟨f20, _, ok_met (P := l.prog) (w := w) (K := K) (mg := mg) (base := base) (k := 3) F20 z_list' z_range' z_min' z_max' (C16.mono (by decide)), PySem.W.mg_of X G a20, F20⟩, fun _ _ _ _ _ _ us hl => match us, hl with | [_, _], _ => rfl⟩
  have C21 : CalG l.prog w K mg base 5 "_law_right" s__law_right ["_law_size", "_law_some", "_law_made"] (sp__law_right K) := ⟨⟨f21, _, ok__law_right (P := l.prog) (w := w) (K := K) (mg := mg) (base := base) (k := 4) F21 z_repr' z_len' z_range' z_sorted' (C7.mono (by decide)) (C20.mono (by decide)) (C6.mono (by decide)) (C18.mono (by decide)) (C19.mono (by decide)) (C17.mono (by decide)) k_met_log_cells, PySem.W.mg_of X G a21, F21⟩, fun _ _ _ _ _ _ us hl => match us, hl with | [_, _, _], _ => rfl⟩
  exact ok_law (P := l.prog) (w := w) (K := K) (mg := mg) (base := base) (k := 5) F22 z_range' (C4.mono (by decide)) (C12.mono (by decide)) (C13.mono (by decide)) (C21.mono (by decide)) (C20.mono (by decide))
end UN
open PySem PySem.W PyProof.Rows
set_option maxHeartbeats 0 in
theorem PySem.Challenge.cw_unnoted_k14_whole_meetings_backward_holds : PySem.Challenge.rw_unnoted_k14_whole_meetings_backward.Holds := by
  w_on; o_law; k_head; (case hw => w_witness2)
  k_fill
  refine UN.walk_G (l := PySem.Challenge.rw_unnoted_k14_whole_meetings_backward) (n := 63) (k := 6) (x := "_law_script") (sp := fun w => UN.sp_law _) rfl (by decide) rfl ⟨rfl, by decide, by decide⟩ (fun w h Y => PySem.W.kIn_of Y) ?F (fun _ _ a ns hl _ hS => ⟨a, ns, rfl, hl, hS, fun _ => rfl⟩)
  case F =>
    intro w mg fa h KX G hmg
    refine' UN.all_mk KX G hmg ?a1 ?l1 ?c1 ?k1 ?a2 ?l2 ?c2 ?k2 ?a3 ?l3 ?c3 ?k3 ?a4 ?l4 ?c4 ?k4 ?a5 ?l5 ?c5 ?k5 ?a6 ?l6 ?c6 ?k6 ?a7 ?l7 ?c7 ?k7 ?a8 ?l8 ?c8 ?k8 ?a9 ?l9 ?c9 ?k9 ?a10 ?l10 ?c10 ?k10 ?a11 ?l11 ?c11 ?k11 ?a12 ?l12 ?c12 ?k12 ?a13 ?l13 ?c13 ?k13 ?a14 ?l14 ?c14 ?k14 ?a15 ?l15 ?c15 ?k15 ?a16 ?l16 ?c16 ?k16 ?a17 ?l17 ?c17 ?k17 ?a18 ?l18 ?c18 ?k18 ?a19 ?l19 ?c19 ?k19 ?a20 ?l20 ?c20 ?k20 ?a21 ?l21 ?c21 ?k21 ?a22 ?l22 ?c22 ?k22 ?z_bool ?z_enumerate ?z_int ?z_isinstance ?z_len ?z_list ?z_max ?z_min ?z_range ?z_repr ?z_set ?z_sorted ?z_tuple ?g_MOST_CELLS
    (case a1 => k_is)
    (case l1 => k_is)
    (case c1 => k_is)
    (case k1 => k_is)
    (case a2 => k_is)
    (case l2 => k_is)
    (case c2 => k_is)
    (case k2 => k_is)
    (case a3 => k_is)
    (case l3 => k_is)
    (case c3 => k_is)
    (case k3 => k_is)
    (case a4 => k_is)
    (case l4 => k_is)
    (case c4 => k_is)
    (case k4 => k_is)
    (case a5 => k_is)
    (case l5 => k_is)
    (case c5 => k_is)
    (case k5 => k_is)
    (case a6 => k_is)
    (case l6 => k_is)
    (case c6 => k_is)
    (case k6 => k_is)
    (case a7 => k_is)
    (case l7 => k_is)
    (case c7 => k_is)
    (case k7 => k_is)
    (case a8 => k_is)
    (case l8 => k_is)
    (case c8 => k_is)
    (case k8 => k_is)
    (case a9 => k_is)
    (case l9 => k_is)
    (case c9 => k_is)
    (case k9 => k_is)
    (case a10 => k_is)
    (case l10 => k_is)
    (case c10 => k_is)
    (case k10 => k_is)
    (case a11 => k_is)
    (case l11 => k_is)
    (case c11 => k_is)
    (case k11 => k_is)
    (case a12 => k_is)
    (case l12 => k_is)
    (case c12 => k_is)
    (case k12 => k_is)
    (case a13 => k_is)
    (case l13 => k_is)
    (case c13 => k_is)
    (case k13 => k_is)
    (case a14 => k_is)
    (case l14 => k_is)
    (case c14 => k_is)
    (case k14 => k_is)
    (case a15 => k_is)
    (case l15 => k_is)
    (case c15 => k_is)
    (case k15 => k_is)
    (case a16 => k_is)
    (case l16 => k_is)
    (case c16 => k_is)
    (case k16 => k_is)
    (case a17 => k_is)
    (case l17 => k_is)
    (case c17 => k_is)
    (case k17 => k_is)
    (case a18 => k_is)
    (case l18 => k_is)
    (case c18 => k_is)
    (case k18 => k_is)
    (case a19 => k_is)
    (case l19 => k_is)
    (case c19 => k_is)
    (case k19 => k_is)
    (case a20 => k_is)
    (case l20 => k_is)
    (case c20 => k_is)
    (case k20 => k_is)
    (case a21 => k_is)
    (case l21 => k_is)
    (case c21 => k_is)
    (case k21 => k_is)
    (case a22 => k_is)
    (case l22 => k_is)
    (case c22 => k_is)
    (case k22 => k_is)
    (case z_bool => k_is)
    (case z_enumerate => k_is)
    (case z_int => k_is)
    (case z_isinstance => k_is)
    (case z_len => k_is)
    (case z_list => k_is)
    (case z_max => k_is)
    (case z_min => k_is)
    (case z_range => k_is)
    (case z_repr => k_is)
    (case z_set => k_is)
    (case z_sorted => k_is)
    (case z_tuple => k_is)
    (case g_MOST_CELLS => k_is)
