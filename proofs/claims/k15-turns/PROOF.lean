import PyProof.Rows.All
import Wide.All
import OpenK.AllK
import Wide.FinOn
import HandS.ForMost
import HandS.Style
import HandS.Deep
import HandS.IsInst
import HandS.SortInts
import HandS.SortRule
import HandS.TupSets
import HandS.Wide
import HandS.Conv
import HandS.TupLe
import HandS.RaiseMore
import HandS.Flow
import HandS.ExcValue
import PySem.Challenge.RW_unnoted_k15_whole_turns
set_option Elab.async false
set_option autoImplicit false
set_option linter.all false
set_option maxRecDepth 100000
set_option maxHeartbeats 4000000
/-! Own prelude, part 0: promises of defs where no repr is under way (G), calls by them, the law's end by them -/
namespace UN
open PySem PySem.Spec PyProof.Rows L2

/-- a def's promise; asked only where the guards are known to be none (repr, str of data) -/
structure FG (P : Program) (w : World) (K : PySem.W.Frag) (mg : Str → Option Value) (base : Heap) (C : CXT) (k : Nat) (f : Addr) (fd : FuncData) (ps : List Str) (sp : Sp) : Prop where
  many : ∀ xs H Q E, sp xs H Q E → xs.length = ps.length
  go : ∀ (A : Around) (out : List Env) (s : Shared) (H : Hp) (args : Args) (us : List Value) (xs : List V) (Q : VK) (E : XK),
    Room k A → A.guards = some [] → Env0 P w K mg base A out s H → BindsTo s fd args (ps.zip us) → Vals xs us → sp xs H Q E →
    codeAny (model P w) A (.call (.ref f) args) (CR C out P w H s Q E) s

section
variable {P : Program} {w : World} {K : PySem.W.Frag} {mg : Str → Option Value} {base : Heap} {C : CXT} {k : Nat} {f : Addr} {fd : FuncData} {ps : List Str} {sp : Sp}
theorem FG.of (F : FnOk P w K mg base C k f fd ps sp) : FG P w K mg base C k f fd ps sp :=
  ⟨F.len, fun A out s H args us xs Q E hr _ e0 hb hv hs => F.run A out s H args us xs Q E hr e0 hb hv hs⟩
theorem FG.mono {j : Nat} (F : FG P w K mg base C j f fd ps sp) (h : j ≤ k) : FG P w K mg base C k f fd ps sp :=
  ⟨F.many, fun A out s H args us xs Q E hr => F.go A out s H args us xs Q E (hr.mono h)⟩

/-- by the def's body -/
theorem fg_body {name qual : Str} {params : Arguments} {body : List Stmt} {scope : Scope} {dV kV doc pm cdv ct oc : Value} {an od : Option Addr} {osl : Array (Option Value)} {N : List Str}
    (at_f : K.lookup f = some ⟨oc, od, .func (PySem.W.fnOf name qual params body scope dV kV doc pm an cdv ct), osl⟩) (code : PySem.W.codeIn K cdv qual = true) (S : FnScope N ps scope)
    (many : ∀ xs H Q E, sp xs H Q E → xs.length = ps.length)
    (bd : ∀ (A : Around) (out : List Env) (s : Shared) (H : Hp) (xs : List V) (Q : VK) (E : XK), Room k (A.deeper (envOfC qual scope s.heap.objs.size f cdv)) → A.guards = some [] → sp xs H Q E →
      ∃ t, PSs (cxOf C P w K mg base N qual scope f cdv A out s H E) body t ∧ t { nx := fun _ H' => Q .non H', rt := Q } (start N xs) H) :
    FG P w K mg base C (k + 1) f (PySem.W.fnOf name qual params body scope dV kV doc pm an cdv ct) ps sp := by
  constructor
  · exact many
  intro A out s H args us xs Q E room hg e0 hb rel hs
  have nl := many _ _ _ _ hs
  have kin : K.In s.heap := e0.mod.kin.keeps (fun b o q => (e0.bs b o q).1)
  have nolim : s.heap.NoLimit := e0.mod.nolimit.keeps (fun b o q => (e0.bs b o q).1)
  have kinds : ∀ y ∈ ps.zip us, scope.names.lookup y.1 = some .local ∨ (scope.names.lookup y.1 = some .cell ∧ ((cellsFrom (s.heap.objs.size + 1) scope.names []).lookup y.1).isSome = true) := by
    rintro ⟨n, v⟩ hy
    cases S.par n (List.of_mem_zip hy).1 with
    | inl q => exact Or.inl q
    | inr q => exact Or.inr ⟨q, PySem.W.cellsFrom_some _ _ _ (Or.inl q)⟩
  apply codeAny_call_function room.depth (kin _ _ at_f) rfl S.co S.gen rfl (PySem.W.codeRec_of kin code)
  apply hb
  apply wpAny_newFunctionEnv_cells S.kind kinds
  intro env he s1 x
  cases he
  refine And.intro (nolim.keeps x.toInCall.keep) (codeAny_func ?_)
  obtain ⟨t, pt, ht⟩ := bd A out s H xs Q E (room.deeper _) hg hs
  have J := inv_start (CX := C) (P := P) (w := w) (K := K) (mg := mg) (base := base) (f := f) (cd := cdv) (E := E) S room.hd e0 nl rel x
  apply wpAny_mono (pt.run [] s1 (start N xs) H _ J ht) ?_ (fun _ _ q => q)
  intro fl s' q
  cases fl with
  | next => obtain ⟨_, _, J', q'⟩ := q; exact ⟨V.non, _, J'.os, J'.bare, J'.base, J'.hok, rfl, q'⟩
  | ret u => obtain ⟨_, _, _, J', r', q'⟩ := q; exact ⟨_, _, J'.os, J'.bare, J'.base, J'.hok, r', q'⟩
  | brk => obtain ⟨_, _, _, z⟩ := q; exact z.elim
  | cont => obtain ⟨_, _, _, z⟩ := q; exact z.elim

/-- the same of a def of the text, nothing raised -/
theorem fg_fun {x qual : Str} {st : Stmt} {N : List Str} (F : Fun K x qual st f fd) (S : FnScope N ps (defScope st))
    (many : ∀ xs H Q E, sp xs H Q E → xs.length = ps.length)
    (bd : ∀ (cdv : Value) (A : Around) (out : List Env) (s : Shared) (H : Hp) (xs : List V) (Q : VK) (E : XK),
      Room k (A.deeper (envOfC qual (defScope st) s.heap.objs.size f cdv)) → A.guards = some [] → sp xs H Q E →
      ∃ t, PSs (cxOf CX0 P w K mg base N qual (defScope st) f cdv A out s H E).nox (defBody st) t ∧ t { nx := fun _ H' => Q .non H', rt := Q } (start N xs) H) :
    FG P w K mg base CX0 (k + 1) f fd ps sp := by
  obtain ⟨oc, od, kV, doc, pm, an, cdv, ct, osl, e, lk, hc⟩ := F.ex
  cases e
  refine fg_body lk hc S many ?_
  intro A out s H xs Q E hr hg hs
  obtain ⟨t, h, q⟩ := bd cdv A out s H xs Q E hr hg hs
  exact ⟨t, h.nox, q⟩
end

/-- a def that may be called by its name -/
structure CalG (P : Program) (w : World) (K : PySem.W.Frag) (mg : Str → Option Value) (base : Heap) (k : Nat) (x : Str) (st : Stmt) (ps : List Str) (sp : Sp) : Prop where
  ex : ∃ f fd, FG P w K mg base CX0 k f fd ps sp ∧ mg x = some (.ref f) ∧ Fun K x x st f fd
  bd : ∀ (kV doc pm : Value) (an : Option Addr) (cdv ct : Value) (us : List Value), us.length = ps.length →
    bindArgs (PySem.W.fnOf x x (defArgs st) (defBody st) (defScope st) .none kV doc pm an cdv ct) ⟨us, []⟩ = pure (ps.zip us)
/-- a call by keywords alone: g puts the keywords' values into the parameters' order -/
def KwOk (x : Str) (st : Stmt) (ps ks : List Str) (g : List Value → List Value) (gV : List V → List V) : Prop :=
  (∀ (kV doc pm : Value) (an : Option Addr) (cdv ct : Value) (ws : List Value), ws.length = ks.length →
    bindArgs (PySem.W.fnOf x x (defArgs st) (defBody st) (defScope st) .none kV doc pm an cdv ct) ⟨[], ks.zip ws⟩ = pure (ps.zip (g ws))) ∧
  ∀ {zs : List V} {ws : List Value}, Vals zs ws → Vals (gV zs) (g ws)

def tG (sp : Sp) (t : TA) : TE := fun σ H Q => t σ H fun vs H1 => sp vs H1 Q E0
def tGK (sp : Sp) (n : Nat) (gV : List V → List V) (t : TA) : TE := fun σ H Q => t σ H fun vs H1 => vs.length = n ∧ sp (gV vs) H1 Q E0

section
variable {X : Cx} {k j : Nat} {x : Str} {st : Stmt} {ps ks : List Str} {sp : Sp} {p pos : Pos} {e : Expr} {es : List Expr} {t : TA}
theorem fg_end {pins : List (Addr × Obj)} {σ : L2.St} {H : Hp} {s : Shared} {Q : VK} (J : Inv X pins σ H s) (r : Result) (s' : Shared) : CR CX0 X.stack X.prog X.w H s Q E0 r s' →
    (match r with | .ok (.ret u) => EP X pins σ Q u s' | .ok _ => False | .error e => X.xe e s') := by
  intro h
  cases r with
  | error _ => exact False.elim h
  | ok fl =>
    cases fl with
    | ret _ => exact J.after h
    | next => exact h
    | brk => exact h
    | cont => exact h
theorem pe_cG (c : CalG X.prog X.w X.K X.mg X.base k x st ps sp) (hr : Room j X.A) (hk : k ≤ j) (hg : X.A.guards = some []) (gl : Gl X x) (ha : PA X (e :: es) t)
    (hdb : (x == ("__debug__" : Str)) = false := by decide) (he : starEach (e :: es) X.env = (false, eval e X.env) :: starEach es X.env := by rfl) (hpl : (backTo pos (starEach es X.env)).any (·.1) = false := by rfl) :
    PE X (.Call (.Name x p) (e :: es) [] pos) (tG sp t) := by
  constructor
  intro pins s σ H Q J h
  obtain ⟨f, fd, F, hm, fn⟩ := c.ex
  apply wpAny_Call_Name_kw
  apply ld_glob J gl hm _ hdb
  refine PySem.W.callWith_K (h₀ := X.base) J.ok.mod.kin fn.kp (thn (ha.run pos pins s σ H _ J h) ?_) he hpl
  rintro us s1 ⟨vs, H1, J1, r1, q1⟩
  refine And.intro J1.kIn ?_
  have nl : us.length = ps.length := by rw [← r1.length]; exact F.many _ _ _ _ q1
  have hb : BindsTo s1 fd ⟨us, []⟩ (ps.zip us) := by
    obtain ⟨_, _, kV, doc, pm, an, cdv, ct, _, e, _, _⟩ := fn.ex
    cases e
    exact .of_eq (c.bd kV doc pm an cdv ct us nl)
  apply wpAny_call
  refine codeAny_mono (F.go X.A X.stack s1 H1 ⟨us, []⟩ us vs Q E0 (hr.mono hk) hg J1.env0 hb r1 q1) ?_
  exact fg_end J1
theorem pe_cG0 (c : CalG X.prog X.w X.K X.mg X.base k x st [] sp) (hr : Room j X.A) (hk : k ≤ j) (hg : X.A.guards = some []) (gl : Gl X x)
    (hdb : (x == ("__debug__" : Str)) = false := by decide) : PE X (.Call (.Name x p) [] [] pos) (tG sp tNil) := by
  constructor
  intro pins s σ H Q J h
  obtain ⟨f, fd, F, hm, fn⟩ := c.ex
  apply wpAny_Call_Name_kw
  apply ld_glob J gl hm _ hdb
  refine PySem.W.callWith_K0 J.kIn fn.kp ?_
  have hb : BindsTo s fd ⟨[], []⟩ (([] : List Str).zip []) := by
    obtain ⟨_, _, kV, doc, pm, an, cdv, ct, _, e, _, _⟩ := fn.ex
    cases e
    exact .of_eq (c.bd kV doc pm an cdv ct [] rfl)
  apply wpAny_call
  refine codeAny_mono (F.go X.A X.stack s H ⟨[], []⟩ [] [] Q E0 (hr.mono hk) hg J.env0 hb .nil h) ?_
  exact fg_end J
theorem pe_ckG {kws : List Keyword} {g : List Value → List Value} {gV : List V → List V} (c : CalG X.prog X.w X.K X.mg X.base k x st ps sp) (kb : KwOk x st ps ks g gV) (hr : Room j X.A) (hk : k ≤ j) (hg : X.A.guards = some []) (gl : Gl X x)
    (hkw : PK X kws t) (hall : (backToKw pos (keywordEach kws X.env)).all (·.1.isSome) = true := by rfl) (hks : (backToKw pos (keywordEach kws X.env)).filterMap (·.1) = ks := by rfl)
    (hdb : (x == ("__debug__" : Str)) = false := by decide) (hpl : ((backTo pos (starEach [] X.env)).any (·.1) || (backToKw pos (keywordEach kws X.env)).any (·.1.isNone)) = false := by rfl) :
    PE X (.Call (.Name x p) [] kws pos) (tGK sp ks.length gV t) := by
  constructor
  intro pins s σ H Q J h
  obtain ⟨f, fd, F, hm, fn⟩ := c.ex
  apply wpAny_Call_Name_kw
  apply ld_glob J gl hm _ hdb
  refine PySem.W.callWith_KW0 (h₀ := X.base) J.ok.mod.kin fn.kp hall (thn (hkw.run pos pins s σ H _ J h) ?_) hpl
  rintro ws s1 ⟨zs, H1, J1, r1, ln, q1⟩
  refine And.intro J1.kIn ?_
  rw [hks]
  have r2 := kb.2 r1
  have hb : BindsTo s1 fd ⟨[], ks.zip ws⟩ (ps.zip (g ws)) := by
    obtain ⟨_, _, kV, doc, pm, an, cdv, ct, _, e, _, _⟩ := fn.ex
    cases e
    exact .of_eq (kb.1 kV doc pm an cdv ct ws (by rw [← r1.length]; exact ln))
  apply wpAny_call
  refine codeAny_mono (F.go X.A X.stack s1 H1 ⟨[], ks.zip ws⟩ (g ws) (gV zs) Q E0 (hr.mono hk) hg J1.env0 hb r2 q1) ?_
  exact fg_end J1
end
end UN

namespace UN
open PySem PySem.Spec PyProof.Rows L2

/-! the law's end, by a promise that asks no guards -/
section
variable {P : Program} {w : World} {K : PySem.W.Frag} {mg mb : Str → Option Value} {C : CXT} {k : Nat} {fa a : Addr} {fd : FuncData} {x : Str} {sp : Sp} {s1 : Shared} {vs : List Value} {ns : List Int}
/-- from one abstract heap that holds nothing but (perhaps) the script -/
theorem end_core (kin : K.In s1.heap) (gl : s1.heap.Ns mainGlobals mg) (bl : s1.heap.Ns builtinsNs mb) (bb : ∀ y : Str, y ≠ "__name__" → mb y = bootBuiltins y) (nl : s1.heap.NoLimit) (ng : s1.gens = #[])
    (obj : s1.heap.get? a = some { cls := .type "list", data := .seq vs.toArray }) (room : Room k callerA)
    (F : ∀ base : Heap, K.In base → base.Ns mainGlobals mg → FG P w K mg base C k fa fd [x] sp) (bnd : ∀ (s : Shared) (u : Value), BindsTo s fd ⟨[u], []⟩ [(x, u)])
    (H : Hp) (only : Only H) (hok : HOk P w H s1.heap) (alone : ∀ b u, H b = some u → b = a ∧ K.lookup a = none)
    (ask : sp [.ref a] H (fun v _ => v = .bl true) fun _ _ _ => False) (noX : ∀ G e s', C [] G s1 (fun _ _ _ => False) e s' → False) :
    codeAny (model P w) callerA (.call (.ref fa) ⟨[.ref a], []⟩) (fun r s' => r = .ok (.ret (.bool true)) ∧ PySem.OldK s1.heap s'.heap ∧ s'.os = s1.os ∧ AllBare s'.gens) s1 := by
  have free : ∀ b, b ≠ a → H b = none := by
    intro b hb
    cases q : H b with
    | none => rfl
    | some u => exact absurd (alone b u q).1 hb
  have dict_ne : ∀ {b : Addr} {m : Str → Option Value}, s1.heap.Ns b m → b ≠ a := by
    rintro b m ⟨o, es, ep, e, d, _⟩ z
    rw [z, obj] at e
    cases e
    have d2 : Data.seq vs.toArray _ = Data.dict es ep := d
    cases d2
  have hide : ∀ {b : Addr} {m : Str → Option Value}, s1.heap.Ns b m → (hidT s1.heap H).Ns b m := by
    intro b m n
    have nb := free b (dict_ne n)
    obtain ⟨o, es, ep, e, r⟩ := n
    exact ⟨o, es, ep, hidT_get e nb, r⟩
  have kinH : K.In (hidT s1.heap H) := by
    intro b o e
    apply hidT_get (kin b o e)
    cases q : H b with
    | none => rfl
    | some u =>
      obtain ⟨z, z2⟩ := alone b u q
      rw [z, z2] at e
      cases e
  obtain ⟨ml, l1, l2⟩ := nl
  have M : Mod K mg (hidT s1.heap H) := { kin := kinH, glob := hide gl, blt := ⟨mb, hide bl, bb⟩, nolimit := ⟨ml, hide l1, l2⟩ }
  have E0' : Env0 P w K mg (hidT s1.heap H) callerA [] s1 H :=
    { frames := rfl, mod := M, bs := fun b o e => of_hidT e, bsz := Nat.le_of_eq (hidT_size _ _), funs := trivial, frf := fun b hb => absurd (show b ∈ ([] : List Addr) from hb) (by simp), hok := hok, bare := .of_eq ng }
  have run := (F _ kinH (hide gl)).go callerA [] s1 H ⟨[.ref a], []⟩ [.ref a] [.ref a] _ _ room rfl E0' (bnd s1 (.ref a)) (.cons rfl .nil) ask
  refine codeAny_mono run ?_
  intro r s' q
  cases r with
  | error e => exact (noX H e s' q).elim
  | ok fl =>
    cases fl with
    | next => exact False.elim q
    | brk => exact False.elim q
    | cont => exact False.elim q
    | ret u =>
      obtain ⟨v, G, os, bare, un, okG, rel, tr⟩ := q
      cases (show v = .bl true from tr)
      cases (show u = Value.bool true from rel)
      refine ⟨rfl, PySem.OldK.of_keep ?_, os, bare⟩
      intro b o e
      cases q : H b with
      | none => exact un.keep b o e q (fun z => absurd (show b ∈ ([] : List Addr) from z) (by simp)) (by simp)
      | some u =>
        cases only b with
        | inl z => rw [q] at z; cases z
        | inr z =>
          obtain ⟨ob, xs, z⟩ := z
          have e1 := (hok b _ z).1
          rw [e] at e1
          cases e1
          exact (okG b _ (un.frzs b _ _ z)).1
/-- the script alone -/
def scriptH (a : Addr) (vs : List Value) (ns : List Int) : Hp := fun b => if b = a then some (.frz { cls := .type "list", data := .seq vs.toArray } (.lst (ns.map V.int))) else none
theorem end_call (kin : K.In s1.heap) (gl : s1.heap.Ns mainGlobals mg) (bl : s1.heap.Ns builtinsNs mb) (bb : ∀ y : Str, y ≠ "__name__" → mb y = bootBuiltins y) (nl : s1.heap.NoLimit) (ng : s1.gens = #[])
    (obj : s1.heap.get? a = some { cls := .type "list", data := .seq vs.toArray }) (inx : IntsAre vs ns) (few : ns.length ≤ sizeLine) (room : Room k callerA)
    (F : ∀ base : Heap, K.In base → base.Ns mainGlobals mg → FG P w K mg base C k fa fd [x] sp) (bnd : ∀ (s : Shared) (u : Value), BindsTo s fd ⟨[u], []⟩ [(x, u)])
    (ask : ∀ H : Hp, Only H → SqL K H a (ns.map V.int) → sp [.ref a] H (fun v _ => v = .bl true) fun _ _ _ => False) (noX : ∀ G e s', C [] G s1 (fun _ _ _ => False) e s' → False) :
    codeAny (model P w) callerA (.call (.ref fa) ⟨[.ref a], []⟩) (fun r s' => r = .ok (.ret (.bool true)) ∧ PySem.OldK s1.heap s'.heap ∧ s'.os = s1.os ∧ AllBare s'.gens) s1 := by
  have rv := vals_ints inx
  have ln := inx.length
  cases q : K.lookup a with
  | some o =>
    have e := kin a o q
    rw [obj] at e
    cases e
    have on : Only (fun _ => none) := fun _ => .inl rfl
    refine end_core kin gl bl bb nl ng obj room F bnd (fun _ => none) on (fun b u z => nomatch z) (fun b u z => nomatch z) (ask _ on ?_) noX
    exact .inr ⟨_, vs.toArray, _, q, rfl, rfl, rfl, by rw [List.size_toArray, ln]; exact few, by simpa using rv⟩
  | none =>
    have at_a : scriptH a vs ns a = some (.frz { cls := .type "list", data := .seq vs.toArray } (.lst (ns.map V.int))) := if_pos rfl
    have other : ∀ b, b ≠ a → scriptH a vs ns b = none := fun b hb => if_neg hb
    have on : Only (scriptH a vs ns) := by
      intro b
      by_cases hb : b = a
      · rw [hb]; exact .inr ⟨_, _, at_a⟩
      · exact .inl (other b hb)
    refine end_core kin gl bl bb nl ng obj room F bnd (scriptH a vs ns) on ?_ ?_ (ask _ on (.inl (.inr ⟨_, at_a⟩))) noX
    · intro b u z
      by_cases hb : b = a
      · subst hb
        rw [at_a] at z
        cases z
        exact ⟨obj, by rw [List.length_map]; exact few, vs, _, rv, obj⟩
      · rw [other b hb] at z
        cases z
    · intro b u z
      by_cases hb : b = a
      · exact ⟨hb, q⟩
      · rw [other b hb] at z
        cases z
end

theorem walk_G {l : PySem.W.OpenLaw} {n k : Nat} {q : Program} {loose : List Str} {XP : (Str → Option Value) → Heap → Prop} {YP : World → Heap → Prop} {d : DefRec} {K : Params → PySem.W.Frag} {sp : World → Sp} {x : Str}
    (hn : l.most = some n) (hn2 : n ≤ sizeLine) (hdf : d.params.defaults = []) (hr : Room k callerA)
    (hY : ∀ (w : World) (h : Heap), YP w h → (K w.params).In h)
    (F : ∀ (w : World) (mg : Str → Option Value) (fa : Addr) (h : Heap), (K w.params).In h → h.Ns mainGlobals mg → mg d.name = some (.ref fa) →
      ∃ fd : FuncData, (∀ (s : Shared) (u : Value), BindsTo s fd ⟨[u], []⟩ [(x, u)]) ∧
        ∀ base : Heap, (K w.params).In base → base.Ns mainGlobals mg → FG l.prog w (K w.params) mg base CX0 k fa fd [x] (sp w))
    (hsp : ∀ (w : World) (H : Hp) (a : Addr) (ns : List Int), ns.length ≤ n → Only H → SqL (K w.params) H a (ns.map V.int) → sp w [.ref a] H (fun v _ => v = .bl true) fun _ _ _ => False) :
    PySem.W.WalkO q loose XP YP l.row.toRowW d [] (fun f vs => PySem.call f vs) := by
  apply Att.attach_call hn hdf
  intro w s0 s1 mg mb fa o pm cd doc a vs ns G Y ho hd hcd hmg hobj hints hlen hg
  have kin := hY w _ Y
  obtain ⟨fd, hb, hF⟩ := F w mg fa _ kin G.T.g hmg
  exact end_call kin G.T.g G.T.b G.T.builtins G.T.nolimit hg hobj hints (Nat.le_trans hlen hn2) hr hF hb (fun H hO hS => hsp w H a ns hlen hO hS) (fun _ _ _ z => z)
end UN

namespace UN
open PySem PySem.Spec PyProof.Rows L2

/-! rules that the layer lacks -/
section
variable {X : Cx}
/-- repr of data -/
def rRepr (K : PySem.W.Frag) : List V → Hp → VK → Prop := fun vs H Q => ∃ x d, vs = [x] ∧ Dp K H x d ∧ d.showable = true ∧ d.hasDict = false ∧ d.depth ≤ 60 ∧ d.shown.length ≤ sizeLine ∧ Q (.str d.shown) H
theorem call_reprD (hu : X.A.units + 64 < cLine) (hg : X.A.guards = some []) : CallR X (.builtin "repr") (rRepr X.K) := by
  intro pins s σ H vs us Q J r h
  obtain ⟨x, d, e, dp, sh, nd, dep, sz, q⟩ := h
  subst e
  obtain ⟨u, e, ru⟩ := vals1 r
  subst e
  obtain ⟨as, rd⟩ := Dp.reads J d x u dp ru
  cases dp with
  | non => cases ru; exact PySem.P.repr_of_none ⟨.str _, H, J.tok _, ⟨_, rfl⟩, q⟩
  | bl b => cases ru; cases b <;> exact PySem.P.repr_of_bool ⟨.str _, H, J.tok _, ⟨_, rfl⟩, q⟩
  | int i =>
    obtain ⟨t, rfl⟩ := ru
    exact PySem.P.repr_of_int (of_decide_eq_true sh) ⟨.str _, H, J.tok _, ⟨_, rfl⟩, q⟩
  | str z =>
    obtain ⟨t, rfl⟩ := ru
    exact PySem.P.repr_of_str ⟨.str _, H, J.tok _, ⟨_, rfl⟩, q⟩ sz
  | lst _ _ => cases ru; exact repr_of_reads' rd sh (PyData.noDict_hsm nd) hg (by omega) (fun _ _ z => z) (fun h2 u tk k => ⟨.str _, H, J.kept (t' := tk) k, ⟨_, rfl⟩, q⟩) sz
  | tup _ _ => cases ru; exact repr_of_reads' rd sh (PyData.noDict_hsm nd) hg (by omega) (fun _ _ z => z) (fun h2 u tk k => ⟨.str _, H, J.kept (t' := tk) k, ⟨_, rfl⟩, q⟩) sz

/-- powers of greater numbers -/
def CPowW (i j : Int) : Prop := 0 < j ∧ j ≤ 1000 ∧ 1 < i ∧ i.natAbs.log2 < 100000
theorem op_powW : OpR X (binaryOp .Pow) (rI CPowW fun i j => .int (i ^ j.toNat)) := opI fun i j t u s Q E hc q => by
  obtain ⟨h1, h2, h3, h4⟩ := hc
  refine AutoIntOps.pow_4 (by omega) (by simp; omega) (by simp; omega) (by simp; omega) ?_ q
  unfold Builtin.Int.intTooBig
  have hb : Builtin.Int.intBits i ≤ i.natAbs.log2 + 1 := by
    unfold Builtin.Int.intBits
    split <;> omega
  have e : bitsLine = 134217728 := by decide
  have m : ((Builtin.Int.intBits i : Nat) : Int) * j ≤ 100000 * 1000 := by
    have a : ((Builtin.Int.intBits i : Nat) : Int) ≤ 100000 := by omega
    exact Int.mul_le_mul a h2 (by omega) (by omega)
  rw [e]
  simp
  omega

/-- xs += ys -/
theorem ip_ext : PIp X .Add rExt2 := fun pins s σ H x y v u Q J r1 r2 h => iop_ext pins s σ H x y v u Q J r1 r2 h

/-- a < b < c < d -/
def tChain3 (r r' r'' : R2) (ta tb tc td : TE) : TE := fun σ H Q => ta σ H fun x H1 => tb σ H1 fun y H2 => r x y H2 fun z H3 => ∃ k, z = .bl k ∧
  (if k = true then tc σ H3 fun w H4 => r' y w H4 fun z2 H5 => ∃ k2, z2 = .bl k2 ∧ (if k2 = true then td σ H5 fun v H6 => r'' w v H6 Q else Q (.bl false) H5) else Q (.bl false) H3)
variable {a b c d : Expr} {ta tb tc td : TE} {pos : Pos}
theorem pe_chain3 {o1 o2 o3 : CmpOp} {r r' r'' : R2} (h1 : OpR X (compareOp o1) r) (h2 : OpR X (compareOp o2) r') (h3 : OpR X (compareOp o3) r'') (ha : PE X a ta) (hb : PE X b tb) (hc : PE X c tc) (hd : PE X d td)
    (hm : lastMarks [o1, o2, o3] [b, c, d] = false := by with_unfolding_all rfl) : PE X (.Compare a [o1, o2, o3] [b, c, d] pos) (tChain3 r r' r'' ta tb tc td) := by
  constructor
  intro pins s σ H Q J h
  refine Compare_chain (thn (ha.run pins s σ H _ J h) ?_) hm
  rintro v s1 ⟨x, H1, J1, r1, q1⟩
  refine chain_link (thn (hb.run pins s1 σ H1 _ J1 q1) ?_)
  rintro u s2 ⟨y, H2, J2, r2, q2⟩
  refine thn (h1 pins s2 σ H2 x y v u _ J2 r1 r2 q2) ?_
  rintro d1 s3 ⟨z, H3, J3, r3, k, e, q3⟩
  subst e
  cases r3
  refine wpAny_truthy_bool ?_
  cases k with
  | false => exact ite_ff ⟨.bl false, H3, J3, rfl, q3⟩
  | true =>
    refine ite_tt (chain_link (thn (hc.run pins s3 σ H3 _ J3 q3) ?_))
    rintro w s4 ⟨y2, H4, J4, r4, q4⟩
    refine thn (h2 pins s4 σ H4 y y2 u w _ J4 r2 r4 q4) ?_
    rintro d2 s5 ⟨z2, H5, J5, r5, k2, e2, q5⟩
    subst e2
    cases r5
    refine wpAny_truthy_bool ?_
    cases k2 with
    | false => exact ite_ff ⟨.bl false, H5, J5, rfl, q5⟩
    | true =>
      refine ite_tt (chain_last (thn (hd.run pins s5 σ H5 _ J5 q5) ?_))
      rintro w3 s6 ⟨y3, H6, J6, r6, q6⟩
      exact h3 pins s6 σ H6 y2 y3 w w3 Q J6 r4 r6 q6
end
end UN

namespace UN
open PySem PySem.Spec PyProof.Rows L2

/-! what a def owns: H is H0 with the new objects of L -/
abbrev Led := List (Addr × HO)
structure Loc (H0 H : Hp) (L : Led) : Prop where
  same : Same H0 H
  here : ∀ p ∈ L, H p.1 = some p.2
  new : ∀ p ∈ L, H0 p.1 = none
  nd : (L.map Prod.fst).Nodup
section
variable {H0 H H1 : Hp} {L M A B : Led} {a p : Addr} {o o' : HO}
theorem Loc.refl (H : Hp) : Loc H H [] := ⟨Same.refl H, (fun _ z => nomatch z), (fun _ z => nomatch z), List.Pairwise.nil⟩
theorem Loc.of (h : Same H0 H) : Loc H0 H [] := ⟨h, (fun _ z => nomatch z), (fun _ z => nomatch z), List.Pairwise.nil⟩
theorem Loc.ne (l : Loc H0 H L) (hp : H p = none) : ∀ q ∈ L, q.1 ≠ p := fun q hq => ne_of_none (l.here q hq) hp
theorem Loc.alloc (l : Loc H0 H L) (hp : H p = none) : Loc H0 (upd H p o) ((p, o) :: L) := by
  have n0 : H0 p = none := l.same.free hp
  refine ⟨fun b u e => ?_, ?_, ?_, ?_⟩
  · rw [upd_ne (ne_of_none e n0)]; exact l.same b u e
  · intro q hq
    rcases List.mem_cons.mp hq with rfl | hq
    · exact upd_same
    · rw [upd_ne (l.ne hp q hq)]; exact l.here q hq
  · intro q hq
    rcases List.mem_cons.mp hq with rfl | hq
    · exact n0
    · exact l.new q hq
  · refine List.nodup_cons.mpr ⟨fun z => ?_, l.nd⟩
    obtain ⟨q, hq, e⟩ := List.mem_map.mp z
    exact l.ne hp q hq e
theorem Loc.setIx (l : Loc H0 H L) {i : Nat} (h : L[i]? = some (a, o)) : Loc H0 (upd H a o') (L.set i (a, o')) := by
  have mem : (a, o) ∈ L := List.mem_of_getElem? h
  have n0 : H0 a = none := l.new _ mem
  obtain ⟨hi, e⟩ := List.getElem?_eq_some_iff.mp h
  have fst : (L.set i (a, o')).map Prod.fst = L.map Prod.fst := by
    rw [List.map_set]
    refine List.ext_getElem? fun j => ?_
    rw [List.getElem?_set]
    by_cases hj : i = j
    · subst hj
      rw [if_pos rfl, List.getElem?_map, h, if_pos (by rw [List.length_map]; exact hi)]
      rfl
    · rw [if_neg hj]
  refine ⟨fun b u q => ?_, ?_, ?_, ?_⟩
  · rw [upd_ne (ne_of_none q n0)]; exact l.same b u q
  · intro q hq
    obtain ⟨j, hj⟩ := List.getElem?_of_mem hq
    rw [List.getElem?_set] at hj
    by_cases e1 : i = j
    · subst e1
      rw [if_pos rfl, if_pos hi] at hj
      cases hj
      exact upd_same
    · rw [if_neg e1] at hj
      have mq : q ∈ L := List.mem_of_getElem? hj
      have ne : q.1 ≠ a := by
        intro z
        have j1 : (L.map Prod.fst)[i]? = some a := by rw [List.getElem?_map, h]; rfl
        have j2 : (L.map Prod.fst)[j]? = some a := by rw [List.getElem?_map, hj, ← z]; rfl
        exact e1 (nd_ix l.nd j1 j2)
      rw [upd_ne ne]
      exact l.here q mq
  · intro q hq
    have z : q.1 ∈ (L.set i (a, o')).map Prod.fst := List.mem_map.mpr ⟨q, hq, rfl⟩
    rw [fst] at z
    obtain ⟨r, hr, e2⟩ := List.mem_map.mp z
    rw [← e2]
    exact l.new r hr
  · rw [fst]; exact l.nd
theorem Loc.call (l : Loc H0 H L) (m : Loc H H1 M) : Loc H0 H1 (M ++ L) := by
  refine ⟨l.same.trans m.same, ?_, ?_, ?_⟩
  · intro q hq
    rcases List.mem_append.mp hq with hq | hq
    · exact m.here q hq
    · exact m.same _ _ (l.here q hq)
  · intro q hq
    rcases List.mem_append.mp hq with hq | hq
    · exact l.same.free (m.new q hq)
    · exact l.new q hq
  · rw [List.map_append, List.nodup_append]
    refine ⟨m.nd, l.nd, fun x hx y hy e => ?_⟩
    obtain ⟨q, hq, rfl⟩ := List.mem_map.mp hx
    obtain ⟨r, hr, rfl⟩ := List.mem_map.mp hy
    have e1 := m.new q hq
    rw [e, l.here r hr] at e1
    cases e1
theorem Loc.ext (l : Loc H0 H L) (s : Same H H1) : Loc H0 H1 L := l.call (Loc.of s)
theorem Loc.keep (l : Loc H0 H L) (s : M.Sublist L) : Loc H0 H M :=
  ⟨l.same, fun q hq => l.here q (s.subset hq), fun q hq => l.new q (s.subset hq), l.nd.sublist (s.map _)⟩
theorem Loc.perm (l : Loc H0 H L) (s : M.Perm L) : Loc H0 H M :=
  ⟨l.same, fun q hq => l.here q (s.mem_iff.mp hq), fun q hq => l.new q (s.mem_iff.mp hq), (s.map Prod.fst).nodup_iff.mpr l.nd⟩
theorem Loc.drop1 (l : Loc H0 H ((a, o) :: L)) : Loc H0 H L := l.keep (List.sublist_cons_self _ _)
theorem Loc.put0 (l : Loc H0 H ((a, o) :: L)) : Loc H0 (upd H a o') ((a, o') :: L) := l.setIx (i := 0) rfl
theorem Loc.at0 (l : Loc H0 H ((a, o) :: L)) : H a = some o := l.here _ List.mem_cons_self
theorem Loc.atIx (l : Loc H0 H L) {i : Nat} (h : L[i]? = some (a, o)) : H a = some o := l.here _ (List.mem_of_getElem? h)
/-- the base itself is written at a place that is none of ours -/
theorem Loc.bump (l : Loc (upd H0 a o) H L) : Loc (upd H0 a o') (upd H a o') L := by
  have ne : ∀ q ∈ L, q.1 ≠ a := fun q hq z => by
    have e := l.new q hq
    rw [z, upd_same] at e
    cases e
  refine ⟨fun b u e => ?_, fun q hq => ?_, fun q hq => ?_, l.nd⟩
  · by_cases hb : b = a
    · subst hb; rw [upd_same] at e ⊢; exact e
    · rw [upd_ne hb] at e ⊢
      exact l.same b u (by rw [upd_ne hb]; exact e)
  · rw [upd_ne (ne q hq)]; exact l.here q hq
  · have e := l.new q hq
    rw [upd_ne (ne q hq)] at e ⊢
    exact e
theorem Loc.start (h : H a = some o) : Loc (upd H a o) H [] := by
  have e : upd H a o = H := by
    funext b
    by_cases hb : b = a
    · subst hb; rw [upd_same, h]
    · rw [upd_ne hb]
  rw [e]
  exact Loc.refl H
theorem Loc.own (l : Loc (upd H0 a o) H L) : H a = some o := l.same _ _ upd_same
end

/-! reading: what stays where all that was tracked stays -/
section
variable {K : PySem.W.Frag} {H H1 : Hp} {a : Addr} {xs : List V}
theorem Same.sqT (s : Same H H1) (h : SqT K H a xs) : SqT K H1 a xs := by
  rcases h with (h | ⟨o, h⟩) | h
  · exact .inl (.inl (s _ _ h))
  · exact .inl (.inr ⟨o, s _ _ h⟩)
  · exact .inr h
mutual
theorem Dp.grow (s : Same H H1) : ∀ (d : PyData) (v : V), Dp K H v d → Dp K H1 v d
  | .none, _, h => by cases h; exact .non
  | .bool _, _, h => by cases h; exact .bl _
  | .int _, _, h => by cases h; exact .int _
  | .str _, _, h => by cases h; exact .str _
  | .list ds, _, h => by
    cases h with
    | lst hs ha => exact .lst (s.seq hs) (DpAll.grow s ds _ ha)
  | .tuple ds, _, h => by
    cases h with
    | tup hs ha => exact .tup (Same.sqT s hs) (DpAll.grow s ds _ ha)
  | .dict _, _, h => nomatch h
theorem DpAll.grow (s : Same H H1) : ∀ (ds : List PyData) (vs : List V), DpAll K H vs ds → DpAll K H1 vs ds
  | [], _, h => by cases h; exact .nil
  | d :: ds, _, h => by
    cases h with
    | cons h1 h2 => exact .cons (Dp.grow s d _ h1) (DpAll.grow s ds _ h2)
end
end

/-! lists of lists, of pairs -/
def refs {α : Type} (rs : List (Addr × α)) : List V := rs.map fun p => .ref p.1
def iv (ns : List Int) : List V := ns.map V.int
def rowL (rs : List (Addr × List Int)) : Led := rs.map fun p => (p.1, .lst (iv p.2))
def pairL (rs : List (Addr × Int × Int)) : Led := rs.map fun p => (p.1, .tup [.int p.2.1, .int p.2.2])
def vals {α : Type} (rs : List (Addr × α)) : List α := rs.map Prod.snd
section
variable {K : PySem.W.Frag} {H H1 : Hp} {a : Addr}
def IsInts (K : PySem.W.Frag) (H : Hp) (a : Addr) (ns : List Int) : Prop := SqL K H a (iv ns)
def IsRows (K : PySem.W.Frag) (H : Hp) (a : Addr) (rows : List (List Int)) : Prop := ∃ rs : List (Addr × List Int), vals rs = rows ∧ SqL K H a (refs rs) ∧ ∀ r ∈ rs, SqL K H r.1 (iv r.2)
def IsPairs (K : PySem.W.Frag) (H : Hp) (a : Addr) (ps : List (Int × Int)) : Prop := ∃ ts : List (Addr × Int × Int), vals ts = ps ∧ SqL K H a (refs ts) ∧ ∀ t ∈ ts, SqT K H t.1 [.int t.2.1, .int t.2.2]
theorem IsInts.grow {ns : List Int} (s : Same H H1) (h : IsInts K H a ns) : IsInts K H1 a ns := s.seq h
theorem IsRows.grow {rows : List (List Int)} (s : Same H H1) (h : IsRows K H a rows) : IsRows K H1 a rows := by
  obtain ⟨rs, e, h1, h2⟩ := h
  exact ⟨rs, e, s.seq h1, fun r hr => s.seq (h2 r hr)⟩
theorem IsPairs.grow {ps : List (Int × Int)} (s : Same H H1) (h : IsPairs K H a ps) : IsPairs K H1 a ps := by
  obtain ⟨rs, e, h1, h2⟩ := h
  exact ⟨rs, e, s.seq h1, fun r hr => Same.sqT s (h2 r hr)⟩
theorem refs_set {α : Type} {rs : List (Addr × α)} {i : Nat} {x y : α} (h : rs[i]? = some (a, x)) : refs (rs.set i (a, y)) = refs rs := by
  unfold refs
  rw [List.map_set]
  refine List.ext_getElem? fun j => ?_
  rw [List.getElem?_set]
  by_cases hj : i = j
  · subst hj
    rw [if_pos rfl, List.getElem?_map, h, if_pos (by rw [List.length_map]; exact (List.getElem?_eq_some_iff.mp h).1)]
    rfl
  · rw [if_neg hj]
theorem rowL_set (rs : List (Addr × List Int)) (i : Nat) (r : List Int) : rowL (rs.set i (a, r)) = (rowL rs).set i (a, .lst (iv r)) := by
  unfold rowL
  rw [List.map_set]
theorem vals_set {α : Type} (rs : List (Addr × α)) (i : Nat) (r : α) : vals (rs.set i (a, r)) = (vals rs).set i r := by
  unfold vals
  rw [List.map_set]
theorem vals_get {α : Type} {rs : List (Addr × α)} {i : Nat} {r : α} (h : (vals rs)[i]? = some r) : ∃ a, rs[i]? = some (a, r) := by
  unfold vals at h
  rw [List.getElem?_map] at h
  cases e : rs[i]? with
  | none => rw [e] at h; cases h
  | some q => obtain ⟨b, s⟩ := q; rw [e] at h; cases h; exact ⟨b, rfl⟩
theorem refs_get {α : Type} {rs : List (Addr × α)} {i : Nat} {r : α} (h : rs[i]? = some (a, r)) : (refs rs)[i]? = some (.ref a) := by
  unfold refs
  rw [List.getElem?_map, h]
  rfl
theorem rowL_get {rs : List (Addr × List Int)} {i : Nat} {r : List Int} (h : rs[i]? = some (a, r)) : (rowL rs)[i]? = some (a, .lst (iv r)) := by
  unfold rowL
  rw [List.getElem?_map, h]
  rfl
theorem refs_len {α : Type} (rs : List (Addr × α)) : (refs rs).length = rs.length := List.length_map _
theorem vals_len {α : Type} (rs : List (Addr × α)) : (vals rs).length = rs.length := List.length_map _
theorem iv_len (ns : List Int) : (iv ns).length = ns.length := List.length_map _
theorem iv_get {ns : List Int} {i : Nat} {n : Int} (h : ns[i]? = some n) : (iv ns)[i]? = some (.int n) := by
  unfold iv
  rw [List.getElem?_map, h]
  rfl
theorem iv_snoc (ns : List Int) (n : Int) : iv (ns ++ [n]) = iv ns ++ [.int n] := List.map_append ..
theorem refs_snoc {α : Type} (rs : List (Addr × α)) (q : Addr × α) : refs (rs ++ [q]) = refs rs ++ [.ref q.1] := List.map_append ..
end

/-! sorting whole numbers -/
def srt (l : List Int) : List Int := l.mergeSort (fun a b => decide (a ≤ b))
theorem srt_perm (l : List Int) : (srt l).Perm l := List.mergeSort_perm ..
theorem srt_asc (l : List Int) : (srt l).Pairwise (· ≤ ·) := by
  have h := List.pairwise_mergeSort (le := fun a b : Int => decide (a ≤ b)) (fun a b c h1 h2 => by simp at *; omega) (fun a b => by simp; omega) l
  exact h.imp fun h => of_decide_eq_true h
theorem asc_unique : ∀ {l m : List Int}, l.Perm m → l.Pairwise (· ≤ ·) → m.Pairwise (· ≤ ·) → l = m
  | [], m, p, _, _ => p.nil_eq
  | x :: l, [], p, _, _ => by have := p.length_eq; simp at this
  | x :: l, y :: m, p, h1, h2 => by
    have h1' := List.pairwise_cons.mp h1
    have h2' := List.pairwise_cons.mp h2
    have e : x = y := by
      have a : x ∈ y :: m := p.subset List.mem_cons_self
      have b : y ∈ x :: l := p.symm.subset List.mem_cons_self
      rcases List.mem_cons.mp a with a | a
      · exact a
      · rcases List.mem_cons.mp b with b | b
        · exact b.symm
        · have := h2'.1 x a
          have := h1'.1 y b
          omega
    subst e
    rw [asc_unique (List.Perm.cons_inv p) h1'.2 h2'.2]
theorem srt_of {l m : List Int} (p : m.Perm l) (h : m.Pairwise (· ≤ ·)) : m = srt l := asc_unique (p.trans (srt_perm l).symm) h (srt_asc l)
end UN
namespace UN
open PySem PySem.Spec PyProof.Rows L2
section
variable {H0 H : Hp} {L : Led} {x y : Addr × HO} {t r : Addr} {o : HO}
theorem Loc.rot (l : Loc H0 H (x :: y :: L)) : Loc H0 H (y :: (L ++ [x])) :=
  l.perm ((List.Perm.cons y (List.perm_append_singleton x L)).trans (List.Perm.swap x y L))
theorem refs_inv {α : Type} {ts : List (Addr × α)} {i : Nat} {x : V} (h : (refs ts)[i]? = some x) : ∃ q, ts[i]? = some q ∧ x = .ref q.1 := by
  unfold refs at h
  rw [List.getElem?_map] at h
  cases e : ts[i]? with
  | none => rw [e] at h; cases h
  | some q => rw [e] at h; cases h; exact ⟨q, rfl, rfl⟩
theorem iv_inv {ns : List Int} {i : Nat} {x : V} (h : (iv ns)[i]? = some x) : ∃ n, ns[i]? = some n ∧ x = .int n := by
  unfold iv at h
  rw [List.getElem?_map] at h
  cases e : ns[i]? with
  | none => rw [e] at h; cases h
  | some q => rw [e] at h; cases h; exact ⟨q, rfl, rfl⟩
/-- a row of a new list of new rows grows -/
theorem Loc.rowGrow {rs : List (Addr × List Int)} {k : Nat} {row : List Int} {z : Int} (l : Loc H0 H ((t, .lst (refs rs)) :: rowL rs)) (h : rs[k]? = some (r, row)) :
    Loc H0 (upd H r (.lst (iv row ++ [.int z]))) ((t, .lst (refs (rs.set k (r, row ++ [z])))) :: rowL (rs.set k (r, row ++ [z]))) := by
  have l2 := l.setIx (i := k + 1) (a := r) (o := .lst (iv row)) (o' := .lst (iv row ++ [.int z])) (by rw [List.getElem?_cons_succ]; exact rowL_get h)
  rw [List.set_cons_succ, ← iv_snoc, ← rowL_set] at l2
  rw [refs_set h, ← iv_snoc]
  exact l2
/-- one more new row at the end of a new list of new rows -/
theorem Loc.rowNew {rs : List (Addr × List Int)} {row : List Int} (l : Loc H0 H ((t, .lst (refs rs)) :: rowL rs)) (hr : H r = none) :
    Loc H0 (upd (upd H r (.lst (iv row))) t (.lst (refs rs ++ [.ref r]))) ((t, .lst (refs (rs ++ [(r, row)]))) :: rowL (rs ++ [(r, row)])) := by
  have l2 := ((l.alloc (o := .lst (iv row)) hr).setIx (i := 1) (o' := .lst (refs rs ++ [.ref r])) rfl).rot
  rw [refs_snoc]
  have e : rowL (rs ++ [(r, row)]) = rowL rs ++ [(r, .lst (iv row))] := List.map_append ..
  rw [e]
  exact l2
/-- .. where the row was made by a call -/
theorem Loc.rowAdd {H1 : Hp} {rs : List (Addr × List Int)} {row : List Int} (l : Loc H0 H ((t, .lst (refs rs)) :: rowL rs)) (m : Loc H H1 [(r, .lst (iv row))]) :
    Loc H0 (upd H1 t (.lst (refs rs ++ [.ref r]))) ((t, .lst (refs (rs ++ [(r, row)]))) :: rowL (rs ++ [(r, row)])) := by
  have l2 := ((l.call m).setIx (i := 1) (o' := .lst (refs rs ++ [.ref r])) rfl).rot
  rw [refs_snoc]
  have e : rowL (rs ++ [(r, row)]) = rowL rs ++ [(r, .lst (iv row))] := List.map_append ..
  rw [e]
  exact l2
theorem Loc.isRows {K : PySem.W.Frag} {rs : List (Addr × List Int)} (l : Loc H0 H ((t, .lst (refs rs)) :: rowL rs)) : IsRows K H t (vals rs) :=
  ⟨rs, rfl, SqL.of l.at0, fun q hq => SqL.of (l.here (q.1, .lst (iv q.2)) (List.mem_cons_of_mem _ (List.mem_map.mpr ⟨q, hq, rfl⟩)))⟩
theorem sl_line {n : Nat} (h : n ≤ 100000) : n ≤ sizeLine := Nat.le_trans h (by decide)
theorem sl_line' {n : Nat} (h : n < 100000) : n < sizeLine := Nat.lt_of_lt_of_le h (by decide)
end
end UN

namespace UN
open PySem PySem.Spec PyProof.Rows L2

/-! the layer's rules with the written part told (within a comprehension's block it is the def's) -/
section
variable {X : Cx} (K : PySem.W.Frag) (hK : X.K = K)
include hK
theorem ix_listK : IxR X (rIxL K) := hK ▸ ix_list
theorem ix_tupK : IxR X (rIxT K) := hK ▸ ix_tup
theorem sl_listK : SlR X (rSlL K) := hK ▸ sl_list
theorem op_in_seqK : OpR X (compareOp .In) (rIn K false) := hK ▸ op_in_seq
theorem op_notIn_seqK : OpR X (compareOp .NotIn) (rIn K true) := hK ▸ op_notIn_seq
theorem op_eqDK (hu : X.A.units + 64 < cLine) : OpR X (compareOp .Eq) (rEqD K) := hK ▸ op_eqD hu
theorem op_neDK (hu : X.A.units + 64 < cLine) : OpR X (compareOp .NotEq) (rNeD K) := hK ▸ op_neD hu
theorem op_inDK (hu : X.A.units + 65 < cLine) : OpR X (compareOp .In) (rInD K) := hK ▸ op_inD hu
theorem op_notInDK (hu : X.A.units + 65 < cLine) : OpR X (compareOp .NotIn) (rNotInD K) := hK ▸ op_notInD hu
theorem op_ltTK (hu : X.A.units < cLine) : OpR X (compareOp .Lt) (rLtT K) := hK ▸ op_ltT hu
theorem op_leTK (hu : X.A.units < cLine) : OpR X (compareOp .LtE) (rLeT K) := hK ▸ op_leT hu
theorem op_catTK : OpR X (binaryOp .Add) (rCatT K) := hK ▸ op_catT
def rLenS (K : PySem.W.Frag) : List V → Hp → VK → Prop := fun xs H Q => ∃ p ys, xs = [.ref p] ∧ (SqL K H p ys ∨ SqT K H p ys) ∧ Q (.int ys.length) H
theorem call_len_seqK : CallR X (.builtin "len") (rLenS K) := hK ▸ call_len_seq
def rListOf (K : PySem.W.Frag) : List V → Hp → VK → Prop := fun xs H Q => ∃ p ys, xs = [.ref p] ∧ (SqL K H p ys ∨ SqT K H p ys) ∧ ∀ l, H l = none → Q (.ref l) (upd H l (.lst ys))
theorem call_list_ofK : CallR X (.type "list") (rListOf K) := hK ▸ call_list_of
theorem cr_sumK (hc : X.calm = true) : CallR X (.builtin "sum") (rSum K) := hK ▸ cr_sum hc
theorem cr_maxK (hc : X.calm = true) : CallR X (.builtin "max") (rMax K) := hK ▸ cr_max hc
theorem cr_minK (hc : X.calm = true) : CallR X (.builtin "min") (rMin K) := hK ▸ cr_min hc
theorem cr_anyK (hc : X.calm = true) : CallR X (.builtin "any") (rAny K) := hK ▸ cr_any hc
theorem cr_allK (hc : X.calm = true) : CallR X (.builtin "all") (rAll K) := hK ▸ cr_all hc
theorem cr_sortedIK : CallR X (.builtin "sorted") (rSortedI K) := hK ▸ cr_sortedI
theorem cr_sortedPOK : CallR X (.builtin "sorted") (rSortedPO K) := hK ▸ cr_sortedPO
theorem call_isiK2 : CallR X (.builtin "isinstance") (rIsi K) := hK ▸ call_isi
theorem call_reprDK (hu : X.A.units + 64 < cLine) (hg : X.A.guards = some []) : CallR X (.builtin "repr") (rRepr K) := hK ▸ call_reprD hu hg
theorem pi_listK {tg l : Expr} {tl : TE} (hl : PE X l tl) : PI X tg l (iList K tl) := hK ▸ pi_list hl
theorem pi_tupK {tg l : Expr} {tl : TE} (hl : PE X l tl) : PI X tg l (iTup K tl) := hK ▸ pi_tup hl
theorem pi_enumK {e : Expr} {ta : TA} {p pos tpos : Pos} {elts : List Expr} {kk : Nat} (hg : Gl X "enumerate") (hm : X.mg "enumerate" = none) (ha : PA X [e] ta) (hs : starEach [e] X.env = [(false, eval e X.env)] := by rfl) :
    PI X (.Tuple elts kk tpos) (.Call (.Name "enumerate" p) [e] [] pos) (iEnum K ta) := hK ▸ pi_enum hg hm ha hs
theorem pg_tupK {es : List Expr} {k : Nat} {t : TGs} {n : Nat} {pos : Pos} (hc : X.calm = true) (h : PGs X es t)
    (hn : (assignEach es X.env).length = n := by rfl) (hst : (assignEach es X.env).findIdx? (·.1) = none := by rfl) : PG X (.Tuple es k pos) (gTup K n t) := hK ▸ pg_tup hc h hn hst
theorem pe_revLK {e : Expr} {te : TE} {k : Nat} {p1 p2 p3 pos : Pos} (he : PE X e te) : PE X (.Subscript e (.Slice none none (some (.UnaryOp .USub (.Constant (.int 1) k p1) p2)) p3) pos) (tRevL K te) := hK ▸ pe_revL he
def tTruK (K : PySem.W.Frag) (ta : TE) : TT := fun σ H Q => ta σ H fun x H' => ∃ k, TruV K x H' k ∧ Q k H'
theorem pt_truthK {a : Expr} {ta : TE} (ha : PE X a ta) (he : ∀ whole, isTrue a X.env whole = (do let v ← whole; standAt a.pos; holding [v] (truthy v))) : PT X a (tTruK K ta) := hK ▸ pt_truth ha he
theorem mt_indexK : MtR X "list.index" (rIndex K) := hK ▸ mt_index
theorem mt_lcountK : MtR X "list.count" (fun x xs H Q => ∃ (p : Addr) (ns : List Int) (k : Int), x = .ref p ∧ xs = [.int k] ∧ SqL K H p (ns.map V.int) ∧ Q (.int (ns.count k : Nat)) H) := by
  cases hK
  exact mt_lcount
variable {T : String} {name : Str} {id : String} {r : V → List V → Hp → VK → Prop} {o e : Expr} {es : List Expr} {to : TE} {t : TA} {apos cpos : Pos}
theorem pe_bm0K (pa : PlainAttrs T) (slot : Slot T name id) (hty : typeOf (.builtin id) = pure (.type "method_descriptor")) (hm : MtR X id r) (ho : PE X o to)
    (hbase : attributeBase o name X.env (eval o X.env) = eval o X.env := by rfl) (hline : (apos.endLine == cpos.line) = true := by rfl) : PE X (.Call (.Attribute o name apos) [] [] cpos) (tBM0 K T r to) :=
  hK ▸ pe_bm0 pa slot hty hm ho hbase hline
theorem pe_bmK (pa : PlainAttrs T) (slot : Slot T name id) (hty : typeOf (.builtin id) = pure (.type "method_descriptor")) (hm : MtR X id r) (ho : PE X o to) (ha : PA X (e :: es) t)
    (h1 : attributeBase o name X.env (eval o X.env) = eval o X.env := by rfl)
    (h2 : ((backTo cpos (starEach (e :: es) X.env)).all (fun x => !x.1) && (backToKw cpos (keywordEach [] X.env)).all (fun x => x.1.isSome) && decide ((e :: es).length + ([] : List Keyword).length + (if ([] : List Keyword).isEmpty then 0 else 1) < 30)) = true := by rfl)
    (h3 : (apos.endLine == cpos.line) = true := by rfl) (h4 : starEach (e :: es) X.env = (false, eval e X.env) :: starEach es X.env := by rfl) (h5 : (backTo cpos (starEach es X.env)).any (·.1) = false := by rfl) :
    PE X (.Call (.Attribute o name apos) (e :: es) [] cpos) (tBM K T r to t) := hK ▸ pe_bm pa slot hty hm ho ha h1 h2 h3 h4 h5
end
section
variable {X : Cx} (P : Program) (w : World) (K : PySem.W.Frag)
theorem cr_setOfTK (hP : X.prog = P) (hw : X.w = w) (hK : X.K = K) (hc : X.calm = true) (hu : X.A.units + 64 < cLine) : CallR X (.type "set") (rSetOfT K P w) := by
  cases hP; cases hw; cases hK
  exact cr_setOfT hc hu
theorem cr_sortedTK (hP : X.prog = P) (hw : X.w = w) (hK : X.K = K) (hc : X.calm = true) : CallR X (.builtin "sorted") (rSortedT K P w) := by
  cases hP; cases hw; cases hK
  exact cr_sortedT hc
end

/-! the built-ins by their names -/
theorem bt_len : bootBuiltins "len" = some (.builtin "len") := by first | exact PySem.boot_len | exact PyProof.Rows.boot_len | decide +kernel
theorem bt_range : bootBuiltins "range" = some (.type "range") := by first | exact PySem.boot_range | exact PyProof.Rows.boot_range | decide +kernel
theorem bt_sorted : bootBuiltins "sorted" = some (.builtin "sorted") := by first | exact PySem.boot_sorted | exact PyProof.Rows.boot_sorted | decide +kernel
theorem bt_repr : bootBuiltins "repr" = some (.builtin "repr") := by first | exact PySem.boot_repr | exact PyProof.Rows.boot_repr | decide +kernel
theorem bt_isinstance : bootBuiltins "isinstance" = some (.builtin "isinstance") := by first | exact PySem.boot_isinstance | exact PyProof.Rows.boot_isinstance | decide +kernel
theorem bt_min : bootBuiltins "min" = some (.builtin "min") := by first | exact PySem.boot_min | exact PyProof.Rows.boot_min | decide +kernel
theorem bt_max : bootBuiltins "max" = some (.builtin "max") := by first | exact PySem.boot_max | exact PyProof.Rows.boot_max | decide +kernel
theorem bt_sum : bootBuiltins "sum" = some (.builtin "sum") := by first | exact PySem.boot_sum | exact PyProof.Rows.boot_sum | decide +kernel
theorem bt_any : bootBuiltins "any" = some (.builtin "any") := by first | exact PySem.boot_any | exact PyProof.Rows.boot_any | decide +kernel
theorem bt_all : bootBuiltins "all" = some (.builtin "all") := by first | exact PySem.boot_all | exact PyProof.Rows.boot_all | decide +kernel
theorem bt_abs : bootBuiltins "abs" = some (.builtin "abs") := by first | exact PySem.boot_abs | exact PyProof.Rows.boot_abs | decide +kernel
theorem bt_int : bootBuiltins "int" = some (.type "int") := by first | exact PySem.boot_int | exact PyProof.Rows.boot_int | decide +kernel
theorem bt_bool : bootBuiltins "bool" = some (.type "bool") := by first | exact PySem.boot_bool | exact PyProof.Rows.boot_bool | decide +kernel
theorem bt_str : bootBuiltins "str" = some (.type "str") := by first | exact PySem.boot_str | exact PyProof.Rows.boot_str | decide +kernel
theorem bt_list : bootBuiltins "list" = some (.type "list") := by first | exact PySem.boot_list | exact PyProof.Rows.boot_list | decide +kernel
theorem bt_tuple : bootBuiltins "tuple" = some (.type "tuple") := by first | exact PySem.boot_tuple | exact PyProof.Rows.boot_tuple | decide +kernel
theorem bt_set : bootBuiltins "set" = some (.type "set") := by first | exact PySem.boot_set | exact PyProof.Rows.boot_set | decide +kernel
theorem bt_dict : bootBuiltins "dict" = some (.type "dict") := by first | exact PySem.boot_dict | exact PyProof.Rows.boot_dict | decide +kernel
end UN

namespace UN
open PySem PySem.Spec PyProof.Rows L2
/-! types of values; tests that are known -/
section
variable {K : PySem.W.Frag} {H : Hp} {a : Addr} {xs : List V}
theorem tyx_int (i : Int) : TyX K H (.int i) (.type "int") := .base (.int i)
theorem tyx_bl (b : Bool) : TyX K H (.bl b) (.type "bool") := .base (.bl b)
theorem tyx_list (h : SqL K H a xs) : TyX K H (.ref a) (.type "list") := by
  rcases h with (h | ⟨o, h⟩) | ⟨o, its, n, h, c, _⟩
  · exact .base (.lst h)
  · exact .base (.frz h)
  · exact .kList h c
theorem tyx_tup (h : SqT K H a xs) : TyX K H (.ref a) (.type "tuple") := by
  rcases h with (h | ⟨o, h⟩) | ⟨o, its, n, h, c, _⟩
  · exact .base (.tup h)
  · exact .fTuple h
  · exact .kTuple h c
end
theorem kb_ii : kitB "int" "int" = some true := by decide +kernel
theorem kb_ib : kitB "int" "bool" = some false := by decide +kernel
theorem kb_bi : kitB "bool" "int" = some true := by decide +kernel
theorem kb_bb : kitB "bool" "bool" = some true := by decide +kernel
theorem kb_tt : kitB "tuple" "tuple" = some true := by decide +kernel
theorem kb_ll : kitB "list" "list" = some true := by decide +kernel
theorem iteTr {c A B : Prop} [Decidable c] (h : c) (a : A) : if c then A else B := by rw [if_pos h]; exact a
theorem iteFa {c A B : Prop} [Decidable c] (h : ¬ c) (b : B) : if c then A else B := by rw [if_neg h]; exact b
theorem iteTT {k : Bool} {A B : Prop} (h : k = true) (a : A) : if k = true then A else B := iteTr h a
theorem iteFF {k : Bool} {A B : Prop} (h : k = false) (b : B) : if k = true then A else B := iteFa (by rw [h]; decide) b
/-- isinstance of a built-in class -/
theorem isiA {K : PySem.W.Frag} {x : V} {T U : String} {b : Bool} {H : Hp} {Q : VK} (t : TyX K H x (.type T)) (k : kitB T U = some b) (q : Q (.bl b) H) : rIsi K [x, .ty U] H Q :=
  ⟨x, .ty U, .type T, .type U, b, rfl, .ty U, t, kit_ty k, q⟩
/-- an element of a list, of a tuple at a known place -/
theorem ixLA {K : PySem.W.Frag} {p : Addr} {xs : List V} {i : Int} {j : Nat} {v : V} {H : Hp} {Q : VK} (h : SqL K H p xs) (e : i = (j : Int)) (g : xs[j]? = some v) (q : Q v H) : rIxL K (.ref p) (.int i) H Q :=
  ⟨p, xs, i, v, rfl, rfl, h, at_of e g, q⟩
theorem ixTA {K : PySem.W.Frag} {p : Addr} {xs : List V} {i : Int} {j : Nat} {v : V} {H : Hp} {Q : VK} (h : SqT K H p xs) (e : i = (j : Int)) (g : xs[j]? = some v) (q : Q v H) : rIxT K (.ref p) (.int i) H Q :=
  ⟨p, xs, i, v, rfl, rfl, h, at_of e g, q⟩
theorem lenLA {K : PySem.W.Frag} {p : Addr} {xs : List V} {H : Hp} {Q : VK} (h : SqL K H p xs) (q : Q (.int xs.length) H) : rLenS K [.ref p] H Q := ⟨p, xs, rfl, .inl h, q⟩
theorem lenTA {K : PySem.W.Frag} {p : Addr} {xs : List V} {H : Hp} {Q : VK} (h : SqT K H p xs) (q : Q (.int xs.length) H) : rLenS K [.ref p] H Q := ⟨p, xs, rfl, .inr h, q⟩
end UN
namespace UN
open PySem PySem.Spec PyProof.Rows L2
theorem CalG.mono {P : Program} {w : World} {K : PySem.W.Frag} {mg : Str → Option Value} {base : Heap} {j k : Nat} {x : Str} {st : Stmt} {ps : List Str} {sp : Sp} (c : CalG P w K mg base j x st ps sp) (h : j ≤ k) : CalG P w K mg base k x st ps sp := by
  obtain ⟨f, fd, F, hm, fn⟩ := c.ex
  exact ⟨⟨f, fd, F.mono h, hm, fn⟩, c.bd⟩
end UN
namespace UN
open PySem PySem.Spec PyProof.Rows L2
/-- a loop of n turns over any iterator -/
theorem for_n {J : It} {g : TG} {tb : TS} {D : Ends} {σ : L2.St} {H : Hp} (n : Nat) (Pv : Nat → L2.St → Hp → Prop) (h0 : Pv 0 σ H)
    (go : ∀ i σ H, i < n → Pv i σ H → J.go i H ∧ ∀ x H', J.yld i H x H' → g x σ H' fun σ2 H2 => tb { D with nx := Pv (i + 1), ct := Pv (i + 1), bk := D.nx } σ2 H2)
    (fin : ∀ σ H, Pv n σ H → J.stop n H ∧ D.nx σ H) :
    ∃ W : Nat → Nat → L2.St → Hp → Prop, (∃ m, W 0 m σ H) ∧ ∀ i m σ H, W i m σ H →
      (J.stop i H ∧ D.nx σ H) ∨ (J.go i H ∧ ∃ N : L2.St → Hp → Prop, (∀ σ' H', N σ' H' → ∃ m', m' < m ∧ W (i + 1) m' σ' H') ∧ ∀ x H', J.yld i H x H' → g x σ H' fun σ2 H2 => tb { D with nx := N, ct := N, bk := D.nx } σ2 H2) := by
  refine ⟨fun i m σ H => i + m = n ∧ Pv i σ H, ⟨n, by omega, h0⟩, ?_⟩
  rintro i m σ H ⟨e, p⟩
  by_cases hi : i < n
  · obtain ⟨a, b⟩ := go i σ H hi p
    exact .inr ⟨a, Pv (i + 1), fun σ' H' q => ⟨m - 1, by omega, by omega, q⟩, b⟩
  · have e2 : i = n := by omega
    subst e2
    exact .inl (fin σ H p)
theorem lc_n {J : It} {g : TG} {tt : TT} {te : TE} {vs : List Nat} {σ : L2.St} {H1 : Hp} {D : Addr} {Qd : Hp → Prop} (n : Nat) (Pv : Nat → Hp → Prop) (h0 : Pv 0 (upd H1 D (.lst [])))
    (go : ∀ i H, i < n → Pv i H → J.go i H ∧ ∀ x H', J.yld i H x H' → g x (wipe σ vs) H' fun σ2 H2 => wipe σ2 vs = wipe σ vs ∧ tt σ2 H2 fun b H3 =>
      if b = true then te σ2 H3 fun y H4 => ∃ acc, H4 D = some (.lst acc) ∧ acc.length < sizeLine ∧ Pv (i + 1) (upd H4 D (.lst (acc ++ [y]))) else Pv (i + 1) H3)
    (fin : ∀ H, Pv n H → J.stop n H ∧ Qd H) :
    ∃ W : Nat → Nat → Hp → Prop, (∃ m, W 0 m (upd H1 D (.lst []))) ∧ ∀ i m H, W i m H →
      (J.stop i H ∧ Qd H) ∨ (J.go i H ∧ ∃ Nx : Hp → Prop, (∀ H', Nx H' → ∃ m', m' < m ∧ W (i + 1) m' H') ∧ ∀ x H', J.yld i H x H' → g x (wipe σ vs) H' fun σ2 H2 => wipe σ2 vs = wipe σ vs ∧ tt σ2 H2 fun b H3 =>
        if b = true then te σ2 H3 fun y H4 => ∃ acc, H4 D = some (.lst acc) ∧ acc.length < sizeLine ∧ Nx (upd H4 D (.lst (acc ++ [y]))) else Nx H3) := by
  refine ⟨fun i m H => i + m = n ∧ Pv i H, ⟨n, by omega, h0⟩, ?_⟩
  rintro i m H ⟨e, p⟩
  by_cases hi : i < n
  · obtain ⟨a, b⟩ := go i H hi p
    exact .inr ⟨a, Pv (i + 1), fun H' q => ⟨m - 1, by omega, by omega, q⟩, b⟩
  · have e2 : i = n := by omega
    subst e2
    exact .inl (fin H p)
/-- enumerate over a list that stays -/
theorem for_enum {K : PySem.W.Frag} {a : Addr} {xs : List V} {g : TG} {tb : TS} {D : Ends} {σ : L2.St} {H : Hp} (Pv : Nat → L2.St → Hp → Prop) (h0 : Pv 0 σ H) (hl : ∀ i σ H, Pv i σ H → SqL K H a xs)
    (hs : ∀ i x σ H T, xs[i]? = some x → Pv i σ H → H T = none → g (.ref T) σ (upd H T (.tup [.int (i : Nat), x])) fun σ2 H2 => tb { D with nx := Pv (i + 1), ct := Pv (i + 1), bk := D.nx } σ2 H2) (hd : ∀ σ H, Pv xs.length σ H → D.nx σ H) :
    ∃ W : Nat → Nat → L2.St → Hp → Prop, (∃ m, W 0 m σ H) ∧ ∀ i m σ H, W i m σ H →
      ((Ite K a).stop i H ∧ D.nx σ H) ∨ ((Ite K a).go i H ∧ ∃ N : L2.St → Hp → Prop, (∀ σ' H', N σ' H' → ∃ m', m' < m ∧ W (i + 1) m' σ' H') ∧ ∀ x H', (Ite K a).yld i H x H' → g x σ H' fun σ2 H2 => tb { D with nx := N, ct := N, bk := D.nx } σ2 H2) := by
  refine for_n xs.length Pv h0 (fun i σ H hi p => ?_) fun σ H p => ⟨⟨xs, hl _ _ _ p, Nat.le_refl _⟩, hd _ _ p⟩
  have q := hl _ _ _ p
  refine ⟨⟨xs, xs[i], q, by simp [hi]⟩, ?_⟩
  rintro x H' ⟨T, y, rfl, nT, rfl, f⟩
  exact hs i y σ H T (f xs q) p nT
end UN

namespace UN
open PySem PySem.Spec PyProof.Rows L2
/-! small data -/
structure Sm (b dep : Nat) (d : PyData) : Prop where
  lay : d.canLay0 = true
  sh : d.showable = true
  ls : d.leavesShort 13 = true
  dp : d.depth ≤ dep
  bk : d.bulk ≤ b
section
variable {b c dep e : Nat} {d : PyData} {ds : List PyData}
theorem Sm.mono (h : Sm b dep d) (h1 : b ≤ c) (h2 : dep ≤ e) : Sm c e d := ⟨h.lay, h.sh, h.ls, Nat.le_trans h.dp h2, Nat.le_trans h.bk h1⟩
theorem sm_int {i : Int} (h : i.natAbs < 10 ^ 12) : Sm 0 0 (.int i) := by
  refine ⟨rfl, decide_eq_true ?_, decide_eq_true (PyData.shown_int_le h), Nat.le_refl _, Nat.le_refl _⟩
  by_cases z : i.natAbs = 0
  · rw [z]; decide
  · exact Nat.lt_trans ((Nat.log2_lt z).mpr (Nat.lt_trans h (by decide))) (by decide : 41 < 1920)
theorem sm_bl (x : Bool) : Sm 0 0 (.bool x) := ⟨rfl, rfl, rfl, Nat.le_refl _, Nat.le_refl _⟩
theorem sm_non : Sm 0 0 .none := ⟨rfl, rfl, rfl, Nat.le_refl _, Nat.le_refl _⟩
theorem sm_all (h : ∀ d ∈ ds, Sm b dep d) : PyData.canLayAll0 ds = true ∧ PyData.showableAll ds = true ∧ PyData.leavesShortAll 13 ds = true ∧ PyData.depthAll ds ≤ dep ∧ PyData.bulkAll ds ≤ ds.length * (b + 1) := by
  induction ds with
  | nil => exact ⟨rfl, rfl, rfl, Nat.zero_le _, Nat.zero_le _⟩
  | cons x r ih =>
    obtain ⟨a1, a2, a3, a4, a5⟩ := ih fun d hd => h d (List.mem_cons_of_mem _ hd)
    obtain ⟨b1, b2, b3, b4, b5⟩ := h x List.mem_cons_self
    refine ⟨by simp [PyData.canLayAll0, a1, b1], by simp [PyData.showableAll, a2, b2], by simp [PyData.leavesShortAll, a3, b3], by simp only [PyData.depthAll]; omega, ?_⟩
    simp only [PyData.bulkAll, List.length_cons, Nat.succ_mul]
    omega
theorem sm_lst (h : ∀ d ∈ ds, Sm b dep d) : Sm (ds.length * (b + 1)) (dep + 1) (.list ds) := by
  obtain ⟨a1, a2, a3, a4, a5⟩ := sm_all h
  exact ⟨by simpa only [PyData.canLay0] using a1, by simpa only [PyData.showable] using a2, by simpa only [PyData.leavesShort] using a3, by simp only [PyData.depth]; omega, by simpa only [PyData.bulk] using a5⟩
theorem sm_tup (h : ∀ d ∈ ds, Sm b dep d) : Sm (ds.length * (b + 1)) (dep + 1) (.tuple ds) := by
  obtain ⟨a1, a2, a3, a4, a5⟩ := sm_all h
  exact ⟨by simpa only [PyData.canLay0] using a1, by simpa only [PyData.showable] using a2, by simpa only [PyData.leavesShort] using a3, by simp only [PyData.depth]; omega, by simpa only [PyData.bulk] using a5⟩
theorem Sm.list {n : Nat} (h : ∀ d ∈ ds, Sm b dep d) (l : ds.length ≤ n) : Sm (n * (b + 1)) (dep + 1) (.list ds) := (sm_lst h).mono (Nat.mul_le_mul_right _ l) (Nat.le_refl _)
theorem Sm.tuple {n : Nat} (h : ∀ d ∈ ds, Sm b dep d) (l : ds.length ≤ n) : Sm (n * (b + 1)) (dep + 1) (.tuple ds) := (sm_tup h).mono (Nat.mul_le_mul_right _ l) (Nat.le_refl _)
theorem Sm.shaped (h : Sm b dep d) (hd : dep ≤ 64) : SeqAt.shaped d = true := by
  unfold SeqAt.shaped
  rw [h.lay, decide_eq_true (Nat.le_trans h.dp hd)]
  rfl
theorem Sm.fits (h : Sm b dep d) (hb : b ≤ 2 ^ 20) : d.shown.length ≤ sizeLine := PyData.shown_fits_bulk (by decide) (by decide) h.ls (Nat.le_trans h.bk hb)
variable {K : PySem.W.Frag} {H : Hp} {x y : V} {Q : VK}
theorem reprA (r : Dp K H x d) (h : Sm b dep d) (hd : dep ≤ 60 := by decide) (hb : b ≤ 2 ^ 20 := by decide) (q : Q (.str d.shown) H) : rRepr K [x] H Q :=
  ⟨x, d, rfl, r, h.sh, PyData.hasDict_of_canLay d h.lay, Nat.le_trans h.dp hd, h.fits hb, q⟩
end
/-! data of lists -/
def dI (ns : List Int) : PyData := .list (ns.map PyData.int)
def dR (rows : List (List Int)) : PyData := .list (rows.map dI)
def dE (e : Int × Int) : PyData := .tuple [.int e.1, .int e.2]
def dP (ps : List (Int × Int)) : PyData := .list (ps.map dE)
section
variable {K : PySem.W.Frag} {H : Hp} {a : Addr}
theorem dpAll_ints : ∀ ns : List Int, DpAll K H (iv ns) (ns.map PyData.int)
  | [] => .nil
  | n :: r => .cons (.int n) (dpAll_ints r)
theorem IsInts.dp {ns : List Int} (h : IsInts K H a ns) : Dp K H (.ref a) (dI ns) := .lst h (dpAll_ints ns)
theorem dpAll_refs {α : Type} (f : α → PyData) : ∀ rs : List (Addr × α), (∀ r ∈ rs, Dp K H (.ref r.1) (f r.2)) → DpAll K H (refs rs) ((vals rs).map f)
  | [], _ => .nil
  | r :: t, h => .cons (h r List.mem_cons_self) (dpAll_refs f t fun q hq => h q (List.mem_cons_of_mem _ hq))
theorem IsRows.dp {rows : List (List Int)} (h : IsRows K H a rows) : Dp K H (.ref a) (dR rows) := by
  obtain ⟨rs, rfl, h1, h2⟩ := h
  exact .lst h1 (dpAll_refs dI rs fun r hr => IsInts.dp (h2 r hr))
theorem IsPairs.dp {ps : List (Int × Int)} (h : IsPairs K H a ps) : Dp K H (.ref a) (dP ps) := by
  obtain ⟨ts, rfl, h1, h2⟩ := h
  exact .lst h1 (dpAll_refs dE ts fun r hr => .tup (h2 r hr) (.cons (.int _) (.cons (.int _) .nil)))
theorem sm_dI {ns : List Int} {n : Nat} (h : ∀ i ∈ ns, i.natAbs < 10 ^ 12) (l : ns.length ≤ n) : Sm n 1 (dI ns) :=
  (Sm.list (b := 0) (dep := 0) (n := n) (fun d hd => by obtain ⟨i, hi, rfl⟩ := List.mem_map.mp hd; exact sm_int (h i hi)) (by rw [List.length_map]; exact l)).mono (by omega) (Nat.le_refl _)
theorem sm_dR {rows : List (List Int)} {n m : Nat} (h : ∀ r ∈ rows, r.length ≤ n ∧ ∀ i ∈ r, i.natAbs < 10 ^ 12) (l : rows.length ≤ m) : Sm (m * (n + 1)) 2 (dR rows) :=
  Sm.list (fun d hd => by obtain ⟨r, hr, rfl⟩ := List.mem_map.mp hd; exact sm_dI (h r hr).2 (h r hr).1) (by rw [List.length_map]; exact l)
theorem sm_dE {e : Int × Int} (h1 : e.1.natAbs < 10 ^ 12) (h2 : e.2.natAbs < 10 ^ 12) : Sm 2 1 (dE e) :=
  Sm.tuple (b := 0) (dep := 0) (n := 2) (fun d hd => by
    rcases List.mem_cons.mp hd with rfl | hd
    · exact sm_int h1
    · rcases List.mem_cons.mp hd with rfl | hd
      · exact sm_int h2
      · cases hd) (Nat.le_refl _)
theorem sm_dP {ps : List (Int × Int)} {m : Nat} (h : ∀ e ∈ ps, e.1.natAbs < 10 ^ 12 ∧ e.2.natAbs < 10 ^ 12) (l : ps.length ≤ m) : Sm (m * 3) 2 (dP ps) :=
  Sm.list (fun d hd => by obtain ⟨r, hr, rfl⟩ := List.mem_map.mp hd; exact sm_dE (h r hr).1 (h r hr).2) (by rw [List.length_map]; exact l)
end
/-! membership -/
theorem inV_iv (x : Int) (ns : List Int) : inV (.int x) (iv ns) = decide (x ∈ ns) := by
  unfold inV iv
  rw [List.any_map]
  induction ns with
  | nil => simp
  | cons n r ih =>
    rw [List.any_cons, ih]
    have : ((fun y => eqV y (V.int x)) ∘ V.int) n = decide (n = x) := rfl
    rw [this]
    by_cases h : x = n
    · simp [h]
    · simp [h, Ne.symm h]
theorem iv_flat (ns : List Int) : (iv ns).all flatV = true := by
  unfold iv
  rw [List.all_map, List.all_eq_true]
  intro _ _
  rfl
end UN
namespace UN
open PySem PySem.Spec PyProof.Rows L2
theorem sl1 {x : V} : [x].length ≤ sizeLine := Nat.le_of_lt (sl_line' (by simp))
theorem sl2 {x y : V} : [x, y].length ≤ sizeLine := Nat.le_of_lt (sl_line' (by simp))
theorem sl3 {x y z : V} : [x, y, z].length ≤ sizeLine := Nat.le_of_lt (sl_line' (by simp))
end UN
namespace UN
open PySem PySem.Spec PyProof.Rows L2
theorem dVI (i j : Int) : decide (V.int i = V.int j) = decide (i = j) := by simp
theorem dVS (i j : Str) : decide (V.str i = V.str j) = decide (i = j) := by simp
theorem dVB (i j : Bool) : decide (V.bl i = V.bl j) = decide (i = j) := by simp
end UN

namespace UN
open PySem PySem.Spec PyProof.Rows L2
/-! lists that are written at the end, whatever they hold -/
structure OwnR (H0 H : Hp) (L : Led) (as : List Addr) (b : Nat) : Prop where
  loc : Loc H0 H L
  rows : ∀ a ∈ as, (∀ q ∈ L, q.1 ≠ a) ∧ H0 a = none ∧ ∃ ys, H a = some (.lst ys) ∧ ys.length ≤ b
section
variable {H0 H H1 : Hp} {L : Led} {as : List Addr} {b b' : Nat} {a p : Addr} {o o' : HO}
theorem OwnR.of {rs : List (Addr × List Int)} (l : Loc H0 H (L ++ rowL rs)) (h : ∀ r ∈ rs, r.2.length ≤ b) : OwnR H0 H L (rs.map Prod.fst) b := by
  refine ⟨l.keep (List.sublist_append_left _ _), fun a ha => ?_⟩
  obtain ⟨r, hr, rfl⟩ := List.mem_map.mp ha
  have mem : ((r.1, .lst (iv r.2)) : Addr × HO) ∈ rowL rs := List.mem_map.mpr ⟨r, hr, rfl⟩
  refine ⟨fun q hq e => ?_, l.new _ (List.mem_append_right _ mem), iv r.2, l.here _ (List.mem_append_right _ mem), by rw [iv_len]; exact h r hr⟩
  have nd := l.nd
  rw [List.map_append, List.nodup_append] at nd
  exact nd.2.2 _ (List.mem_map.mpr ⟨q, hq, rfl⟩) _ (List.mem_map.mpr ⟨_, mem, rfl⟩) e
theorem OwnR.app (h : OwnR H0 H L as b) (ha : a ∈ as) {ys : List V} {x : V} (hy : H a = some (.lst ys)) (hl : ys.length ≤ b) : OwnR H0 (upd H a (.lst (ys ++ [x]))) L as (b + 1) := by
  obtain ⟨h1, h2, _⟩ := h.rows a ha
  refine ⟨⟨fun c u e => ?_, fun q hq => ?_, h.loc.new, h.loc.nd⟩, fun c hc => ?_⟩
  · rw [upd_ne (ne_of_none e h2)]; exact h.loc.same c u e
  · rw [upd_ne (h1 q hq)]; exact h.loc.here q hq
  · obtain ⟨g1, g2, ys', g3, g4⟩ := h.rows c hc
    refine ⟨g1, g2, ?_⟩
    by_cases e : c = a
    · subst e
      exact ⟨_, upd_same, by rw [List.length_append]; simp; omega⟩
    · exact ⟨ys', by rw [upd_ne e]; exact g3, by omega⟩
end
/-- two turned -/
def turn2 {α : Type} : List α → List α
  | [a, b] => [b, a]
  | l => l
theorem turn2_vals {zs : List V} {ws : List Value} (h : Vals zs ws) : Vals (turn2 zs) (turn2 ws) := by
  cases h with
  | nil => exact .nil
  | cons h1 h2 =>
    cases h2 with
    | nil => exact .cons h1 .nil
    | cons h3 h4 =>
      cases h4 with
      | nil => exact .cons h3 (.cons h1 .nil)
      | cons h5 h6 => exact .cons h1 (.cons h3 (.cons h5 h6))
theorem two_of {α : Type} {l : List α} (h : l.length = 2) : ∃ a b, l = [a, b] := by
  match l, h with
  | [a, b], _ => exact ⟨a, b, rfl⟩
section
variable {K : PySem.W.Frag} {H : Hp} {a e : Addr} {x y : V} {d d' : PyData} {b c dep dep' : Nat}
theorem dp_two (h : SqL K H e [x, y]) (hx : Dp K H x d) (hy : Dp K H y d') : Dp K H (.ref e) (.list [d, d']) := .lst h (.cons hx (.cons hy .nil))
theorem sm_two (h : Sm b dep d) (h' : Sm b dep d') : Sm (2 * (b + 1)) (dep + 1) (.list [d, d']) := Sm.list (fun z hz => by
  rcases List.mem_cons.mp hz with rfl | hz
  · exact h
  · rcases List.mem_cons.mp hz with rfl | hz
    · exact h'
    · cases hz) (Nat.le_refl _)
end
/-- what repr asks of small data, and what goes on -/
theorem smQ {b dep : Nat} {d : PyData} {R : Prop} (h : Sm b dep d) (hd : dep ≤ 60) (hb : b ≤ 2 ^ 20) (q : R) : d.showable = true ∧ d.hasDict = false ∧ d.depth ≤ 60 ∧ d.shown.length ≤ sizeLine ∧ R :=
  ⟨h.sh, PyData.hasDict_of_canLay d h.lay, Nat.le_trans h.dp hd, h.fits hb, q⟩
theorem cut_to {xs : List V} {k : Nat} : cutV xs none (some (k : Int)) = xs.take k := by
  have e1 : HT.sIx xs.length 0 none = 0 := rfl
  have e2 : HT.sIx xs.length xs.length (some (k : Int)) = min k xs.length := HT.sIx_nat _ _ _
  unfold cutV
  rw [e1, e2, List.drop_zero, Nat.sub_zero]
  by_cases h : k ≤ xs.length
  · rw [Nat.min_eq_left h]
  · rw [Nat.min_eq_right (by omega), List.take_length, List.take_of_length_le (by omega)]
/-! list.count of flat values -/
theorem cnt_eqU {x : V} : ∀ {xs : List V} {us : List Value}, Vals xs us → xs.all flatV = true → us.countP (eqU x) = xs.countP fun y => eqV y x
  | _, _, .nil, _ => rfl
  | y :: xs, u :: us, .cons r t, f => by
    rw [List.all_cons, Bool.and_eq_true] at f
    rw [List.countP_cons, List.countP_cons, eqU_of r f.1, cnt_eqU t f.2]
def rCntV (K : PySem.W.Frag) : V → List V → Hp → VK → Prop := fun x xs H Q => ∃ (p : Addr) (y : V) (ys : List V), x = .ref p ∧ xs = [y] ∧ SqL K H p ys ∧ flatV y = true ∧ ys.all flatV = true ∧ Q (.int (ys.countP fun z => eqV z y : Nat)) H
theorem mt_lcountV {X : Cx} (K : PySem.W.Frag) (hK : X.K = K) : MtR X "list.count" (rCntV K) := by
  cases hK
  intro pins s σ H x xs v us Q J rx rxs h
  obtain ⟨p, y, ys, rfl, rfl, hs, fy, fys, q⟩ := h
  cases rx
  obtain ⟨u, rfl, ru⟩ := rxs.one
  obtain ⟨its, rv, ⟨⟨cls, dd, data, sl⟩, n, ho, hc, hdn, hd⟩, hlen⟩ := J.list hs
  simp only at hc hd
  subst hc hd
  refine call_meets PySem.F.slot_list_count ⟨_, ho, rfl⟩ PySem.F.entry_list_count (PySem.F.args_list_count_2 _ _)
    (SeqAt.list_countAt p its.toArray n dd sl u (eqU y)) ⟨ho, fun z hz => mem_eqAt ru fy rv fys z (by simpa using hz), ?_⟩
  have ec : its.toArray.toList.countP (eqU y) = ys.countP fun z => eqV z y := cnt_eqU rv fys
  refine ⟨.int (ys.countP fun z => eqV z y : Nat), H, J.tok _, ⟨s.toks, ?_⟩, q⟩
  show Value.int ((its.toArray.toList.countP (eqU y) : Nat) : Int) s.toks = _
  rw [ec]
end UN

namespace UN
open PySem PySem.Spec PyProof.Rows L2
section
variable {H0 H : Hp} {A B : Led} {a : Addr} {o o' : HO}
theorem Loc.mid (l : Loc H0 H (A ++ (a, o) :: B)) : Loc H0 (upd H a o') (A ++ (a, o') :: B) :=
  ((l.perm (M := (a, o) :: (A ++ B)) List.perm_middle.symm).put0 (o' := o')).perm List.perm_middle
/-- a row in a ledger's tail grows -/
theorem Loc.rowGrowP {rs : List (Addr × List Int)} {k : Nat} {row : List Int} {z : Int} {r : Addr} (l : Loc H0 H (A ++ rowL rs)) (h : rs[k]? = some (r, row)) :
    Loc H0 (upd H r (.lst (iv row ++ [.int z]))) (A ++ rowL (rs.set k (r, row ++ [z]))) := by
  have hk : k < (rowL rs).length := by unfold rowL; rw [List.length_map]; exact (List.getElem?_eq_some_iff.mp h).1
  have l2 := l.setIx (i := A.length + k) (a := r) (o := .lst (iv row)) (o' := .lst (iv row ++ [.int z])) (by
    rw [List.getElem?_append_right (by omega), Nat.add_sub_cancel_left]; exact rowL_get h)
  rw [List.set_append_right _ _ (by omega), Nat.add_sub_cancel_left, ← iv_snoc, ← rowL_set] at l2
  rw [← iv_snoc]
  exact l2
theorem Loc.rowAt {rs : List (Addr × List Int)} {k : Nat} {row : List Int} {r : Addr} (l : Loc H0 H (A ++ rowL rs)) (h : rs[k]? = some (r, row)) : H r = some (.lst (iv row)) :=
  l.here (r, .lst (iv row)) (List.mem_append_right _ (List.mem_of_getElem? (rowL_get h)))
end
theorem at_lastI {w : List Int} (h : w ≠ []) : atI (iv w) (-1) = some (.int (w.getLastD 0)) := by
  have e : iv w = iv w.dropLast ++ [.int (w.getLastD 0)] := by
    have e1 : w = w.dropLast ++ [w.getLastD 0] := by
      rw [List.getLastD_eq_getLast?, List.getLast?_eq_getLast h]
      exact (List.dropLast_concat_getLast h).symm
    calc iv w = iv (w.dropLast ++ [w.getLastD 0]) := by rw [← e1]
      _ = _ := iv_snoc _ _
  rw [e]
  exact atI_last _ _
theorem ixI {n : Nat} {k : Int} (h0 : 0 ≤ k) (h : k.toNat < n) : ixN n k = some k.toNat := by
  unfold ixN
  rw [if_pos h0, if_pos (by omega)]
/-- rows with a None behind, up to the place i -/
def rowN (i : Nat) (rs : List (Addr × List Int)) : Led := (rs.take i).map (fun q => (q.1, HO.lst (iv q.2 ++ [.non]))) ++ rowL (rs.drop i)
theorem rowN_zero (rs : List (Addr × List Int)) : rowN 0 rs = rowL rs := rfl
theorem Loc.rowNon {H0 H : Hp} {A : Led} {rs : List (Addr × List Int)} {i : Nat} {r : Addr} {row : List Int} (l : Loc H0 H (A ++ rowN i rs)) (h : rs[i]? = some (r, row)) :
    H r = some (.lst (iv row)) ∧ Loc H0 (upd H r (.lst (iv row ++ [.non]))) (A ++ rowN (i + 1) rs) := by
  obtain ⟨hi, e⟩ := List.getElem?_eq_some_iff.mp h
  have ed : rs.drop i = (r, row) :: rs.drop (i + 1) := by rw [List.drop_eq_getElem_cons hi, e]
  have et : rs.take (i + 1) = rs.take i ++ [(r, row)] := by rw [List.take_add_one, h]; rfl
  have e1 : A ++ rowN i rs = (A ++ (rs.take i).map (fun q => (q.1, HO.lst (iv q.2 ++ [.non])))) ++ (r, .lst (iv row)) :: rowL (rs.drop (i + 1)) := by
    unfold rowN
    rw [ed, List.append_assoc]
    rfl
  have e2 : A ++ rowN (i + 1) rs = (A ++ (rs.take i).map (fun q => (q.1, HO.lst (iv q.2 ++ [.non])))) ++ (r, .lst (iv row ++ [.non])) :: rowL (rs.drop (i + 1)) := by
    unfold rowN
    rw [et, List.map_append, List.append_assoc, List.append_assoc]
    rfl
  rw [e1] at l
  refine ⟨l.here (r, .lst (iv row)) (List.mem_append_right _ List.mem_cons_self), ?_⟩
  rw [e2]
  exact l.mid
theorem rowN_at {H0 H : Hp} {A : Led} {rs : List (Addr × List Int)} {q : Addr × List Int} (l : Loc H0 H (A ++ rowN rs.length rs)) (h : q ∈ rs) : H q.1 = some (.lst (iv q.2 ++ [.non])) := by
  refine l.here (q.1, .lst (iv q.2 ++ [.non])) (List.mem_append_right _ (List.mem_append_left _ (List.mem_map.mpr ⟨q, ?_, rfl⟩)))
  rw [List.take_length]
  exact h
theorem cnt_non (ns : List Int) : (iv ns ++ [V.non]).countP (fun z => eqV z .non) = 1 := by
  rw [List.countP_append]
  have : (iv ns).countP (fun z => eqV z .non) = 0 := by
    unfold iv
    rw [List.countP_map, List.countP_eq_zero]
    intro n _
    simp [Function.comp, eqV]
  rw [this]
  rfl
theorem flat_non (ns : List Int) : (iv ns ++ [V.non]).all flatV = true := by
  rw [List.all_append, iv_flat]
  rfl
/-! data of pairs -/
theorem shaped_dP (ps : List (Int × Int)) : SeqAt.shaped (dP ps) = true := by
  have h1 : ∀ ns : List (Int × Int), PyData.canLayAll0 (ns.map dE) = true := fun ns => by
    induction ns with
    | nil => rfl
    | cons n r ih => simp [PyData.canLayAll0, PyData.canLay0, dE, ih]
  have h2 : ∀ ns : List (Int × Int), PyData.depthAll (ns.map dE) ≤ 1 := fun ns => by
    induction ns with
    | nil => exact Nat.zero_le _
    | cons n r ih => simp [PyData.depthAll, PyData.depth, dE]; omega
  unfold SeqAt.shaped dP
  have := h2 ps
  simp [PyData.canLay0, PyData.depth, h1]
  omega
theorem shaped_dE (e : Int × Int) : SeqAt.shaped (dE e) = true := by
  unfold SeqAt.shaped dE
  simp [PyData.canLay0, PyData.canLayAll0, PyData.depth, PyData.depthAll]
theorem eqv_dE (e f : Int × Int) : PyData.eqv (dE e) (dE f) = decide (e = f) := by
  obtain ⟨a, b⟩ := e
  obtain ⟨c, d⟩ := f
  simp [dE, PyData.eqv, PyData.eqvAll, Prod.ext_iff]
  rfl
theorem eqv_dP_nil (ps : List (Int × Int)) : PyData.eqv (dP ps) (dP []) = decide (ps = []) := by
  cases ps with
  | nil => simp [dP, PyData.eqv, PyData.eqvAll]
  | cons n r => simp [dP, PyData.eqv, PyData.eqvAll]
theorem any_dE (e : Int × Int) (ps : List (Int × Int)) : ((ps.map dE).any fun z => PyData.eqv z (dE e)) = decide (e ∈ ps) := by
  rw [List.any_map]
  induction ps with
  | nil => simp
  | cons f r ih =>
    rw [List.any_cons, ih]
    have : ((fun z => PyData.eqv z (dE e)) ∘ dE) f = decide (f = e) := eqv_dE f e
    rw [this]
    by_cases h : e = f
    · simp [h]
    · simp [h, Ne.symm h]
theorem IsPairs.cut {K : PySem.W.Frag} {H : Hp} {a p : Addr} {ps : List (Int × Int)} (h : IsPairs K H a ps) (i : Nat) : ∃ xs, SqL K H a xs ∧ xs.length = ps.length ∧ ∀ H', Same H H' → SqL K H' p (xs.take i) → IsPairs K H' p (ps.take i) := by
  obtain ⟨ts, rfl, h1, h2⟩ := h
  refine ⟨refs ts, h1, by rw [refs_len, vals_len], fun H' sm hs => ⟨ts.take i, List.map_take, ?_, fun t ht => Same.sqT sm (h2 t (List.mem_of_mem_take ht))⟩⟩
  have e : (refs ts).take i = refs (ts.take i) := List.map_take.symm
  rw [← e]
  exact hs
theorem shaped_dI (ns : List Int) : SeqAt.shaped (dI ns) = true := by
  have h1 : ∀ ns : List Int, PyData.canLayAll0 (ns.map PyData.int) = true := fun ns => by
    induction ns with
    | nil => rfl
    | cons n r ih => simp [PyData.canLayAll0, PyData.canLay0, ih]
  have h2 : ∀ ns : List Int, PyData.depthAll (ns.map PyData.int) = 0 := fun ns => by
    induction ns with
    | nil => rfl
    | cons n r ih => simp [PyData.depthAll, PyData.depth, ih]
  unfold SeqAt.shaped dI
  simp [PyData.canLay0, PyData.depth, h1, h2]
theorem eqv_dI_nil (ns : List Int) : PyData.eqv (dI ns) (dI []) = decide (ns = []) := by
  cases ns with
  | nil => simp [dI, PyData.eqv, PyData.eqvAll]
  | cons n r => simp [dI, PyData.eqv, PyData.eqvAll]
section
variable {K : PySem.W.Frag} {H : Hp} {e : Addr} {x y z : V} {d d' d'' : PyData} {b dep : Nat}
theorem dp_three (h : SqL K H e [x, y, z]) (hx : Dp K H x d) (hy : Dp K H y d') (hz : Dp K H z d'') : Dp K H (.ref e) (.list [d, d', d'']) := .lst h (.cons hx (.cons hy (.cons hz .nil)))
theorem sm_three (h : Sm b dep d) (h' : Sm b dep d') (h'' : Sm b dep d'') : Sm (3 * (b + 1)) (dep + 1) (.list [d, d', d'']) := Sm.list (fun z hz => by
  rcases List.mem_cons.mp hz with rfl | hz
  · exact h
  · rcases List.mem_cons.mp hz with rfl | hz
    · exact h'
    · rcases List.mem_cons.mp hz with rfl | hz
      · exact h''
      · cases hz) (Nat.le_refl _)
end
theorem refs_app {α : Type} (a b : List (Addr × α)) : refs (a ++ b) = refs a ++ refs b := List.map_append ..
theorem rowL_app (a b : List (Addr × List Int)) : rowL (a ++ b) = rowL a ++ rowL b := List.map_append ..
end UN

namespace UN
open PySem PySem.Spec PyProof.Rows L2
theorem lay_dI (ns : List Int) : (dI ns).canLay0 = true ∧ (dI ns).depth ≤ 1 := by
  have h := shaped_dI ns
  unfold SeqAt.shaped at h
  rw [Bool.and_eq_true] at h
  refine ⟨h.1, ?_⟩
  have h2 : ∀ ns : List Int, PyData.depthAll (ns.map PyData.int) = 0 := fun ns => by
    induction ns with
    | nil => rfl
    | cons n r ih => simp [PyData.depthAll, PyData.depth, ih]
  unfold dI
  simp only [PyData.depth, h2]
  omega
theorem shaped_dR (rs : List (List Int)) : SeqAt.shaped (dR rs) = true := by
  have h1 : ∀ ns : List (List Int), PyData.canLayAll0 (ns.map dI) = true := fun ns => by
    induction ns with
    | nil => rfl
    | cons n r ih => simp [PyData.canLayAll0, (lay_dI n).1, ih]
  have h2 : ∀ ns : List (List Int), PyData.depthAll (ns.map dI) ≤ 1 := fun ns => by
    induction ns with
    | nil => exact Nat.zero_le _
    | cons n r ih =>
      have := (lay_dI n).2
      simp only [List.map_cons, PyData.depthAll]
      omega
  unfold SeqAt.shaped dR
  have := h2 rs
  simp [PyData.canLay0, PyData.depth, h1]
  omega
theorem eqvAll_ints : ∀ a b : List Int, PyData.eqvAll (a.map PyData.int) (b.map PyData.int) = decide (a = b)
  | [], [] => by simp [PyData.eqvAll]
  | [], _ :: _ => by simp [PyData.eqvAll]
  | _ :: _, [] => by simp [PyData.eqvAll]
  | x :: a, y :: b => by
    have ih := eqvAll_ints a b
    have e : PyData.eqvAll ((x :: a).map PyData.int) ((y :: b).map PyData.int) = (PyData.eqv (.int x) (.int y) && PyData.eqvAll (a.map PyData.int) (b.map PyData.int)) := by simp [PyData.eqvAll]
    have e2 : PyData.eqv (.int x) (.int y) = decide (x = y) := by simp [PyData.eqv]; rfl
    rw [e, e2, ih]
    simp [List.cons.injEq]
theorem eqv_dI (a b : List Int) : PyData.eqv (dI a) (dI b) = decide (a = b) := by
  have : PyData.eqv (dI a) (dI b) = PyData.eqvAll (a.map PyData.int) (b.map PyData.int) := by simp [dI, PyData.eqv]
  rw [this, eqvAll_ints]
theorem eqvAll_rows : ∀ a b : List (List Int), PyData.eqvAll (a.map dI) (b.map dI) = decide (a = b)
  | [], [] => by simp [PyData.eqvAll]
  | [], _ :: _ => by simp [PyData.eqvAll]
  | _ :: _, [] => by simp [PyData.eqvAll]
  | x :: a, y :: b => by
    have ih := eqvAll_rows a b
    have e : PyData.eqvAll ((x :: a).map dI) ((y :: b).map dI) = (PyData.eqv (dI x) (dI y) && PyData.eqvAll (a.map dI) (b.map dI)) := by simp [PyData.eqvAll]
    rw [e, eqv_dI, ih]
    simp [List.cons.injEq]
theorem eqv_dR (a b : List (List Int)) : PyData.eqv (dR a) (dR b) = decide (a = b) := by
  have : PyData.eqv (dR a) (dR b) = PyData.eqvAll (a.map dI) (b.map dI) := by simp [dR, PyData.eqv]
  rw [this, eqvAll_rows]
theorem cut_from {xs : List V} {k : Nat} : cutV xs (some (k : Int)) none = xs.drop k := by
  have e1 : HT.sIx xs.length xs.length none = xs.length := rfl
  have e2 : HT.sIx xs.length 0 (some (k : Int)) = min k xs.length := HT.sIx_nat _ _ _
  unfold cutV
  rw [e1, e2]
  by_cases h : k ≤ xs.length
  · rw [Nat.min_eq_left h, List.take_of_length_le (by rw [List.length_drop]; omega)]
  · rw [Nat.min_eq_right (by omega), List.drop_of_length_le (Nat.le_refl _), List.drop_of_length_le (by omega), List.take_nil]
theorem cut_last {xs : List V} : cutV xs none (some (-1)) = xs.dropLast := by
  have e1 : HT.sIx xs.length 0 none = 0 := rfl
  have e2 : HT.sIx xs.length xs.length (some (-1)) = xs.length - 1 := by
    show (if (-1 : Int) < 0 then ((-1 : Int) + (xs.length : Int)).toNat else min (-1 : Int).toNat xs.length) = _
    rw [if_pos (by decide)]
    omega
  unfold cutV
  rw [e1, e2, List.drop_zero, Nat.sub_zero, List.dropLast_eq_take]
/-- three turned -/
def turn3 {α : Type} : List α → List α
  | [a, b, c] => [c, b, a]
  | l => l
theorem turn3_vals {zs : List V} {ws : List Value} (h : Vals zs ws) : Vals (turn3 zs) (turn3 ws) := by
  cases h with
  | nil => exact .nil
  | cons h1 h2 =>
    cases h2 with
    | nil => exact .cons h1 .nil
    | cons h3 h4 =>
      cases h4 with
      | nil => exact .cons h1 (.cons h3 .nil)
      | cons h5 h6 =>
        cases h6 with
        | nil => exact .cons h5 (.cons h3 (.cons h1 .nil))
        | cons h7 h8 => exact .cons h1 (.cons h3 (.cons h5 (.cons h7 h8)))
end UN

namespace UN
open PySem PySem.Spec PyProof.Rows L2
/-! sorted lists of tuples of ints (any number of ints, fewer than 64 tuples) -/
theorem perm_lift {α β : Type} (f : α → β) : ∀ {ks : List α} {l : List β}, l.Perm (ks.map f) → ∃ ks' : List α, ks'.Perm ks ∧ ks'.map f = l
  | [], l, h => ⟨[], List.Perm.refl _, by rw [List.map_nil] at h; rw [h.eq_nil]; rfl⟩
  | k :: ks, l, h => by
    have hm : f k ∈ l := h.mem_iff.mpr (by simp)
    obtain ⟨l1, l2, rfl⟩ := List.append_of_mem hm
    have h2 : (l1 ++ l2).Perm (ks.map f) := by
      have h3 : (f k :: (l1 ++ l2)).Perm (f k :: ks.map f) := (List.perm_middle.symm).trans h
      exact h3.cons_inv
    obtain ⟨ks', p, e⟩ := perm_lift f h2
    obtain ⟨a, b, rfl, e1, e2⟩ := List.map_eq_append_iff.mp e
    refine ⟨a ++ k :: b, List.perm_middle.trans (p.cons k), ?_⟩
    rw [List.map_append, List.map_cons, e1, e2]
def rSortedTL (K : PySem.W.Frag) : List V → Hp → VK → Prop := fun vs H Q => ∃ (a : Addr) (ks : List (Addr × List Int)) (d : Nat) (B : Int), vs = [V.ref a] ∧ SqL K H a (refs ks) ∧ (∀ p ∈ ks, SqT K H p.1 (iv p.2)) ∧ ks.length < 64 ∧ 1 ≤ d ∧ (∀ p ∈ ks, p.2.length = d ∧ TS.Bd B p.2) ∧
  ∀ (ks' : List (Addr × List Int)) (p : Addr), ks'.Perm ks → ks'.Pairwise (fun q r => TS.code B q.2 ≤ TS.code B r.2) → H p = none → Q (.ref p) (upd H p (.lst (refs ks')))
theorem vals_refs' {α : Type} : ∀ (ks : List (Addr × α)) {us : List Value}, Vals (refs ks) us → us = ks.map fun q => Value.ref q.1
  | [], _, h => by cases h; rfl
  | k :: r, _, h => by
    cases h with
    | cons h1 h2 =>
      cases h1
      rw [vals_refs' r h2]
      rfl
theorem refs_vals {α : Type} : ∀ ks : List (Addr × α), Vals (refs ks) (ks.map fun q => Value.ref q.1)
  | [] => .nil
  | _ :: r => .cons rfl (refs_vals r)
theorem cr_sortedTLK {X : Cx} (K : PySem.W.Frag) (hK : X.K = K) : CallR X (.builtin "sorted") (rSortedTL K) := by
  cases hK
  intro pins s σ H vs us Q J r h
  obtain ⟨a, ks, d, B, rfl, hs, hk, hf, hd, hB, q⟩ := h
  obtain ⟨its, rv, hl, hz⟩ := J.list hs
  obtain ⟨u, rfl, ru⟩ := vals1 r
  obtain rfl : u = Value.ref a := ru
  have e1 := vals_refs' ks rv
  subst e1
  have ti : ∀ p ∈ ks, TS.TupInts s.heap (.ref p.1) p.2 := fun p hp => tupInts_of (J.isT (hk p hp))
  refine TS.sorted_tups (d := d) (B := B) (vs := ks.map fun q => Value.ref q.1) hl.isList (by rw [List.length_map]; exact hf) hd (fun v hv => ?_) fun out h1 h2 => ?_
  · obtain ⟨p, hp, rfl⟩ := List.mem_map.mp hv
    exact ⟨p.2, ti p hp, (hB p hp).1, (hB p hp).2⟩
  · obtain ⟨ks', pm, e⟩ := perm_lift (fun q : Addr × List Int => Value.ref q.1) h1
    have pw : ks'.Pairwise (fun q r => TS.code B q.2 ≤ TS.code B r.2) := by
      rw [← e] at h2
      refine List.Pairwise.imp_of_mem (fun {x y} hx hy hle => ?_) (List.pairwise_map.mp h2)
      have f1 := (ti x (pm.mem_iff.mp hx)).ints
      have f2 := (ti y (pm.mem_iff.mp hy)).ints
      rw [← f1, ← f2]
      exact hle
    have hn : H (s.heap.objs.size + 1) = none := J.hok.fresh (Nat.le_succ _)
    have ho : out = (ks'.map fun q => Value.ref q.1).toArray := by rw [e]
    refine ⟨.ref (s.heap.objs.size + 1), upd H (s.heap.objs.size + 1) (.lst (refs ks')), J.laid (t' := s.toks) (fun b o e => sortedAll_old e) (Nat.le_succ _) ⟨?_, ks'.map fun q => Value.ref q.1, ?_⟩, rfl, q ks' _ pm pw hn⟩
    · rw [refs_len, pm.length_eq]
      exact Nat.le_of_lt (sl_line' (by omega))
    · obtain ⟨n, hn2⟩ := sortedAll_at s.heap (ks.map fun q => Value.ref q.1) out
      refine ⟨n, refs_vals ks', ?_⟩
      rw [← ho]
      exact hn2
/-- a comprehension over enumerate of a list that stays -/
theorem lc_enum {K : PySem.W.Frag} {a : Addr} {xs : List V} {g : TG} {tt : TT} {te : TE} {vs : List Nat} {σ : L2.St} {H1 : Hp} {D : Addr} {Qd : Hp → Prop} (Pv : Nat → Hp → Prop) (h0 : Pv 0 (upd H1 D (.lst []))) (hl : ∀ i H, Pv i H → SqL K H a xs)
    (hs : ∀ i x H T, xs[i]? = some x → Pv i H → H T = none → g (.ref T) (wipe σ vs) (upd H T (.tup [.int (i : Nat), x])) fun σ2 H2 => wipe σ2 vs = wipe σ vs ∧ tt σ2 H2 fun b H3 =>
      if b = true then te σ2 H3 fun y H4 => ∃ acc, H4 D = some (.lst acc) ∧ acc.length < sizeLine ∧ Pv (i + 1) (upd H4 D (.lst (acc ++ [y]))) else Pv (i + 1) H3) (hd : ∀ H, Pv xs.length H → Qd H) :
    ∃ W : Nat → Nat → Hp → Prop, (∃ m, W 0 m (upd H1 D (.lst []))) ∧ ∀ i m H, W i m H →
      ((Ite K a).stop i H ∧ Qd H) ∨ ((Ite K a).go i H ∧ ∃ Nx : Hp → Prop, (∀ H', Nx H' → ∃ m', m' < m ∧ W (i + 1) m' H') ∧ ∀ x H', (Ite K a).yld i H x H' → g x (wipe σ vs) H' fun σ2 H2 => wipe σ2 vs = wipe σ vs ∧ tt σ2 H2 fun b H3 =>
        if b = true then te σ2 H3 fun y H4 => ∃ acc, H4 D = some (.lst acc) ∧ acc.length < sizeLine ∧ Nx (upd H4 D (.lst (acc ++ [y]))) else Nx H3) := by
  refine lc_n xs.length Pv h0 (fun i H hi p => ?_) fun H p => ⟨⟨xs, hl _ _ p, Nat.le_refl _⟩, hd _ p⟩
  have q := hl _ _ p
  refine ⟨⟨xs, xs[i], q, by simp [hi]⟩, ?_⟩
  rintro x H' ⟨T, y, rfl, nT, rfl, f⟩
  exact hs i y H T (f xs q) p nT
end UN

namespace UN
open PySem PySem.Spec PyProof.Rows L2
/-! sum of a list of lists, from an empty list -/
theorem args_sum2U (a b : Value) : argsOk "sum" ⟨[a, b], []⟩ := by unfold argsOk; kernel_rfl
theorem sub_lsU : isSubtype (.type "list") (.type "str") = pure false := by rw [isSubtype_type]; kernel_rfl
theorem sub_lbU : isSubtype (.type "list") (.type "bytes") = pure false := by rw [isSubtype_type]; kernel_rfl
theorem sub_lyU : isSubtype (.type "list") (.type "bytearray") = pure false := by rw [isSubtype_type]; kernel_rfl
def flatK {α : Type} (rv : Nat → List α) (i : Nat) : Nat → List α
  | 0 => []
  | k + 1 => rv i ++ flatK rv (i + 1) k
section
variable {prog : Program} {w : World} {A : Around} {R : Result → Shared → Prop} {I ax S : Addr} {items : Array Value}
theorem sum_loopL (hh : A.in1.handled = none) (hne : ax ≠ I) (ra : Nat → Addr) (rv : Nat → List Value) (hval : ∀ (i : Nat) (v : Value), items[i]? = some v → v = .ref (ra i)) (hSI : S ≠ I) (hSa : S ≠ ax) :
    ∀ (k i : Nat) (s : Shared) (T : Addr) (cur : List Value) (m c : Nat), items.size - i = k → i ≤ items.size → s.heap.IsListIter I ax i → s.heap.IsList ax items →
      s.heap.get? S = some { cls := .type "list", dict := none, data := .seq #[.ref T] c, slots := #[] } →
      s.heap.get? T = some { cls := .type "list", data := .seq cur.toArray m } → T ≠ I → T ≠ S →
      (∀ j, i ≤ j → j < items.size → ra j ≠ I ∧ ra j ≠ S ∧ ∃ m, s.heap.get? (ra j) = some { cls := .type "list", data := .seq (rv j).toArray m }) →
      cur.length + (flatK rv i k).length ≤ sizeLine →
      (∀ h' tk T' m', (∀ b o, b ≠ I → b ≠ S → s.heap.get? b = some o → h'.get? b = some o) → T' ≠ I → T' ≠ S → ((i = items.size ∧ T' = T) ∨ (i < items.size ∧ s.heap.get? T' = none)) →
        h'.get? T' = some { cls := .type "list", data := .seq (cur ++ flatK rv i k).toArray m' } → R (.ok (.ret (.ref T'))) { s with heap := h', toks := tk }) →
      codeAny (model prog w) A (.builtin "sum.loop" ⟨[.ref I, .ref S, rawInt 2, rawInt 0], []⟩) R s := by
  have W := Walks.list (prog := prog) (w := w) (A := A.in1) hh I ax hne items
  intro k
  induction k with
  | zero =>
    intro i s T cur m c hk hi hit hax hS hT hTI hTS hrow hz hR
    have hin : i = items.size := by omega
    subst hin
    refine codeAny_builtin F.entry_sum_loop ?_
    rw [Around.under_plainId F.plain_sum_loop _]
    show wpAny _ A.in1 (seqItems? (.ref S) >>= _) _ _ s
    refine wpAny_bind (wpAny_seqItems hS rfl ?_)
    show wpAny _ A.in1 (tryCatch (pyNext (.ref I)) _ >>= _) _ _ s
    refine wpAny_bind (wpAny_tryCatch (W.done s _ _ ⟨hit, hax⟩ fun h' tk hk' => ?_))
    refine wpAny_pure (hR h' tk T m (fun b o hb1 _ e => hk' b o (by simp [hb1]) e) hTI hTS (.inl ⟨rfl, rfl⟩) ?_)
    have e := hk' T _ (by simp [hTI]) hT
    simpa [flatK] using e
  | succ k ih =>
    intro i s T cur m c hk hi hit hax hS hT hTI hTS hrow hz hR
    have hlt : i < items.size := by omega
    refine codeAny_builtin F.entry_sum_loop ?_
    rw [Around.under_plainId F.plain_sum_loop _]
    show wpAny _ A.in1 (seqItems? (.ref S) >>= _) _ _ s
    refine wpAny_bind (wpAny_seqItems hS rfl ?_)
    show wpAny _ A.in1 (tryCatch (pyNext (.ref I)) _ >>= _) _ _ s
    refine wpAny_bind (wpAny_tryCatch (W.item i s _ _ hlt ⟨hit, hax⟩ fun v h' tk hP hst' hk' => ?_))
    have ev := hval i v hP
    subst ev
    obtain ⟨hrI, hrS, m2, hr⟩ := hrow i (Nat.le_refl _) hlt
    have kept : ∀ b o, b ≠ I → s.heap.get? b = some o → h'.get? b = some o := fun b o hb e => hk' b o (by simp [hb]) e
    have hS' := kept S _ hSI hS
    have hT' := kept T _ hTI hT
    have hr' := kept (ra i) _ hrI hr
    simp only [flatK, List.length_append] at hz
    show wpAny _ A.in1 ((holding [Value.ref (ra i)] (binaryOp .Add (.ref T) (.ref (ra i)))).attempt >>= _) _ _ _
    refine wpAny_bind (wpAny_attempt (wpAny_holding (PySem.P.add_list hT' hr' ?_ (by rw [List.size_toArray, List.size_toArray]; omega))))
    have np : h'.get? h'.objs.size = none := by
      cases q : h'.get? h'.objs.size with
      | none => rfl
      | some o => exact absurd (Heap.lt_size q) (Nat.lt_irrefl _)
    obtain ⟨hit', hax'⟩ := hst'
    have npI : h'.objs.size ≠ I := fun e => by
      obtain ⟨o, ho, _⟩ := hit'
      rw [← e, np] at ho
      cases ho
    have npS : h'.objs.size ≠ S := fun e => by rw [← e, np] at hS'; cases hS'
    have hS1 := Heap.get?_push_of_some { cls := .type "list", data := .seq (cur.toArray ++ (rv i).toArray) } hS'
    show wpAny _ A.in1 (updateSeq S (fun _ => #[.ref h'.objs.size]) >>= _) _ _ _
    refine wpAny_bind ?_
    refine wpAny_updateSeq hS1 rfl ?_
    have hS2 := Heap.get?_update_self (Obj.mapSeq fun _ => #[Value.ref h'.objs.size]) hS1 rfl
    refine wpAny_bind (wpAny_letGo ?_)
    refine wpAny_bind ?_
    refine wpAny_updateSeq hS2 rfl (wpAny_pure ⟨plainId_quiet F.plain_sum_loop _, ?_⟩)
    have up : ∀ b o, b ≠ S → h'.get? b = some o → (((h'.push { cls := .type "list", data := .seq (cur.toArray ++ (rv i).toArray) }).update S (Obj.mapSeq fun _ => #[Value.ref h'.objs.size])).update S (Obj.mapSeq fun _ => #[Value.ref h'.objs.size])).get? b = some o := fun b o hb e =>
      (Heap.get?_update_other _ _ (Ne.symm hb)).trans ((Heap.get?_update_other _ _ (Ne.symm hb)).trans (Heap.get?_push_of_some _ e))
    refine ih (i + 1) _ h'.objs.size (cur ++ rv i) 0 _ (by omega) hlt ?_ ?_ (Heap.get?_update_self _ hS2 rfl) ?_ npI npS ?_ ?_ ?_
    · exact hit'.at fun o e => up I o hSI.symm e
    · exact hax'.at fun o e => up ax o hSa.symm e
    · refine ((Heap.get?_update_other _ _ (Ne.symm npS)).trans ((Heap.get?_update_other _ _ (Ne.symm npS)).trans (Heap.get?_push_size _ rfl))).trans ?_
      simp
    · intro j hj hj2
      obtain ⟨a1, a2, m3, a3⟩ := hrow j (by omega) hj2
      exact ⟨a1, a2, m3, up _ _ a2 (kept _ _ a1 a3)⟩
    · rw [List.length_append]; omega
    · intro h'' tk'' T' m' hk'' tI tS hfr hg
      refine hR h'' tk'' T' m' (fun b o hb1 hb2 e => hk'' b o hb1 hb2 (up b o hb2 (kept b o hb1 e))) tI tS (.inr ⟨hlt, ?_⟩) (by simpa [flatK] using hg)
      cases q : s.heap.get? T' with
      | none => rfl
      | some o =>
        have q1 := kept T' o tI q
        have q2 := up T' o tS q1
        rcases hfr with ⟨_, e⟩ | ⟨_, e⟩
        · rw [e, np] at q1; cases q1
        · rw [e] at q2; cases q2
end
section
variable {prog : Program} {w : World} {A : Around} {E : Value → Shared → Prop} {s : Shared} {l e : Addr} {items : Array Value}
theorem call_sumL {Q : Value → Shared → Prop} {m0 : Nat} (hh : A.handled = none) (hl : s.heap.IsList l items) (he : s.heap.get? e = some { cls := .type "list", data := .seq #[] m0 })
    (ra : Nat → Addr) (rv : Nat → List Value) (hval : ∀ (i : Nat) (v : Value), items[i]? = some v → v = .ref (ra i)) (hrow : ∀ j, j < items.size → ∃ m, s.heap.get? (ra j) = some { cls := .type "list", data := .seq (rv j).toArray m })
    (hz : (flatK rv 0 items.size).length ≤ sizeLine)
    (h : ∀ h' tk T' m', (∀ b o, s.heap.get? b = some o → h'.get? b = some o) → ((items.size = 0 ∧ T' = e) ∨ (0 < items.size ∧ s.heap.get? T' = none)) →
      h'.get? T' = some { cls := .type "list", data := .seq (flatK rv 0 items.size).toArray m' } → Q (.ref T') { s with heap := h', toks := tk }) :
    wpAny (model prog w) A (call (.builtin "sum") [.ref l, .ref e]) Q E s := by
  refine call_function_tree F.kind_sum F.plain_sum F.entry_sum (args_sum2U _ _) ?_
  unfold Builtin.«sum»
  simp only [List.length_cons, List.length_nil]
  rw [if_neg (by decide)]
  refine wpAny_bind (wpAny_of_eq (show Builtin.Builtins.bindParams "sum" ["start"] 0 ⟨[.ref e], []⟩ = pure [some (.ref e)] from rfl) ?_)
  have hlt : l < s.heap.objs.size := by obtain ⟨_, q, _⟩ := hl; exact Heap.lt_size q
  have elt : e < s.heap.objs.size := Heap.lt_size he
  refine wpAny_bind (wpAny_pyIter_list hl ?_)
  refine wpAny_bind (wpAny_pure ?_)
  simp only [List.forIn_cons, List.forIn_nil]
  have he1 := Heap.get?_push_of_some { cls := .type "list_iterator", data := .fields #[.ref l, .int 0 0] } he
  have ty : ({ s with heap := s.heap.push { cls := .type "list_iterator", data := .fields #[.ref l, .int 0 0] } } : Shared).TypeIs (.ref e) "list" := ⟨_, he1, rfl⟩
  refine wpAny_bind (wpAny_bind (wpAny_bind (wpAny_isInstance (T := "list") (b := false) ty sub_lsU ?_)))
  simp only [Bool.false_eq_true, if_false]
  refine wpAny_pure (wpAny_bind (wpAny_bind (wpAny_isInstance (T := "list") (b := false) ty sub_lbU ?_)))
  simp only [Bool.false_eq_true, if_false]
  refine wpAny_pure (wpAny_bind (wpAny_bind (wpAny_isInstance (T := "list") (b := false) ty sub_lyU ?_)))
  simp only [Bool.false_eq_true, if_false]
  refine wpAny_pure (wpAny_pure ?_)
  refine wpAny_bind (wpAny_newObj_type ?_)
  have sz : (s.heap.push { cls := .type "list_iterator", data := .fields #[.ref l, .int 0 0] }).objs.size = s.heap.objs.size + 1 := Heap.size_push ..
  have up : ∀ b o, s.heap.get? b = some o → ((s.heap.push { cls := .type "list_iterator", data := .fields #[.ref l, .int 0 0] }).push { cls := .type "list", data := .seq #[.ref e] }).get? b = some o := fun b o q => Heap.get?_push_of_some _ (Heap.get?_push_of_some _ q)
  have nI : s.heap.get? s.heap.objs.size = none := by
    cases q : s.heap.get? s.heap.objs.size with
    | none => rfl
    | some o => exact absurd (Heap.lt_size q) (Nat.lt_irrefl _)
  have nS : s.heap.get? (s.heap.push { cls := .type "list_iterator", data := .fields #[.ref l, .int 0 0] }).objs.size = none := by
    cases q : s.heap.get? (s.heap.push { cls := .type "list_iterator", data := .fields #[.ref l, .int 0 0] }).objs.size with
    | none => rfl
    | some o => exact absurd (Nat.lt_of_lt_of_le (Nat.lt_succ_self _) (Nat.le_of_lt (sz ▸ Heap.lt_size q))) (Nat.lt_irrefl _)
  have neI : ∀ b o, s.heap.get? b = some o → b ≠ s.heap.objs.size := fun b o q z => by rw [z, nI] at q; cases q
  have neS : ∀ b o, s.heap.get? b = some o → b ≠ (s.heap.push { cls := .type "list_iterator", data := .fields #[.ref l, .int 0 0] }).objs.size := fun b o q z => by rw [z, nS] at q; cases q
  refine wpAny_pure ⟨plainId_quiet F.plain_sum_loop _, sum_loopL (I := s.heap.objs.size) (ax := l) (items := items) hh (Nat.ne_of_lt hlt) ra rv hval (fun z => Nat.succ_ne_self _ (sz.symm.trans z)) (fun z => by obtain ⟨_, q, _⟩ := hl; exact neS _ _ q z.symm) items.size 0 _ e [] m0 0 rfl (Nat.zero_le _)
    ⟨_, Heap.get?_push_of_some _ (Heap.get?_push_size _ rfl), rfl, rfl⟩ ?_ (Heap.get?_push_size _ rfl) (up e _ he) (neI e _ he) (neS e _ he) ?_ (by simpa using hz) ?_⟩
  · exact hl.at fun o q => up l o q
  · intro j _ hj
    obtain ⟨m, q⟩ := hrow j hj
    exact ⟨neI _ _ q, neS _ _ q, m, up _ _ q⟩
  · intro h' tk T' m' hk tI tS hfr hg
    refine h h' tk T' m' (fun b o q => hk b o (neI b o q) (neS b o q) (up b o q)) ?_ (by simpa using hg)
    rcases hfr with ⟨a, b⟩ | ⟨a, b⟩
    · exact .inl ⟨a.symm, b⟩
    · refine .inr ⟨a, ?_⟩
      cases q : s.heap.get? T' with
      | none => rfl
      | some o => rw [up T' o q] at b; cases b
end
theorem flatK_eq {α : Type} (rs : List (List α)) : ∀ (i : Nat) (k : Nat), i + k = rs.length → flatK (fun j => rs.getD j []) i k = (rs.drop i).flatten
  | i, 0, h => by rw [List.drop_of_length_le (by omega)]; rfl
  | i, k + 1, h => by
    have hi : i < rs.length := by omega
    rw [List.drop_eq_getElem_cons hi, List.flatten_cons]
    show rs.getD i [] ++ flatK _ (i + 1) k = _
    rw [flatK_eq rs (i + 1) k (by omega)]
    simp [List.getD_eq_getElem?_getD, List.getElem?_eq_getElem hi]
/-- sum(rows, []): the rows' own lists stand in the heap -/
def rSumL (K : PySem.W.Frag) : List V → Hp → VK → Prop := fun vs H Q => ∃ (a e : Addr) (rs : List (Addr × List V)), vs = [.ref a, .ref e] ∧ SqL K H a (refs rs) ∧ (∀ r ∈ rs, H r.1 = some (.lst r.2)) ∧ H e = some (.lst []) ∧ (vals rs).flatten.length ≤ sizeLine ∧
  (rs = [] → Q (.ref e) H) ∧ (rs ≠ [] → ∀ p, H p = none → Q (.ref p) (upd H p (.lst (vals rs).flatten)))
theorem cr_sumLK {X : Cx} (K : PySem.W.Frag) (hK : X.K = K) (hc : X.calm = true) : CallR X (.builtin "sum") (rSumL K) := by
  cases hK
  intro pins s σ H vs us Q J r h
  obtain ⟨a, e, rs, rfl, hs, hr, he, hz, q0, q1⟩ := h
  obtain ⟨its, rv, hl, hlen⟩ := J.list hs
  obtain rfl : us = [.ref a, .ref e] := by
    cases r with
    | cons h1 h2 =>
      cases h1
      cases h2 with
      | cons h3 h4 => cases h3; cases h4; rfl
  have e1 := vals_refs' rs rv
  subst e1
  obtain ⟨_, ite, ne, re, eln, ge⟩ := J.lstM he
  obtain rfl : ite = [] := List.eq_nil_of_length_eq_zero (by rw [← eln]; rfl)
  have rows : ∀ r ∈ rs, ∃ (its : List Value) (n : Nat), Vals r.2 its ∧ s.heap.get? r.1 = some { cls := .type "list", data := .seq its.toArray n } := fun r hr' => by
    obtain ⟨_, its, n, h1, _, h2⟩ := J.lstM (hr r hr')
    exact ⟨its, n, h1, h2⟩
  -- the rows' values, one by one
  have ch : ∃ vv : List (List Value), vv.length = rs.length ∧ ∀ (j : Nat) (q : Addr × List V), rs[j]? = some q → ∃ (its : List Value) (n : Nat), vv[j]? = some its ∧ Vals q.2 its ∧ s.heap.get? q.1 = some { cls := .type "list", data := .seq its.toArray n } := by
    clear hs hl rv hz q0 q1 hlen
    induction rs with
    | nil => exact ⟨[], rfl, fun j q h => by simp at h⟩
    | cons r t ih =>
      obtain ⟨vv, h1, h2⟩ := ih (fun x hx => hr x (List.mem_cons_of_mem _ hx)) (fun x hx => rows x (List.mem_cons_of_mem _ hx))
      obtain ⟨its, n, g1, g2⟩ := rows r List.mem_cons_self
      refine ⟨its :: vv, by simp [h1], fun j q hj => ?_⟩
      cases j with
      | zero => cases hj; exact ⟨its, n, rfl, g1, g2⟩
      | succ j => exact h2 j q hj
  obtain ⟨vv, vl, vq⟩ := ch
  have fl : Vals (vals rs).flatten vv.flatten := by
    clear hs hl rv hz q0 q1 hlen hr rows
    induction rs generalizing vv with
    | nil => cases vv with
      | nil => exact .nil
      | cons x y => cases vl
    | cons r t ih =>
      cases vv with
      | nil => cases vl
      | cons x y =>
        obtain ⟨its, n, a1, a2, _⟩ := vq 0 r rfl
        cases a1
        exact a2.append (ih y (by simpa using vl) fun j q hj => vq (j + 1) q hj)
  have isz : ((rs.map fun q => Value.ref q.1).toArray).size = rs.length := by simp
  have fK : flatK (fun j => vv.getD j []) 0 ((rs.map fun q => Value.ref q.1).toArray).size = vv.flatten := by
    rw [isz, flatK_eq vv 0 rs.length (by omega)]; rfl
  refine call_sumL (J.ok.hd hc) hl.isList ge (fun j => (rs.getD j (0, [])).1) (fun j => vv.getD j []) (fun i v hv => ?_) (fun j hj => ?_) (by rw [fK, ← fl.length]; exact hz) fun h' tk T' m' hk hfr hg => ?_
  · simp only [List.getElem?_toArray, List.getElem?_map, Option.map_eq_some_iff] at hv
    obtain ⟨q, hq, rfl⟩ := hv
    simp [List.getD_eq_getElem?_getD, hq]
  · rw [isz] at hj
    obtain ⟨its, n, b1, _, b2⟩ := vq j _ (List.getElem?_eq_getElem hj)
    refine ⟨n, ?_⟩
    simp only [List.getD_eq_getElem?_getD, List.getElem?_eq_getElem hj, b1, Option.getD_some]
    exact b2
  · rw [isz] at hfr
    rw [fK] at hg
    rcases hfr with ⟨z, rfl⟩ | ⟨z, hn⟩
    · obtain rfl : rs = [] := List.eq_nil_of_length_eq_zero z
      exact ⟨.ref _, H, J.kept (t' := tk) hk, rfl, q0 rfl⟩
    · have hn2 : H T' = none := J.hok.gone hn
      refine ⟨.ref T', upd H T' (.lst (vals rs).flatten), J.laidN (t' := tk) hk hn hn2 ⟨hz, vv.flatten, m', fl, hg⟩, rfl, q1 (fun e => by subst e; cases z) T' hn2⟩
theorem pi_zipK {X : Cx} (K : PySem.W.Frag) (hK : X.K = K) {e e2 : Expr} {ta : TA} {p pos tpos : Pos} {elts : List Expr} {kk : Nat} (hg : Gl X "zip") (hm : X.mg "zip" = none) (ha : PA X [e, e2] ta)
    (hs : starEach [e, e2] X.env = (false, eval e X.env) :: starEach [e2] X.env := by rfl) (hpl : (backTo pos (starEach [e2] X.env)).any (·.1) = false := by rfl) :
    PI X (.Tuple elts kk tpos) (.Call (.Name "zip" p) [e, e2] [] pos) (iZip K ta) := hK ▸ pi_zip hg hm ha hs hpl
theorem mt_indexDK {X : Cx} (K : PySem.W.Frag) (hK : X.K = K) (hu : X.A.units + 65 < cLine) : MtR X "list.index" (rIndexD K) := hK ▸ mt_indexD hu
theorem pe_lenSetIK {X : Cx} (K : PySem.W.Frag) (hK : X.K = K) {a : Expr} {ta : TE} {p p2 q pos : Pos} (hc : X.calm = true) (hg : Gl X "len") (hm : X.mg "len" = none) (hg2 : Gl X "set") (hm2 : X.mg "set" = none) (ha : PE X a ta)
    (na : starEach [a] X.env = (false, eval a X.env) :: starEach [] X.env := by rfl) : PE X (.Call (.Name "len" p) [.Call (.Name "set" p2) [a] [] q] [] pos) (tLenSetI K ta) := hK ▸ pe_lenSetI hc hg hm hg2 hm2 ha na
/-- what stood stands beside a new object -/
theorem sA {H : Hp} {p : Addr} {o : HO} (hp : H p = none) : Same H (upd H p o) := ((Loc.refl H).alloc hp).same
end UN

namespace UN
open PySem PySem.Spec PyProof.Rows L2
def topS (i : Nat) : Stmt := PySem.Challenge.pw_unnoted_k15_whole_turns.main.body.getD i (.Pass ⟨0, 0, 0, 0⟩)
/-- the neighbours of a cell in the order of a log -/
def nbraw (web : List (Int × Int)) (k : Int) : List Int := web.flatMap fun e => (if e.1 = k then [e.2] else []) ++ (if e.2 = k then [e.1] else [])
def nbrows (n : Nat) (web : List (Int × Int)) : List (List Int) := (List.range (n + 1)).map fun (k : Nat) => nbraw web k
def nbs (n : Nat) (web : List (Int × Int)) : List (List Int) := (nbrows n web).map srt
def ValidL (n : Nat) (web : List (Int × Int)) : Prop := ∀ e ∈ web, 1 ≤ e.1 ∧ e.1 < e.2 ∧ e.2 ≤ n
theorem take_snoc {α : Type} {l : List α} {i : Nat} {x : α} (h : l[i]? = some x) : l.take (i + 1) = l.take i ++ [x] := by
  rw [List.take_add_one, h]; rfl
theorem nbrows_len (n : Nat) (web : List (Int × Int)) : (nbrows n web).length = n + 1 := by simp [nbrows]
theorem nbrows_get (n : Nat) (web : List (Int × Int)) (k : Nat) (hk : k ≤ n) : (nbrows n web)[k]? = some (nbraw web k) := by
  unfold nbrows
  rw [List.getElem?_map, List.getElem?_range (by omega)]
  rfl
/-- one exchange more -/
theorem nbrows_snoc {n : Nat} {web : List (Int × Int)} {a b : Nat} (ha : a ≤ n) (hb : b ≤ n) (ne : a ≠ b) :
    nbrows n (web ++ [((a : Int), (b : Int))]) = ((nbrows n web).set a (nbraw web a ++ [(b : Int)])).set b (nbraw web b ++ [(a : Int)]) := by
  refine List.ext_getElem? fun j => ?_
  by_cases hj : j ≤ n
  · rw [nbrows_get _ _ _ hj, List.getElem?_set, List.getElem?_set]
    have e : nbraw (web ++ [((a : Int), (b : Int))]) j = nbraw web j ++ ((if a = j then [(b : Int)] else []) ++ (if b = j then [(a : Int)] else [])) := by
      unfold nbraw
      rw [List.flatMap_append]
      simp [Int.ofNat_inj]
    rw [e]
    simp only [List.length_set, nbrows_len]
    by_cases h1 : b = j
    · subst h1
      have h2 : b < n + 1 := by omega
      simp [h2, ne]
    · by_cases h2 : a = j
      · subst h2
        have h3 : a < n + 1 := by omega
        simp [h1, h3]
      · rw [if_neg h1, if_neg h2, nbrows_get _ _ _ hj]
        simp [h1, h2]
  · rw [List.getElem?_eq_none (by rw [nbrows_len]; omega), List.getElem?_eq_none (by rw [List.length_set, List.length_set, nbrows_len]; omega)]
theorem nbraw_len (web : List (Int × Int)) (k : Int) : (nbraw web k).length ≤ 2 * web.length := by
  induction web with
  | nil => exact Nat.le_refl _
  | cons e r ih =>
    have : nbraw (e :: r) k = ((if e.1 = k then [e.2] else []) ++ (if e.2 = k then [e.1] else [])) ++ nbraw r k := rfl
    rw [this, List.length_append, List.length_append, List.length_cons]
    have h1 : (if e.1 = k then [e.2] else []).length ≤ 1 := by split <;> simp
    have h2 : (if e.2 = k then [e.1] else []).length ≤ 1 := by split <;> simp
    omega
/-- a web: exchanges, ascending -/
def ltP (p q : Int × Int) : Prop := p.1 < q.1 ∨ (p.1 = q.1 ∧ p.2 < q.2)
def ValidW (n : Nat) (web : List (Int × Int)) : Prop := ValidL n web ∧ web.Pairwise ltP

/-! ### things that are exchanged -/
def swp (e : Int × Int) (x : Int) : Int := if x = e.1 then e.2 else if x = e.2 then e.1 else x
theorem swp_swp (e : Int × Int) (x : Int) : swp e (swp e x) = x := by
  unfold swp
  split <;> split <;> (try split) <;> omega
def loc (log : List (Int × Int)) (t : Int) : Int := log.foldl (fun x e => swp e x) t
def ivr (log : List (Int × Int)) (c : Int) : Int := log.foldr (fun e x => swp e x) c
theorem loc_snoc (l : List (Int × Int)) (e : Int × Int) (t : Int) : loc (l ++ [e]) t = swp e (loc l t) := by unfold loc; rw [List.foldl_append]; rfl
theorem ivr_snoc (l : List (Int × Int)) (e : Int × Int) (c : Int) : ivr (l ++ [e]) c = ivr l (swp e c) := by unfold ivr; rw [List.foldr_append]; rfl
theorem loc_cons (l : List (Int × Int)) (e : Int × Int) (t : Int) : loc (e :: l) t = loc l (swp e t) := rfl
theorem ivr_cons (l : List (Int × Int)) (e : Int × Int) (c : Int) : ivr (e :: l) c = swp e (ivr l c) := rfl
theorem ivr_loc (l : List (Int × Int)) : ∀ t, ivr l (loc l t) = t := by
  induction l with
  | nil => intro t; rfl
  | cons e r ih => intro t; rw [ivr_cons, loc_cons, ih, swp_swp]
theorem loc_ivr (l : List (Int × Int)) : ∀ c, loc l (ivr l c) = c := by
  induction l with
  | nil => intro t; rfl
  | cons e r ih => intro t; rw [ivr_cons, loc_cons, swp_swp, ih]
theorem swp_in {n : Nat} {e : Int × Int} {x : Int} (h : 1 ≤ e.1 ∧ e.1 < e.2 ∧ e.2 ≤ n) (hx : 1 ≤ x ∧ x ≤ n) : 1 ≤ swp e x ∧ swp e x ≤ n := by
  unfold swp
  split
  · omega
  · split <;> omega
theorem ValidL.init {n : Nat} {l : List (Int × Int)} {e : Int × Int} (h : ValidL n (l ++ [e])) : ValidL n l ∧ 1 ≤ e.1 ∧ e.1 < e.2 ∧ e.2 ≤ n :=
  ⟨fun q hq => h q (List.mem_append_left _ hq), h e (List.mem_append_right _ (List.mem_singleton.mpr rfl))⟩
theorem loc_in {n : Nat} : ∀ {l : List (Int × Int)}, ValidL n l → ∀ t : Int, 1 ≤ t ∧ t ≤ n → 1 ≤ loc l t ∧ loc l t ≤ n
  | [], _, _, ht => ht
  | e :: r, hv, t, ht => by
    rw [loc_cons]
    exact loc_in (fun q hq => hv q (List.mem_cons_of_mem _ hq)) _ (swp_in (hv e List.mem_cons_self) ht)
theorem ivr_in {n : Nat} : ∀ {l : List (Int × Int)}, ValidL n l → ∀ t : Int, 1 ≤ t ∧ t ≤ n → 1 ≤ ivr l t ∧ ivr l t ≤ n
  | [], _, _, ht => ht
  | e :: r, hv, t, ht => by
    rw [ivr_cons]
    exact swp_in (hv e List.mem_cons_self) (ivr_in (fun q hq => hv q (List.mem_cons_of_mem _ hq)) _ ht)
theorem ivr_zero {n : Nat} : ∀ {l : List (Int × Int)}, ValidL n l → ivr l 0 = 0
  | [], _ => rfl
  | e :: r, hv => by
    rw [ivr_cons, ivr_zero (fun q hq => hv q (List.mem_cons_of_mem _ hq))]
    have := hv e List.mem_cons_self
    unfold swp
    split
    · omega
    · split
      · omega
      · rfl
/-! ### ways -/
def wayStep (e : Int × Int) (w : List Int) : List Int := if w.getLastD 0 = e.1 then w ++ [e.2] else if w.getLastD 0 = e.2 then w ++ [e.1] else w
def way (log : List (Int × Int)) (t : Int) : List Int := log.foldl (fun w e => wayStep e w) [t]
theorem way_snoc (l : List (Int × Int)) (e : Int × Int) (t : Int) : way (l ++ [e]) t = wayStep e (way l t) := by unfold way; rw [List.foldl_append]; rfl
theorem last_snoc (w : List Int) (x : Int) : (w ++ [x]).getLastD 0 = x := by rw [List.getLastD_eq_getLast?, List.getLast?_concat]; rfl
theorem snoc_ind {α : Type} {p : List α → Prop} (h0 : p []) (h1 : ∀ l e, p l → p (l ++ [e])) : ∀ l, p l := by
  intro l
  induction hl : l.length generalizing l with
  | zero => rw [List.length_eq_zero_iff.mp hl]; exact h0
  | succ n ih =>
    have ne : l ≠ [] := by intro z; rw [z] at hl; cases hl
    rw [← List.dropLast_concat_getLast ne]
    exact h1 _ _ (ih _ (by rw [List.length_dropLast, hl]; rfl))
theorem way_last (t : Int) : ∀ l : List (Int × Int), (way l t).getLastD 0 = loc l t := by
  refine snoc_ind rfl fun l e ih => ?_
  rw [way_snoc, loc_snoc, ← ih]
  unfold wayStep swp
  split
  · rw [last_snoc]
  · split
    · rw [last_snoc]
    · rfl
theorem way_ne (t : Int) : ∀ l : List (Int × Int), way l t ≠ [] := by
  refine snoc_ind (by intro z; cases z) fun l e ih => ?_
  rw [way_snoc]
  unfold wayStep
  split
  · simp
  · split
    · simp
    · exact ih
theorem way_len (t : Int) : ∀ l : List (Int × Int), (way l t).length ≤ l.length + 1 := by
  refine snoc_ind (Nat.le_refl _) fun l e ih => ?_
  rw [way_snoc, List.length_append, List.length_singleton]
  unfold wayStep
  split
  · rw [List.length_append, List.length_singleton]; omega
  · split
    · rw [List.length_append, List.length_singleton]; omega
    · omega
theorem way_in {n : Nat} (t : Int) (ht : 1 ≤ t ∧ t ≤ n) : ∀ l : List (Int × Int), ValidL n l → ∀ x ∈ way l t, 1 ≤ x ∧ x ≤ n := by
  refine snoc_ind (fun _ x hx => ?_) fun l e ih hv x hx => ?_
  · cases List.mem_singleton.mp hx; exact ht
  · have ⟨h1, h2⟩ := hv.init
    rw [way_snoc] at hx
    unfold wayStep at hx
    split at hx
    · rcases List.mem_append.mp hx with hx | hx
      · exact ih h1 x hx
      · cases List.mem_singleton.mp hx; omega
    · split at hx
      · rcases List.mem_append.mp hx with hx | hx
        · exact ih h1 x hx
        · cases List.mem_singleton.mp hx; omega
      · exact ih h1 x hx
/-! ### lists by place -/
def tab {α : Type} (n : Nat) (g : Nat → α) : List α := (List.range n).map g
section
variable {α : Type} {n : Nat} {g h : Nat → α}
theorem tab_len : (tab n g).length = n := by simp [tab]
theorem tab_get {j : Nat} (hj : j < n) : (tab n g)[j]? = some (g j) := by
  unfold tab
  rw [List.getElem?_map, List.getElem?_range hj]
  rfl
theorem tab_ext (e : ∀ j, j < n → g j = h j) : tab n g = tab n h := List.map_congr_left fun j hj => e j (List.mem_range.mp hj)
theorem tab_set {j : Nat} {x : α} : (tab n g).set j x = tab n fun m => if m = j then x else g m := by
  refine List.ext_getElem? fun i => ?_
  rw [List.getElem?_set]
  by_cases hi : i < n
  · rw [tab_get hi, tab_get hi, tab_len]
    by_cases e : j = i
    · subst e; rw [if_pos rfl, if_pos hi, if_pos rfl]
    · rw [if_neg e, if_neg (fun z => e z.symm)]
  · rw [List.getElem?_eq_none (l := tab n fun m => if m = j then x else g m) (by rw [tab_len]; omega), List.getElem?_eq_none (l := tab n g) (by rw [tab_len]; omega), tab_len]
    split
    · rw [if_neg (by omega)]
    · rfl
theorem tab_succ : tab (n + 1) g = tab n g ++ [g n] := by
  unfold tab
  rw [List.range_succ, List.map_append]
  rfl
theorem tab_mem {x : α} (hx : x ∈ tab n g) : ∃ j, j < n ∧ x = g j := by
  obtain ⟨j, hj, rfl⟩ := List.mem_map.mp hx
  exact ⟨j, List.mem_range.mp hj, rfl⟩
theorem of_tab {l : List α} (hl : l.length = n) (e : ∀ j, j < n → l[j]? = some (g j)) : l = tab n g := by
  refine List.ext_getElem? fun i => ?_
  by_cases hi : i < n
  · rw [e i hi, tab_get hi]
  · rw [List.getElem?_eq_none (by omega), List.getElem?_eq_none (by rw [tab_len]; omega)]
end
def waysL (n : Nat) (log : List (Int × Int)) : List (List Int) := tab n fun m => way log (m + 1)
def ordsL (n : Nat) (log : List (Int × Int)) : List (List Int) := tab n fun m => nbraw log (m + 1)
def endsL (n : Nat) (log : List (Int × Int)) : List Int := tab n fun m => loc log (m + 1)
def thgsL (n : Nat) (log : List (Int × Int)) : List Int := tab (n + 1) fun m => ivr log m
section
variable {n : Nat} {l : List (Int × Int)} {a b : Int}
/-- one exchange more: the rows of the two things in the cells grow -/
theorem ways_step (hv : ValidL n (l ++ [(a, b)])) : waysL n (l ++ [(a, b)]) =
    ((waysL n l).set (ivr l a - 1).toNat (way l (ivr l a) ++ [b])).set (ivr l b - 1).toNat (way l (ivr l b) ++ [a]) := by
  obtain ⟨h1, h2⟩ := hv.init
  simp only at h2
  have ia := ivr_in h1 a (by omega)
  have ib := ivr_in h1 b (by omega)
  unfold waysL
  rw [tab_set, tab_set]
  refine tab_ext fun j hj => ?_
  rw [way_snoc]
  unfold wayStep
  rw [way_last]
  have ka : loc l ((j : Int) + 1) = a ↔ (j : Int) + 1 = ivr l a := ⟨fun e => by rw [← e, ivr_loc], fun e => by rw [e, loc_ivr]⟩
  have kb : loc l ((j : Int) + 1) = b ↔ (j : Int) + 1 = ivr l b := ⟨fun e => by rw [← e, ivr_loc], fun e => by rw [e, loc_ivr]⟩
  have ne : ivr l a ≠ ivr l b := fun e => by
    have := loc_ivr l a
    rw [e, loc_ivr] at this
    omega
  simp only [ka, kb]
  by_cases e1 : (j : Int) + 1 = ivr l a
  · rw [if_pos e1, if_neg (by omega), if_pos (by omega), e1]
  · rw [if_neg e1]
    by_cases e2 : (j : Int) + 1 = ivr l b
    · rw [if_pos e2, if_pos (by omega), e2]
    · rw [if_neg e2, if_neg (by omega), if_neg (by omega)]
theorem thgs_step (hv : ValidL n (l ++ [(a, b)])) : thgsL n (l ++ [(a, b)]) = ((thgsL n l).set a.toNat (ivr l b)).set b.toNat (ivr l a) := by
  obtain ⟨h1, h2⟩ := hv.init
  simp only at h2
  unfold thgsL
  rw [tab_set, tab_set]
  refine tab_ext fun j hj => ?_
  rw [ivr_snoc]
  unfold swp
  by_cases e1 : (j : Int) = a
  · rw [if_pos e1, if_neg (by omega), if_pos (by omega)]
  · rw [if_neg e1]
    by_cases e2 : (j : Int) = b
    · rw [if_pos e2, if_pos (by omega)]
    · rw [if_neg e2, if_neg (by omega), if_neg (by omega)]
theorem nbraw_snoc (e : Int × Int) (k : Int) : nbraw (l ++ [e]) k = nbraw l k ++ ((if e.1 = k then [e.2] else []) ++ (if e.2 = k then [e.1] else [])) := by
  unfold nbraw
  rw [List.flatMap_append]
  simp
theorem ords_step (hv : ValidL n (l ++ [(a, b)])) : ordsL n (l ++ [(a, b)]) = ((ordsL n l).set (a - 1).toNat (nbraw l a ++ [b])).set (b - 1).toNat (nbraw l b ++ [a]) := by
  obtain ⟨h1, h2⟩ := hv.init
  simp only at h2
  unfold ordsL
  rw [tab_set, tab_set]
  refine tab_ext fun j hj => ?_
  rw [nbraw_snoc]
  by_cases e1 : a = (j : Int) + 1
  · rw [if_pos e1, if_neg (by omega : ¬ b = (j : Int) + 1), if_neg (by omega), if_pos (by omega), e1, List.append_nil]
  · rw [if_neg e1]
    by_cases e2 : b = (j : Int) + 1
    · rw [if_pos e2, if_pos (by omega), e2]; rfl
    · rw [if_neg e2, if_neg (by omega), if_neg (by omega)]; simp
end
theorem thgs_start (n : Nat) : rgV 0 ((n : Int) + 1) = iv (thgsL n []) := by
  unfold rgV iv thgsL tab
  rw [List.map_map]
  have e : ((n : Int) + 1 - 0).toNat = n + 1 := by omega
  rw [e]
  refine List.map_congr_left fun i _ => ?_
  show V.int (0 + (i : Nat)) = V.int i
  rw [Int.zero_add]

/-! ### turns -/
def mx (i j : Int) : Int := if j > i then j else i
def tstep (f : Int → Int) (e : Int × Int) : Int → Int := fun c => if c = e.1 ∨ c = e.2 then mx (f e.1) (f e.2) + 1 else f c
def lstT (log : List (Int × Int)) : Int → Int := log.foldl tstep fun _ => 0
def trnA (f : Int → Int) : List (Int × Int) → List Int
  | [] => []
  | e :: r => (mx (f e.1) (f e.2) + 1) :: trnA (tstep f e) r
def turnsL (log : List (Int × Int)) : List Int := trnA (fun _ => 0) log
theorem lstT_snoc (l : List (Int × Int)) (e : Int × Int) : lstT (l ++ [e]) = tstep (lstT l) e := by unfold lstT; rw [List.foldl_append]; rfl
theorem trnA_snoc (e : Int × Int) : ∀ (l : List (Int × Int)) (f : Int → Int), trnA f (l ++ [e]) = trnA f l ++ [mx (l.foldl tstep f e.1) (l.foldl tstep f e.2) + 1]
  | [], _ => rfl
  | d :: r, f => by
    show _ :: trnA (tstep f d) (r ++ [e]) = (_ :: trnA (tstep f d) r) ++ _
    rw [trnA_snoc e r, List.cons_append]
    rfl
theorem turnsL_snoc (l : List (Int × Int)) (e : Int × Int) : turnsL (l ++ [e]) = turnsL l ++ [mx (lstT l e.1) (lstT l e.2) + 1] := trnA_snoc e l _
theorem turnsL_len : ∀ l : List (Int × Int), (turnsL l).length = l.length := by
  refine snoc_ind rfl fun l e ih => ?_
  rw [turnsL_snoc, List.length_append, List.length_append, ih]
  rfl
theorem mx_ge (i j : Int) : i ≤ mx i j ∧ j ≤ mx i j := by unfold mx; split <;> omega
theorem mx_is (i j : Int) : mx i j = i ∨ mx i j = j := by unfold mx; split <;> simp
def has (e : Int × Int) (c : Int) : Prop := e.1 = c ∨ e.2 = c
/-- the last turn of a cell: the greatest turn of its exchanges -/
theorem lstT_max : ∀ (l : List (Int × Int)) (c : Int), 0 ≤ lstT l c ∧ (∀ (k : Nat) (e : Int × Int) (t : Int), l[k]? = some e → (turnsL l)[k]? = some t → has e c → t ≤ lstT l c) ∧ (lstT l c = 0 ∨ ∃ (k : Nat) (e : Int × Int) (t : Int), l[k]? = some e ∧ (turnsL l)[k]? = some t ∧ has e c ∧ t = lstT l c) := by
  refine snoc_ind (fun c => ⟨Int.le_refl _, fun k e t h => by simp at h, .inl rfl⟩) fun l e ih c => ?_
  rw [lstT_snoc, turnsL_snoc]
  have tl := turnsL_len l
  obtain ⟨i0, i1, i2⟩ := ih c
  have a0 := (ih e.1).1
  have b0 := (ih e.2).1
  have m := mx_ge (lstT l e.1) (lstT l e.2)
  have old : ∀ {k : Nat} {x : Int × Int} {t : Int}, (l ++ [e])[k]? = some x → (turnsL l ++ [mx (lstT l e.1) (lstT l e.2) + 1])[k]? = some t → (k < l.length ∧ l[k]? = some x ∧ (turnsL l)[k]? = some t) ∨ (k = l.length ∧ x = e ∧ t = mx (lstT l e.1) (lstT l e.2) + 1) := fun {k x t} h1 h2 => by
    by_cases hk : k < l.length
    · rw [List.getElem?_append_left hk] at h1
      rw [List.getElem?_append_left (by omega)] at h2
      exact .inl ⟨hk, h1, h2⟩
    · have hk2 : k < (l ++ [e]).length := (List.getElem?_eq_some_iff.mp h1).1
      rw [List.length_append, List.length_singleton] at hk2
      have ek : k = l.length := by omega
      subst ek
      refine .inr ⟨rfl, ?_, ?_⟩
      · rw [List.getElem?_append_right (Nat.le_refl _), Nat.sub_self] at h1
        simpa using h1.symm
      · rw [List.getElem?_append_right (by omega), tl, Nat.sub_self] at h2
        simpa using h2.symm
  have new : ∀ {k : Nat} {x : Int × Int} {t : Int}, l[k]? = some x → (turnsL l)[k]? = some t → (l ++ [e])[k]? = some x ∧ (turnsL l ++ [mx (lstT l e.1) (lstT l e.2) + 1])[k]? = some t := fun {k x t} h1 h2 => by
    have hk := (List.getElem?_eq_some_iff.mp h1).1
    exact ⟨by rw [List.getElem?_append_left hk]; exact h1, by rw [List.getElem?_append_left (by omega)]; exact h2⟩
  unfold tstep
  by_cases hc : c = e.1 ∨ c = e.2
  · rw [if_pos hc]
    have le : lstT l c ≤ mx (lstT l e.1) (lstT l e.2) := by rcases hc with rfl | rfl <;> omega
    refine ⟨by omega, fun k x t h1 h2 h3 => ?_, .inr ⟨l.length, e, _, ?_, ?_, hc.imp Eq.symm Eq.symm, rfl⟩⟩
    · rcases old h1 h2 with ⟨_, q1, q2⟩ | ⟨_, _, rfl⟩
      · have := i1 k x t q1 q2 h3; omega
      · omega
    · rw [List.getElem?_append_right (Nat.le_refl _), Nat.sub_self]; rfl
    · rw [List.getElem?_append_right (by omega), tl, Nat.sub_self]; rfl
  · rw [if_neg hc]
    refine ⟨i0, fun k x t h1 h2 h3 => ?_, ?_⟩
    · rcases old h1 h2 with ⟨_, q1, q2⟩ | ⟨_, rfl, _⟩
      · exact i1 k x t q1 q2 h3
      · exact absurd (h3.imp Eq.symm Eq.symm) hc
    · rcases i2 with h | ⟨k, x, t, h1, h2, h3, h4⟩
      · exact .inl h
      · exact .inr ⟨k, x, t, (new h1 h2).1, (new h1 h2).2, h3, h4⟩
theorem turnsL_le : ∀ l : List (Int × Int), (∀ t ∈ turnsL l, 1 ≤ t ∧ t ≤ l.length) ∧ ∀ c, lstT l c ≤ l.length := by
  refine snoc_ind ⟨(fun _ z => nomatch z), fun _ => Int.le_refl _⟩ (fun l e ih => ?_)
  obtain ⟨h1, h2⟩ := ih
  have a1 := h2 e.1
  have a2 := h2 e.2
  have a0 := (lstT_max l e.1).1
  have m := mx_is (lstT l e.1) (lstT l e.2)
  have g := mx_ge (lstT l e.1) (lstT l e.2)
  rw [turnsL_snoc, lstT_snoc, List.length_append, List.length_singleton]
  refine ⟨fun t ht => ?_, fun c => ?_⟩
  · rcases List.mem_append.mp ht with ht | ht
    · have := h1 t ht; omega
    · cases List.mem_singleton.mp ht; omega
  · unfold tstep
    split
    · omega
    · have := h2 c; omega
def lastL (n : Nat) (log : List (Int × Int)) : List Int := tab (n + 1) fun m => lstT log m
theorem last_step {n : Nat} {l : List (Int × Int)} {a b : Int} (hv : ValidL n (l ++ [(a, b)])) : lastL n (l ++ [(a, b)]) = ((lastL n l).set a.toNat (mx (lstT l a) (lstT l b) + 1)).set b.toNat (mx (lstT l a) (lstT l b) + 1) := by
  obtain ⟨h1, h2⟩ := hv.init
  simp only at h2
  unfold lastL
  rw [tab_set, tab_set, lstT_snoc]
  refine tab_ext fun j hj => ?_
  unfold tstep
  simp only
  by_cases e1 : (j : Int) = a
  · rw [if_pos (.inl e1), if_neg (by omega), if_pos (by omega)]
  · by_cases e2 : (j : Int) = b
    · rw [if_pos (.inr e2), if_pos (by omega)]
    · rw [if_neg (by omega), if_neg (by omega), if_neg (by omega)]

abbrev s__law_turns : Stmt := topS 21
theorem sc__law_turns : FnScope ["_law_made", "_law_told", "_law_at", "_law_pair", "_law_some", "_law_k"] ["_law_made"] (defScope s__law_turns) := ⟨rfl, rfl, rfl, by decide +kernel, rfl, by decide +kernel, by decide +kernel⟩
section
variable {P : Program} {w : World} {K : PySem.W.Frag} {mg : Str → Option Value} {base : Heap}
def sp__law_turns (K : PySem.W.Frag) : Sp := fun vs H Q _ => ∃ (a : Addr) (log : List (Int × Int)), vs = [.ref a] ∧ log.length ≤ 1000 ∧ IsPairs K H a log ∧ ∀ H' p, Loc H H' [(p, .lst (iv (turnsL log)))] → Q (.ref p) H'
theorem ok__law_turns {f : Addr} {fd : FuncData} {k : Nat} (F : Fun K "_law_turns" "_law_turns" s__law_turns f fd) (z_enumerate : mg "enumerate" = none) (z_range : mg "range" = none) (z_max : mg "max" = none) : FG P w K mg base CX0 (k + 1) f fd ["_law_made"] (sp__law_turns K) := by
  refine fg_fun F sc__law_turns (fun vs H Q E h => ?_) (fun cdv A out s H vs Q E hr hg h => ?_)
  · obtain ⟨a, log, rfl, _⟩ := h
    rfl
  · obtain ⟨a, log, rfl, hl, hp, q⟩ := h
    refine ⟨_, (pss_cons (ps_set (i := 1) sc__law_turns.nd rfl (.inr rfl) (pe_lst pa_nil))
      (pss_cons (ps_for PassesOwn.never rfl (pi_enumK K rfl (by rfl) z_enumerate (pa_cons (pv 0) pa_nil)) (pg_tupK K rfl rfl (pgs_cons (pg_name (i := 2) sc__law_turns.nd rfl (.inl rfl)) (pgs_cons (pg_name (i := 3) sc__law_turns.nd rfl (.inr rfl)) pgs_nil)))
        (pss_cons (ps_setLc (i := 4) (own := [("_law_k", 5)]) rfl sc__law_turns.nd rfl rfl (sw_true rfl rfl rfl (by decide +kernel)) (pi_range1 (by rfl) z_range (pa_cons (pv 2) pa_nil)) (blkOk_by (N := ["_law_made", "_law_told", "_law_at", "_law_pair", "_law_some", "_law_k"]) (sc := defScope s__law_turns) (by decide +kernel)) (fun _ _ _ _ _ => (pg_name (i := 5) sc__law_turns.nd rfl (Or.inl rfl))) (fun _ _ _ _ _ => (pts_one (PW.pt (pw_or (pt_cmpR (op_in_seqK K rfl) (pe_ix (ix_tupK K rfl) (pe_ix (ix_listK K rfl) (pv 0) (pv 5) (fun _ _ => rfl)) pe_int (fun _ _ => rfl)) (pv 3) (by rfl)) (pw_or1 (pt_cmpR (op_in_seqK K rfl) (pe_ix (ix_tupK K rfl) (pe_ix (ix_listK K rfl) (pv 0) (pv 5) (fun _ _ => rfl)) pe_int (fun _ _ => rfl)) (pv 3) (by rfl))))))) (fun _ _ _ _ _ => (pe_ix (ix_listK K rfl) (pv 1) (pv 5) (fun _ _ => rfl))))
          (pss_one (ps_expr (pe_bmK K rfl PySem.F.plainAttrs_list PySem.F.slot_list_append PySem.F.type_list_append mt_append (pv 1) (pa_cons (pe_op op_add (pe_callB (cr_maxK K rfl rfl) (by rfl) z_max bt_max (pa_cons (pe_op op_cat (pe_lst (pa_cons pe_int pa_nil)) (pv 4)) pa_nil)) pe_int) pa_nil))))))
      (pss_one (ps_ret (pv 1))))), ?_⟩
    obtain ⟨ts, ets, hts, htt⟩ := hp
    refine ⟨by decide, fun t ht => ?_⟩
    have l0 := (Loc.refl H).alloc (o := .lst []) ht
    refine ⟨_, rfl, a, refs ts, rfl, l0.same.seq hts, for_enum (K := K) (a := a) (xs := refs ts)
      (fun i σ H2 => ∃ y2 y3 y4 : Option V, σ = [some (.ref a), some (.ref t), y2, y3, y4, none] ∧ Loc H H2 [(t, .lst (iv (turnsL (log.take i))))]) ⟨none, none, none, rfl, l0⟩ ?_ ?_ ?_⟩
    · rintro i σ H2 ⟨_, _, _, _, l⟩
      exact l.same.seq hts
    · rintro i x σ H2 T hx ⟨y2, y3, y4, rfl, l⟩ hT
      obtain ⟨⟨b, x1, x2⟩, hq, rfl⟩ := refs_inv hx
      have hwi : log[i]? = some (x1, x2) := by
        rw [← ets]; unfold vals; rw [List.getElem?_map, hq]; rfl
      have hi : i < log.length := (List.getElem?_eq_some_iff.mp hwi).1
      have l1 := (l.alloc (o := .tup [.int (i : Nat), .ref b]) hT).drop1
      have tlen : (turnsL (log.take i)).length = i := by rw [turnsL_len, List.length_take]; omega
      refine ⟨T, _, rfl, .inl (.inl upd_same), rfl, _, _, rfl, _, _, rfl, rfl, ?_⟩
      revert l1
      generalize upd H2 T (.tup [.int (i : Nat), .ref b]) = H3
      intro l1
      have hb := Same.sqT l1.same (htt _ (List.mem_of_getElem? hq))
      refine ⟨_, rfl, _, rfl, by omega, by omega, fun D hD => lc_range (lo := 0) (n := ((i : Nat) : Int).toNat)
        (fun j H4 => ∃ ss : List Int, ss.length ≤ j ∧ (∀ z ∈ ss, ∃ (m : Nat) (e : Int × Int), (log.take i)[m]? = some e ∧ (turnsL (log.take i))[m]? = some z ∧ (has e x1 ∨ has e x2)) ∧
          (∀ (m : Nat) (e : Int × Int) (z : Int), m < j → (log.take i)[m]? = some e → (turnsL (log.take i))[m]? = some z → (has e x1 ∨ has e x2) → z ∈ ss) ∧ Loc H H4 [(D, .lst (iv ss)), (t, .lst (iv (turnsL (log.take i))))]) ⟨[], Nat.le_refl _, (fun _ z => nomatch z), fun m e z h => by omega, l1.alloc hD⟩ ?_ ?_⟩
      · rintro j H4 hj ⟨ss, sl, s1, s2, l4⟩
        have hj2 : j < i := by omega
        obtain ⟨⟨bj, e1, e2⟩, hqj⟩ : ∃ q, ts[j]? = some q := ⟨_, List.getElem?_eq_getElem (by have := (List.getElem?_eq_some_iff.mp hq).1; omega)⟩
        have hwj : log[j]? = some (e1, e2) := by
          rw [← ets]; unfold vals; rw [List.getElem?_map, hqj]; rfl
        have hwj' : (log.take i)[j]? = some (e1, e2) := by rw [List.getElem?_take_of_lt hj2]; exact hwj
        have hbj := Same.sqT l4.same (htt _ (List.mem_of_getElem? hqj))
        have hb4 : SqT K H4 b [.int x1, .int x2] := Same.sqT l4.same (htt _ (List.mem_of_getElem? hq))
        obtain ⟨tj, htj⟩ : ∃ tj, (turnsL (log.take i))[j]? = some tj := ⟨_, List.getElem?_eq_getElem (by omega)⟩
        have sA := l4.same.seq hts
        have take1 : ((has (e1, e2) x1 ∨ has (e1, e2) x2)) → ∃ ss' : List Int, ss' = ss ++ [tj] ∧ ss'.length ≤ j + 1 ∧ (∀ z ∈ ss', ∃ (m : Nat) (e : Int × Int), (log.take i)[m]? = some e ∧ (turnsL (log.take i))[m]? = some z ∧ (has e x1 ∨ has e x2)) ∧
            (∀ (m : Nat) (e : Int × Int) (z : Int), m < j + 1 → (log.take i)[m]? = some e → (turnsL (log.take i))[m]? = some z → (has e x1 ∨ has e x2) → z ∈ ss') := fun hs => by
          refine ⟨_, rfl, by simp; omega, fun z hz => ?_, fun m e z hm h1 h2 h3 => ?_⟩
          · rcases List.mem_append.mp hz with hz | hz
            · exact s1 z hz
            · cases List.mem_singleton.mp hz
              exact ⟨j, _, hwj', htj, hs⟩
          · by_cases hm2 : m < j
            · exact List.mem_append_left _ (s2 m e z hm2 h1 h2 h3)
            · have : m = j := by omega
              subst this
              rw [htj] at h2
              cases h2
              exact List.mem_append_right _ (List.mem_singleton.mpr rfl)
        have ixd := at_of (xs := refs ts) (z := (0 : Int) + (j : Nat)) (j := j) (by omega) (refs_get hqj)
        have fin : (has (e1, e2) x1 ∨ has (e1, e2) x2) → _ := take1
        refine ⟨rfl, _, rfl, _, rfl, a, refs ts, _, _, rfl, rfl, sA, ixd, bj, _, _, _, rfl, rfl, hbj, at_of (j := 0) rfl rfl, _, rfl, b, iv [x1, x2], rfl, .inr hb4, rfl, iv_flat _, _, rfl, ite2 (fun h1 => ?_) (fun h1 => ?_)⟩
        · have h1' : inV (.int e1) (iv [x1, x2]) = true := h1
          rw [inV_iv] at h1'
          have hs : has (e1, e2) x1 ∨ has (e1, e2) x2 := by
            have h : e1 = x1 ∨ e1 = x2 := by simpa using h1'
            rcases h with h | h
            · exact .inl (.inl h)
            · exact .inr (.inl h)
          obtain ⟨ss', e', q1, q2, q3⟩ := take1 hs
          refine ⟨_, rfl, _, rfl, t, _, _, _, rfl, rfl, SqL.of (l4.atIx (i := 1) rfl), at_of (j := j) (by show (0 : Int) + (j : Nat) = _; omega) (iv_get htj), _, l4.at0, sl_line' (by rw [iv_len]; omega), ss', q1, q2, q3, ?_⟩
          rw [e', iv_snoc]
          exact l4.put0
        · have h1' : ¬ inV (.int e1) (iv [x1, x2]) = true := h1
          rw [inV_iv] at h1'
          refine ⟨_, rfl, _, rfl, a, refs ts, _, _, rfl, rfl, sA, ixd, bj, _, _, _, rfl, rfl, hbj, at_of (j := 1) rfl rfl, _, rfl, b, iv [x1, x2], rfl, .inr hb4, rfl, iv_flat _, _, rfl, ite2 (fun h2 => ?_) (fun h2 => ?_)⟩
          · have h2' : inV (.int e2) (iv [x1, x2]) = true := h2
            rw [inV_iv] at h2'
            have hs : has (e1, e2) x1 ∨ has (e1, e2) x2 := by
              have h : e2 = x1 ∨ e2 = x2 := by simpa using h2'
              rcases h with h | h
              · exact .inl (.inr h)
              · exact .inr (.inr h)
            obtain ⟨ss', e', q1, q2, q3⟩ := take1 hs
            refine ⟨_, rfl, _, rfl, t, _, _, _, rfl, rfl, SqL.of (l4.atIx (i := 1) rfl), at_of (j := j) (by show (0 : Int) + (j : Nat) = _; omega) (iv_get htj), _, l4.at0, sl_line' (by rw [iv_len]; omega), ss', q1, q2, q3, ?_⟩
            rw [e', iv_snoc]
            exact l4.put0
          · have h2' : ¬ inV (.int e2) (iv [x1, x2]) = true := h2
            rw [inV_iv] at h2'
            refine ⟨ss, by omega, s1, fun m e z hm g1 g2 g3 => ?_, l4⟩
            by_cases hm2 : m < j
            · exact s2 m e z hm2 g1 g2 g3
            · have : m = j := by omega
              subst this
              rw [hwj'] at g1
              cases g1
              exfalso
              have n1 : ¬ (e1 = x1 ∨ e1 = x2) := by simpa using h1'
              have n2 : ¬ (e2 = x1 ∨ e2 = x2) := by simpa using h2'
              rcases g3 with (g | g) | (g | g)
              · exact n1 (.inl g)
              · exact n2 (.inl g)
              · exact n1 (.inr g)
              · exact n2 (.inr g)
      · rintro H4 ⟨ss, sl, s1, s2, l4⟩
        have ei : ((i : Nat) : Int).toNat = i := by omega
        rw [ei] at sl s2
        refine ⟨_, rfl, .inl ⟨rfl, _, SqL.of (l4.atIx (i := 1) rfl)⟩, sl1, fun g1 hg1 => ?_⟩
        have l5 := l4.alloc (o := .lst [.int 0]) hg1
        refine ⟨_, rfl, g1, D, _, _, rfl, rfl, l5.at0, l5.atIx (i := 1) rfl, Nat.le_of_lt (sl_line' (by rw [iv_len]; simp; omega)), fun g2 hg2 => ?_⟩
        have l6 := l5.alloc (o := .lst (iv ([0] ++ ss))) hg2
        refine ⟨g2, [0] ++ ss, rfl, SqL.of l6.at0, by simp, fun m hm hmax => ⟨_, _, rfl, rfl, ?_⟩⟩
        have em : m = mx (lstT (log.take i) x1) (lstT (log.take i) x2) := by
          obtain ⟨a0, a1, a2⟩ := lstT_max (log.take i) x1
          obtain ⟨b0, b1, b2⟩ := lstT_max (log.take i) x2
          have g := mx_ge (lstT (log.take i) x1) (lstT (log.take i) x2)
          have m0 := hmax 0 (by simp)
          have up : m ≤ mx (lstT (log.take i) x1) (lstT (log.take i) x2) := by
            rcases List.mem_append.mp hm with hm | hm
            · cases List.mem_singleton.mp hm; omega
            · obtain ⟨j, e, h1, h2, h3⟩ := s1 m hm
              rcases h3 with h3 | h3
              · have := a1 j e m h1 h2 h3; omega
              · have := b1 j e m h1 h2 h3; omega
          have lo1 : lstT (log.take i) x1 ≤ m := by
            rcases a2 with h | ⟨j, e, z, h1, h2, h3, h4⟩
            · omega
            · have hj : j < i := by have := (List.getElem?_eq_some_iff.mp h2).1; omega
              have := hmax z (List.mem_append_right _ (s2 j e z hj h1 h2 (.inl h3)))
              omega
          have lo2 : lstT (log.take i) x2 ≤ m := by
            rcases b2 with h | ⟨j, e, z, h1, h2, h3, h4⟩
            · omega
            · have hj : j < i := by have := (List.getElem?_eq_some_iff.mp h2).1; omega
              have := hmax z (List.mem_append_right _ (s2 j e z hj h1 h2 (.inr h3)))
              omega
          have := mx_is (lstT (log.take i) x1) (lstT (log.take i) x2)
          omega
        refine ⟨t, _, _, rfl, rfl, l6.atIx (i := 3) rfl, sl_line' (by rw [iv_len]; omega), ?_⟩
        have l7 := l6.setIx (i := 3) (o' := .lst (iv (turnsL (log.take i)) ++ [.int (m + 1)])) rfl
        refine ⟨_, _, _, rfl, ?_⟩
        rw [take_snoc hwi, turnsL_snoc, iv_snoc, ← em]
        exact l7.keep (List.Sublist.cons _ (List.Sublist.cons _ (List.Sublist.cons _ (List.Sublist.refl _))))
    · rintro σ H2 ⟨y2, y3, y4, rfl, l⟩
      have full : log.take (refs ts).length = log := by
        rw [refs_len, ← vals_len ts, ets, List.take_length]
      rw [full] at l
      exact ⟨_, rfl, q H2 t l⟩
end

abbrev s_is_whole : Stmt := topS 5
theorem sc_is_whole : FnScope ["thing"] ["thing"] (defScope s_is_whole) := ⟨rfl, rfl, rfl, by decide +kernel, rfl, by decide +kernel, by decide +kernel⟩
abbrev s_check_cells : Stmt := topS 6
theorem sc_check_cells : FnScope ["cells"] ["cells"] (defScope s_check_cells) := ⟨rfl, rfl, rfl, by decide +kernel, rfl, by decide +kernel, by decide +kernel⟩
abbrev s_is_exchange : Stmt := topS 7
theorem sc_is_exchange : FnScope ["thing", "cells"] ["thing", "cells"] (defScope s_is_exchange) := ⟨rfl, rfl, rfl, by decide +kernel, rfl, by decide +kernel, by decide +kernel⟩
section
variable {P : Program} {w : World} {K : PySem.W.Frag} {mg : Str → Option Value} {base : Heap}
def sp_is_whole (K : PySem.W.Frag) : Sp := fun vs H Q _ => ∃ (x : V) (T : String) (b1 b2 : Bool), vs = [x] ∧ TyX K H x (.type T) ∧ kitB T "int" = some b1 ∧ kitB T "bool" = some b2 ∧ Q (.bl (b1 && !b2)) H
theorem ok_is_whole {f : Addr} {fd : FuncData} {k : Nat} (F : Fun K "is_whole" "is_whole" s_is_whole f fd) (z_int : mg "int" = none) (z_isinstance : mg "isinstance" = none) (z_bool : mg "bool" = none) : FG P w K mg base CX0 (k + 1) f fd ["thing"] (sp_is_whole K) := by
  refine fg_fun F sc_is_whole (fun vs H Q E h => ?_) (fun cdv A out s H vs Q E hr hg h => ?_)
  · obtain ⟨x, _, _, _, rfl, _⟩ := h
    rfl
  · obtain ⟨x, T, b1, b2, rfl, ty, k1, k2, q⟩ := h
    refine ⟨_, (pss_one (ps_ret (pe_and (pe_callB (call_isiK2 K rfl) (by rfl) z_isinstance bt_isinstance (pa_cons (pv 0) (pa_cons (pe_bltn (v := .ty "int") (by rfl) z_int bt_int rfl) pa_nil))) (pe_one (pe_not (pe_callB (call_isiK2 K rfl) (by rfl) z_isinstance bt_isinstance (pa_cons (pv 0) (pa_cons (pe_bltn (v := .ty "bool") (by rfl) z_bool bt_bool rfl) pa_nil)))))))), ?_⟩
    refine ⟨_, rfl, ⟨_, _, _, _, _, rfl, .ty _, ty, kit_ty k1, _, rfl, ?_⟩⟩
    cases b1 with
    | true => exact iteT ⟨_, rfl, ⟨_, _, _, _, _, rfl, .ty _, ty, kit_ty k2, _, rfl, q⟩⟩
    | false => exact iteF q
def sp_check_cells : Sp := fun vs H Q _ => ∃ n : Int, vs = [.int n] ∧ 1 ≤ n ∧ n ≤ 16 ∧ Q .non H
theorem ok_check_cells {f : Addr} {fd : FuncData} {k : Nat} (F : Fun K "check_cells" "check_cells" s_check_cells f fd) (c_is_whole : CalG P w K mg base k "is_whole" s_is_whole ["thing"] (sp_is_whole K)) (g_MOST_CELLS : ∃ t, mg "MOST_CELLS" = some (.int 16 t)) :
    FG P w K mg base CX0 (k + 1) f fd ["cells"] sp_check_cells := by
  obtain ⟨tM, g_MOST_CELLS⟩ := g_MOST_CELLS
  refine fg_fun F sc_check_cells (fun vs H Q E h => ?_) (fun cdv A out s H vs Q E hr hg h => ?_)
  · obtain ⟨x, rfl, _⟩ := h
    rfl
  · obtain ⟨n, rfl, h1, h2, q⟩ := h
    refine ⟨_, (pss_one (ps_if (PW.pt (pw_or (pt_not (pt_val (pe_cG c_is_whole hr (by omega) hg (by rfl) (pa_cons (pv 0) pa_nil)))) (pw_or1 (pt_not (pt_chain op_le op_le pe_int (pv 0) (pe_glob (v := .int 16) (by rfl) g_MOST_CELLS ⟨_, rfl⟩))))))
        (pss_one ps_never)
        pss_nil)), ?_⟩
    refine ⟨_, rfl, _, "int", _, _, rfl, tyx_int n, kb_ii, kb_ib, _, rfl, iteF ⟨_, rfl, _, _, rfl, rfl, _, rfl, ?_⟩⟩
    refine iteTr (decide_eq_true h1) ⟨_, _, rfl, rfl, _, rfl, ?_⟩
    exact iteFa (by simp [h2]) q
/-- of pairs alone -/
def sp_is_exchange (K : PySem.W.Frag) : Sp := fun vs H Q _ => ∃ (a : Addr) (x y n : Int), vs = [.ref a, .int n] ∧ SqT K H a [.int x, .int y] ∧ Q (.bl (decide (1 ≤ x ∧ x < y ∧ y ≤ n))) H
theorem ok_is_exchange {f : Addr} {fd : FuncData} {k : Nat} (F : Fun K "is_exchange" "is_exchange" s_is_exchange f fd) (z_tuple : mg "tuple" = none) (z_isinstance : mg "isinstance" = none) (z_len : mg "len" = none) (c_is_whole : CalG P w K mg base k "is_whole" s_is_whole ["thing"] (sp_is_whole K)) :
    FG P w K mg base CX0 (k + 1) f fd ["thing", "cells"] (sp_is_exchange K) := by
  refine fg_fun F sc_is_exchange (fun vs H Q E h => ?_) (fun cdv A out s H vs Q E hr hg h => ?_)
  · obtain ⟨_, _, _, _, rfl, _⟩ := h
    rfl
  · obtain ⟨a, x, y, n, rfl, ht, q⟩ := h
    refine ⟨_, (pss_cons (ps_if (PW.pt (pw_or (pt_not (pt_val (pe_callB (call_isiK2 K rfl) (by rfl) z_isinstance bt_isinstance (pa_cons (pv 0) (pa_cons (pe_bltn (v := .ty "tuple") (by rfl) z_tuple bt_tuple rfl) pa_nil))))) (pw_or1 (pt_cmpR op_ne (pe_callB (call_len_seqK K rfl) (by rfl) z_len bt_len (pa_cons (pv 0) pa_nil)) pe_int (nomark _)))))
        (pss_one (ps_ret pe_bl))
        pss_nil)
      (pss_one (ps_ret (pe_and (pe_cG c_is_whole hr (by omega) hg (by rfl) (pa_cons (pe_ix (ix_tupK K rfl) (pv 0) pe_int (fun _ _ => rfl)) pa_nil)) (pe_and (pe_cG c_is_whole hr (by omega) hg (by rfl) (pa_cons (pe_ix (ix_tupK K rfl) (pv 0) pe_int (fun _ _ => rfl)) pa_nil)) (pe_one (pe_chain3 op_le op_lt op_le pe_int (pe_ix (ix_tupK K rfl) (pv 0) pe_int (fun _ _ => rfl)) (pe_ix (ix_tupK K rfl) (pv 0) pe_int (fun _ _ => rfl)) (pv 1)))))))), ?_⟩
    refine ⟨_, rfl, ⟨_, _, _, _, _, rfl, .ty _, tyx_tup ht, kit_ty kb_tt, _, rfl, iteF ⟨_, rfl, ⟨_, _, rfl, .inr ht, rfl, _, rfl, iteF ?_⟩⟩⟩⟩
    refine ⟨_, rfl, ⟨_, _, _, _, rfl, rfl, ht, at_of (j := 0) rfl rfl, _, "int", _, _, rfl, tyx_int x, kb_ii, kb_ib, _, rfl, iteT ?_⟩⟩
    refine ⟨_, rfl, ⟨_, _, _, _, rfl, rfl, ht, at_of (j := 1) rfl rfl, _, "int", _, _, rfl, tyx_int y, kb_ii, kb_ib, _, rfl, iteT ?_⟩⟩
    refine ⟨_, rfl, ⟨_, _, _, _, rfl, rfl, ht, at_of (j := 0) rfl rfl, _, _, rfl, rfl, _, rfl, ite2 (fun h1 => ?_) (fun h1 => ?_)⟩⟩
    · have h1' := of_decide_eq_true h1
      refine ⟨_, rfl, ⟨_, _, _, _, rfl, rfl, ht, at_of (j := 1) rfl rfl, _, _, rfl, rfl, _, rfl, ite2 (fun h2 => ?_) (fun h2 => ?_)⟩⟩
      · have h2' := of_decide_eq_true h2
        refine ⟨_, rfl, _, _, rfl, rfl, ?_⟩
        have e : decide (1 ≤ x ∧ x < y ∧ y ≤ n) = decide (y ≤ n) := by simp [h1', h2']
        rw [e] at q
        exact q
      · have h2' : ¬ x < y := fun z => h2 (decide_eq_true z)
        have e : decide (1 ≤ x ∧ x < y ∧ y ≤ n) = false := by simp [h2']
        rw [e] at q
        exact q
    · have h1' : ¬ 1 ≤ x := fun z => h1 (decide_eq_true z)
      have e : decide (1 ≤ x ∧ x < y ∧ y ≤ n) = false := by simp [h1']
      rw [e] at q
      exact q
end

abbrev s_check_log : Stmt := topS 9
theorem sc_check_log : FnScope ["cells", "log", "index", "exchange"] ["cells", "log"] (defScope s_check_log) := ⟨rfl, rfl, rfl, by decide +kernel, rfl, by decide +kernel, by decide +kernel⟩
section
variable {P : Program} {w : World} {K : PySem.W.Frag} {mg : Str → Option Value} {base : Heap}
/-- right logs -/
def sp_check_log (K : PySem.W.Frag) : Sp := fun vs H Q _ => ∃ (n : Nat) (a : Addr) (log : List (Int × Int)), vs = [.int n, .ref a] ∧ 1 ≤ n ∧ n ≤ 16 ∧ ValidL n log ∧ log.Nodup ∧ IsPairs K H a log ∧ ∀ H', Same H H' → Q .non H'
theorem ok_check_log {f : Addr} {fd : FuncData} {k : Nat} (F : Fun K "check_log" "check_log" s_check_log f fd) (z_list : mg "list" = none) (z_isinstance : mg "isinstance" = none) (z_enumerate : mg "enumerate" = none)
    (c_check_cells : CalG P w K mg base k "check_cells" s_check_cells ["cells"] sp_check_cells) (c_is_exchange : CalG P w K mg base k "is_exchange" s_is_exchange ["thing", "cells"] (sp_is_exchange K)) :
    FG P w K mg base CX0 (k + 1) f fd ["cells", "log"] (sp_check_log K) := by
  refine fg_fun F sc_check_log (fun vs H Q E h => ?_) (fun cdv A out s H vs Q E hr hg h => ?_)
  · obtain ⟨_, _, _, rfl, _⟩ := h
    rfl
  · obtain ⟨n, a, log, rfl, h1, h2, hv, hnd, hp, q⟩ := h
    have hu65 : (A.deeper (envOfC "check_log" (defScope s_check_log) s.heap.objs.size f cdv)).units + 65 < cLine := by have := hr.un; omega
    refine ⟨_, (pss_cons (ps_expr (pe_cG c_check_cells hr (by omega) hg (by rfl) (pa_cons (pv 0) pa_nil)))
      (pss_cons (ps_if (pt_not (pt_val (pe_callB (call_isiK2 K rfl) (by rfl) z_isinstance bt_isinstance (pa_cons (pv 1) (pa_cons (pe_bltn (v := .ty "list") (by rfl) z_list bt_list rfl) pa_nil)))))
        (pss_one ps_never)
        pss_nil)
      (pss_one (ps_for PassesOwn.never rfl (pi_enumK K rfl (by rfl) z_enumerate (pa_cons (pv 1) pa_nil)) (pg_tupK K rfl rfl (pgs_cons (pg_name (i := 2) sc_check_log.nd rfl (.inl rfl)) (pgs_cons (pg_name (i := 3) sc_check_log.nd rfl (.inl rfl)) pgs_nil)))
        (pss_one (ps_if (PW.pt (pw_or (pt_not (pt_val (pe_cG c_is_exchange hr (by omega) hg (by rfl) (pa_cons (pv 3) (pa_cons (pv 0) pa_nil))))) (pw_or1 (pt_cmpR (op_inDK K rfl hu65) (pv 3) (pe_slice (sl_listK K rfl) (pv 1) po_none (po_some (pv 2))) (by rfl)))))
            (pss_one ps_never)
            pss_nil)))))), ?_⟩
    have hp0 := hp
    obtain ⟨ts, ets, hts, htt⟩ := hp
    refine ⟨_, rfl, n, rfl, by omega, by omega, ?_⟩
    refine ⟨_, rfl, ⟨_, _, _, _, _, rfl, .ty _, tyx_list hts, kit_ty kb_ll, _, rfl, iteF ?_⟩⟩
    refine ⟨_, rfl, a, refs ts, rfl, hts, for_enum (K := K) (a := a) (xs := refs ts) (fun i σ H2 => ∃ y2 y3 : Option V, σ = [some (.int n), some (.ref a), y2, y3] ∧ Same H H2) ⟨none, none, rfl, Same.refl H⟩ ?_ ?_ ?_⟩
    · rintro i σ H2 ⟨_, _, _, sm⟩
      exact sm.seq hts
    · rintro i x σ H2 T hx ⟨y2, y3, rfl, sm⟩ hT
      obtain ⟨⟨b, x1, x2⟩, hq, rfl⟩ := refs_inv hx
      have sm2 : Same H (upd H2 T (.tup [.int (i : Nat), .ref b])) := fun c o e => by
        rw [upd_ne (ne_of_none (sm _ _ e) hT)]; exact sm _ _ e
      have hb := Same.sqT sm2 (htt _ (List.mem_of_getElem? hq))
      have hwi : log[i]? = some (x1, x2) := by
        rw [← ets]; unfold vals; rw [List.getElem?_map, hq]; rfl
      have hval := hv _ (List.mem_of_getElem? hwi)
      refine ⟨T, _, rfl, .inl (.inl upd_same), rfl, _, _, rfl, _, _, rfl, rfl, ?_⟩
      refine ⟨_, rfl, _, rfl, b, x1, x2, n, rfl, hb, _, rfl, ?_⟩
      have e : decide (1 ≤ x1 ∧ x1 < x2 ∧ x2 ≤ (n : Int)) = true := decide_eq_true hval
      rw [e]
      refine iteF ⟨_, rfl, _, rfl, _, rfl, _, rfl, a, refs ts, rfl, sm2.seq hts, fun p hp => ?_⟩
      have ec : cutV (refs ts) none (some (i : Int)) = refs (ts.take i) := (cut_to (xs := refs ts) (k := i)).trans List.map_take.symm
      rw [ec]
      have l3 := (Loc.of sm2).alloc (o := .lst (refs (ts.take i))) hp
      have hcut : IsPairs K (upd (upd H2 T (.tup [.int (i : Nat), .ref b])) p (.lst (refs (ts.take i)))) p (log.take i) :=
        ⟨ts.take i, by rw [← ets]; exact List.map_take, SqL.of upd_same, fun t ht => Same.sqT l3.same (htt t (List.mem_of_mem_take ht))⟩
      have hb3 := Same.sqT ((Loc.refl _).alloc (o := .lst (refs (ts.take i))) hp).same hb
      refine ⟨dE (x1, x2), (log.take i).map dE, .tup hb3 (.cons (.int _) (.cons (.int _) .nil)), hcut.dp, shaped_dE _, shaped_dP _, _, rfl, ?_⟩
      rw [any_dE]
      have no : ¬ (x1, x2) ∈ log.take i := by
        intro z
        obtain ⟨j, hj⟩ := List.getElem?_of_mem z
        rw [List.getElem?_take] at hj
        split at hj
        · rename_i hji
          have := nd_ix hnd hj hwi
          omega
        · cases hj
      exact iteFa (by simpa using no) ⟨_, _, rfl, l3.same⟩
    · rintro σ H2 ⟨_, _, _, sm⟩
      exact q H2 sm
end

abbrev s_turns : Stmt := topS 14
theorem sc_turns : FnScope ["cells", "log", "told", "last", "first", "second", "turn", "cell"] ["cells", "log"] (defScope s_turns) := ⟨rfl, rfl, rfl, by decide +kernel, rfl, by decide +kernel, by decide +kernel⟩
section
variable {P : Program} {w : World} {K : PySem.W.Frag} {mg : Str → Option Value} {base : Heap}
def sp_turns (K : PySem.W.Frag) : Sp := fun vs H Q _ => ∃ (n : Nat) (a : Addr) (log : List (Int × Int)), vs = [.int n, .ref a] ∧ 1 ≤ n ∧ n ≤ 16 ∧ log.length ≤ 1000 ∧ ValidL n log ∧ log.Nodup ∧ IsPairs K H a log ∧
  ∀ H' p, Loc H H' [(p, .lst (iv (turnsL log)))] → Q (.ref p) H'
theorem ok_turns {f : Addr} {fd : FuncData} {k : Nat} (F : Fun K "turns" "turns" s_turns f fd) (z_range : mg "range" = none) (z_max : mg "max" = none)
    (c_check_log : CalG P w K mg base k "check_log" s_check_log ["cells", "log"] (sp_check_log K)) : FG P w K mg base CX0 (k + 1) f fd ["cells", "log"] (sp_turns K) := by
  refine fg_fun F sc_turns (fun vs H Q E h => ?_) (fun cdv A out s H vs Q E hr hg h => ?_)
  · obtain ⟨n, a, log, rfl, _⟩ := h
    rfl
  · obtain ⟨n, a, log, rfl, n1, hn, hl, hv, hnd, hp, q⟩ := h
    refine ⟨_, (pss_cons (ps_expr (pe_cG c_check_log hr (by omega) hg (by rfl) (pa_cons (pv 0) (pa_cons (pv 1) pa_nil))))
      (pss_cons (ps_par (i := 2) (j := 3) (by rfl) sc_turns.nd rfl rfl (by decide) rfl rfl (pa_cons (pe_lst pa_nil) (pa_cons (pe_lc (own := [("cell", 7)]) (tt := tYes) rfl sc_turns.nd (pi_range1 (by rfl) z_range (pa_cons (pe_op op_add (pv 0) pe_int) pa_nil)) (blkOk_by (N := ["cells", "log", "told", "last", "first", "second", "turn", "cell"]) (sc := defScope s_turns) (by decide +kernel)) (fun _ _ _ _ _ => (pg_name (i := 7) sc_turns.nd rfl (Or.inl rfl))) (fun _ _ _ _ _ => pts_nil) (fun _ _ _ _ _ => pe_int)) pa_nil)) (by rfl))
      (pss_cons (ps_for PassesOwn.never rfl (pi_listK K rfl (pv 1)) (pg_tupK K rfl rfl (pgs_cons (pg_name (i := 4) sc_turns.nd rfl (.inl rfl)) (pgs_cons (pg_name (i := 5) sc_turns.nd rfl (.inl rfl)) pgs_nil)))
        (pss_cons (ps_set (i := 6) sc_turns.nd rfl (.inl rfl) (pe_op op_add (pe_callB (call_max2 rfl) (by rfl) z_max bt_max (pa_cons (pe_ix (ix_listK K rfl) (pv 3) (pv 4) (fun _ _ => rfl)) (pa_cons (pe_ix (ix_listK K rfl) (pv 3) (pv 5) (fun _ _ => rfl)) pa_nil))) pe_int))
          (pss_cons (ps_asg (pv 6) (pg_sub (pv 3) (pv 4) set_list))
          (pss_cons (ps_asg (pv 6) (pg_sub (pv 3) (pv 5) set_list))
          (pss_one (ps_expr (pe_bmK K rfl PySem.F.plainAttrs_list PySem.F.slot_list_append PySem.F.type_list_append mt_append (pv 2) (pa_cons (pv 6) pa_nil))))))))
      (pss_one (ps_ret (pv 2)))))), ?_⟩
    refine ⟨_, rfl, _, rfl, n, a, log, rfl, n1, hn, hv, hnd, hp, fun H1 s1 => ?_⟩
    refine ⟨by decide, fun t ht => ?_⟩
    have l0 := (Loc.of s1).alloc (o := .lst []) ht
    refine ⟨_, rfl, _, _, rfl, rfl, _, rfl, by omega, by omega, fun D hD => lc_range (lo := 0) (n := ((n : Int) + 1).toNat)
      (fun i H2 => Loc H H2 [(D, .lst (iv (tab i fun _ => 0))), (t, .lst [])]) (l0.alloc hD) ?_ ?_⟩
    · intro i H2 hi l2
      refine ⟨rfl, _, l2.at0, sl_line' (by rw [iv_len, tab_len]; omega), ?_⟩
      show Loc H _ _
      rw [tab_succ, iv_snoc]
      exact l2.put0
    intro H2 l2
    have en : ((n : Int) + 1).toNat = n + 1 := by omega
    rw [en] at l2
    have l2 : Loc H H2 [(D, .lst (iv (lastL n []))), (t, .lst (iv (turnsL [])))] := l2
    obtain ⟨ts, ets, hts, htt⟩ := hp
    refine ⟨_, _, rfl, ?_⟩
    refine ⟨_, rfl, a, rfl, ⟨_, l2.same.seq hts⟩, for_list (K := K) (a := a) (xs := refs ts)
      (fun i σ H3 => ∃ y4 y5 y6 : Option V, σ = [some (.int n), some (.ref a), some (.ref t), some (.ref D), y4, y5, y6, none] ∧ Loc H H3 [(D, .lst (iv (lastL n (log.take i)))), (t, .lst (iv (turnsL (log.take i))))]) ?_ ?_ ?_ ?_⟩
    · exact ⟨none, none, none, rfl, l2⟩
    · rintro i σ H3 _ ⟨_, _, _, _, l3⟩
      exact l3.same.seq hts
    · rintro i x σ H3 hx ⟨y4, y5, y6, rfl, l3⟩
      obtain ⟨⟨b, x1, x2⟩, hq, rfl⟩ := refs_inv hx
      have hT := Same.sqT l3.same (htt _ (List.mem_of_getElem? hq))
      have hwi : log[i]? = some (x1, x2) := by
        rw [← ets]; unfold vals; rw [List.getElem?_map, hq]; rfl
      have hvs : ValidL n (log.take i ++ [(x1, x2)]) := by rw [← take_snoc hwi]; exact fun q hq => hv q (List.mem_of_mem_take hq)
      obtain ⟨v0, v1, v2, v3⟩ := hvs.init
      simp only at v1 v2 v3
      have tl : (lastL n (log.take i)).length = n + 1 := tab_len
      have g1 : (iv (lastL n (log.take i)))[x1.toNat]? = some (.int (lstT (log.take i) x1)) := iv_get (by
        unfold lastL; rw [tab_get (by omega), show ((x1.toNat : Nat) : Int) = x1 from by omega])
      have g2 : (iv (lastL n (log.take i)))[x2.toNat]? = some (.int (lstT (log.take i) x2)) := iv_get (by
        unfold lastL; rw [tab_get (by omega), show ((x2.toNat : Nat) : Int) = x2 from by omega])
      have sT := SqL.of (K := K) l3.at0
      have A1 := at_of (xs := iv (lastL n (log.take i))) (z := x1) (j := x1.toNat) (by omega) g1
      have A2 := at_of (xs := iv (lastL n (log.take i))) (z := x2) (j := x2.toNat) (by omega) g2
      have tlen : (turnsL (log.take i)).length ≤ 1000 := by rw [turnsL_len]; have := List.length_take_le' i log; omega
      have l4 := l3.put0 (o' := .lst (iv ((lastL n (log.take i)).set x1.toNat (mx (lstT (log.take i) x1) (lstT (log.take i) x2) + 1))))
      have l5 := l4.put0 (o' := .lst (iv (((lastL n (log.take i)).set x1.toNat (mx (lstT (log.take i) x1) (lstT (log.take i) x2) + 1)).set x2.toNat (mx (lstT (log.take i) x1) (lstT (log.take i) x2) + 1))))
      have s1' : (iv (lastL n (log.take i))).set x1.toNat (.int (mx (lstT (log.take i) x1) (lstT (log.take i) x2) + 1)) = iv ((lastL n (log.take i)).set x1.toNat (mx (lstT (log.take i) x1) (lstT (log.take i) x2) + 1)) := List.map_set.symm
      have s2' : (iv ((lastL n (log.take i)).set x1.toNat (mx (lstT (log.take i) x1) (lstT (log.take i) x2) + 1))).set x2.toNat (.int (mx (lstT (log.take i) x1) (lstT (log.take i) x2) + 1)) = iv (((lastL n (log.take i)).set x1.toNat (mx (lstT (log.take i) x1) (lstT (log.take i) x2) + 1)).set x2.toNat (mx (lstT (log.take i) x1) (lstT (log.take i) x2) + 1)) := List.map_set.symm
      refine ⟨b, _, rfl, hT, rfl, _, _, rfl, _, _, rfl, rfl, ?_⟩
      refine ⟨_, rfl, _, rfl, D, _, _, _, rfl, rfl, sT, A1, _, rfl, _, rfl, D, _, _, _, rfl, rfl, sT, A2, _, _, rfl, _, _, rfl, rfl, ?_⟩
      refine ⟨_, rfl, _, rfl, _, rfl, D, _, _, x1.toNat, rfl, rfl, l3.at0, ixI (by show 0 ≤ x1; omega) (by rw [iv_len]; show x1.toNat < _; omega), ?_⟩
      show tSeq _ _ _ _ _
      erw [s1']
      refine ⟨_, rfl, _, rfl, _, rfl, D, _, _, x2.toNat, rfl, rfl, l4.at0, ixI (by show 0 ≤ x2; omega) (by rw [iv_len, List.length_set]; show x2.toNat < _; omega), ?_⟩
      erw [s2']
      refine ⟨_, rfl, .inl ⟨rfl, _, SqL.of (l5.atIx (i := 1) rfl)⟩, _, rfl, t, _, _, rfl, rfl, l5.atIx (i := 1) rfl, sl_line' (by rw [iv_len]; omega), ?_⟩
      have l6 := l5.setIx (i := 1) (o' := .lst (iv (turnsL (log.take i)) ++ [.int (mx (lstT (log.take i) x1) (lstT (log.take i) x2) + 1)])) rfl
      refine ⟨_, _, _, rfl, ?_⟩
      rw [take_snoc hwi, last_step hvs, turnsL_snoc, iv_snoc]
      exact l6
    · rintro σ H3 ⟨y4, y5, y6, rfl, l3⟩
      have full : log.take (refs ts).length = log := by
        rw [refs_len, ← vals_len ts, ets, List.take_length]
      rw [full] at l3
      exact ⟨_, rfl, q H3 t l3.drop1⟩
end

/-! ### reordered by turns -/
def hasB (c : Int) (z : Int × Int × Int) : Bool := decide (z.2.1 = c ∨ z.2.2 = c)
def zipT (log : List (Int × Int)) : List (Int × Int × Int) := (turnsL log).zip log
theorem zipT_snoc (l : List (Int × Int)) (e : Int × Int) : zipT (l ++ [e]) = zipT l ++ [(mx (lstT l e.1) (lstT l e.2) + 1, e)] := by
  unfold zipT
  rw [turnsL_snoc, List.zip_append (turnsL_len l)]
  rfl
theorem zipT_snd (l : List (Int × Int)) : (zipT l).map Prod.snd = l := by
  unfold zipT
  rw [List.map_snd_zip]
  rw [turnsL_len]
  exact Nat.le_refl _
theorem zipT_fst (l : List (Int × Int)) : (zipT l).map Prod.fst = turnsL l := by
  unfold zipT
  rw [List.map_fst_zip]
  rw [turnsL_len]
  exact Nat.le_refl _
theorem zipT_le : ∀ (l : List (Int × Int)) (c : Int), ∀ z ∈ zipT l, hasB c z = true → z.1 ≤ lstT l c := by
  refine snoc_ind (fun _ z h => nomatch h) fun l e ih c z hz hc => ?_
  rw [zipT_snoc] at hz
  rw [lstT_snoc]
  have g := mx_ge (lstT l e.1) (lstT l e.2)
  have hc' : z.2.1 = c ∨ z.2.2 = c := of_decide_eq_true hc
  unfold tstep
  rcases List.mem_append.mp hz with hz | hz
  · have h := ih c z hz hc
    split
    · rename_i h2
      rcases h2 with rfl | rfl <;> omega
    · exact h
  · cases List.mem_singleton.mp hz
    rw [if_pos (hc'.imp Eq.symm Eq.symm)]
    exact Int.le_refl _
/-- at a cell the turns go up -/
theorem zipT_inc (c : Int) : ∀ l : List (Int × Int), ((zipT l).filter (hasB c)).Pairwise fun x y => x.1 < y.1 := by
  refine snoc_ind List.Pairwise.nil fun l e ih => ?_
  rw [zipT_snoc, List.filter_append, List.pairwise_append]
  have g := mx_ge (lstT l e.1) (lstT l e.2)
  refine ⟨ih, ?_, fun x hx y hy => ?_⟩
  · by_cases h : hasB c (mx (lstT l e.1) (lstT l e.2) + 1, e) = true
    · rw [List.filter_cons_of_pos h]; simp
    · rw [List.filter_cons_of_neg h]; simp
  · obtain ⟨hy1, hy2⟩ := List.mem_filter.mp hy
    obtain ⟨hx1, hx2⟩ := List.mem_filter.mp hx
    cases List.mem_singleton.mp hy1
    have h := zipT_le l c x hx1 hx2
    have hc' : e.1 = c ∨ e.2 = c := of_decide_eq_true hy2
    show x.1 < mx (lstT l e.1) (lstT l e.2) + 1
    rcases hc' with rfl | rfl <;> omega
theorem strict_unique : ∀ {l m : List (Int × Int × Int)}, l.Perm m → l.Pairwise (fun x y => x.1 ≤ y.1) → m.Pairwise (fun x y => x.1 < y.1) → l = m
  | [], m, p, _, _ => p.nil_eq
  | x :: l, [], p, _, _ => by have := p.length_eq; simp at this
  | x :: l, y :: m, p, h1, h2 => by
    have h1' := List.pairwise_cons.mp h1
    have h2' := List.pairwise_cons.mp h2
    have e : x = y := by
      rcases List.mem_cons.mp (p.subset (List.mem_cons_self (a := x) (l := l))) with a | a
      · exact a
      · rcases List.mem_cons.mp (p.symm.subset (List.mem_cons_self (a := y) (l := m))) with b | b
        · exact b.symm
        · have q1 := h2'.1 x a
          have q2 := h1'.1 y b
          omega
    subst e
    rw [strict_unique (List.Perm.cons_inv p) h1'.2 h2'.2]
section
variable {log : List (Int × Int)} {Z : List (Int × Int × Int)} (pm : Z.Perm (zipT log)) (hs : Z.Pairwise fun x y => x.1 ≤ y.1)
include pm hs
theorem same_at (c : Int) : Z.filter (hasB c) = (zipT log).filter (hasB c) := strict_unique (pm.filter _) (hs.sublist List.filter_sublist) (zipT_inc c log)
end
theorem nbraw_filter (c : Int) : ∀ Z : List (Int × Int × Int), nbraw ((Z.filter (hasB c)).map Prod.snd) c = nbraw (Z.map Prod.snd) c
  | [] => rfl
  | z :: r => by
    have ih := nbraw_filter c r
    by_cases h : hasB c z = true
    · rw [List.filter_cons_of_pos h, List.map_cons, List.map_cons]
      show _ ++ nbraw _ c = _ ++ nbraw _ c
      rw [ih]
    · rw [List.filter_cons_of_neg h, List.map_cons, ih]
      have h' : ¬ (z.2.1 = c ∨ z.2.2 = c) := fun q => h (decide_eq_true q)
      show _ = ((if z.2.1 = c then [z.2.2] else []) ++ (if z.2.2 = c then [z.2.1] else [])) ++ nbraw _ c
      rw [if_neg (fun q => h' (.inl q)), if_neg (fun q => h' (.inr q))]
      rfl
/-- of the same kind -/
theorem turn_kind {log : List (Int × Int)} {Z : List (Int × Int × Int)} (pm : Z.Perm (zipT log)) (hs : Z.Pairwise fun x y => x.1 ≤ y.1) (n : Nat) : ordsL n (Z.map Prod.snd) = ordsL n log := by
  refine tab_ext fun j _ => ?_
  rw [← nbraw_filter, same_at pm hs, nbraw_filter, zipT_snd]
/-- the last turn of a cell, read off the turns so far -/
theorem lst_last (c : Int) : ∀ W : List (Int × Int × Int), W.map Prod.fst = turnsL (W.map Prod.snd) → lstT (W.map Prod.snd) c = ((W.filter (hasB c)).map Prod.fst).getLastD 0 := by
  refine snoc_ind (fun _ => rfl) fun W z ih h => ?_
  rw [List.map_append, List.map_append] at h
  have h' : W.map Prod.fst ++ [z.1] = turnsL (W.map Prod.snd) ++ [mx (lstT (W.map Prod.snd) z.2.1) (lstT (W.map Prod.snd) z.2.2) + 1] := by
    rw [← turnsL_snoc]; exact h
  obtain ⟨h1, h2⟩ := List.append_inj' h' rfl
  have h2 : z.1 = mx (lstT (W.map Prod.snd) z.2.1) (lstT (W.map Prod.snd) z.2.2) + 1 := by simpa using h2
  rw [List.map_append, List.filter_append, List.map_append]
  show lstT (W.map Prod.snd ++ [z.2]) c = _
  rw [lstT_snoc]
  unfold tstep
  by_cases hc : hasB c z = true
  · have hc' : z.2.1 = c ∨ z.2.2 = c := of_decide_eq_true hc
    rw [if_pos (hc'.imp Eq.symm Eq.symm), List.filter_cons_of_pos hc]
    show _ = ((W.filter (hasB c)).map Prod.fst ++ [z.1]).getLastD 0
    rw [last_snoc, h2]
  · have hc' : ¬ (z.2.1 = c ∨ z.2.2 = c) := fun q => hc (decide_eq_true q)
    rw [if_neg (fun q => hc' (q.imp Eq.symm Eq.symm)), List.filter_cons_of_neg hc, ih h1]
    simp
theorem zipT_split : ∀ (log : List (Int × Int)) (z : Int × Int × Int), z ∈ zipT log → ∃ l r B, log = l ++ z.2 :: r ∧ zipT log = zipT l ++ z :: B ∧ z.1 = mx (lstT l z.2.1) (lstT l z.2.2) + 1 := by
  refine snoc_ind (fun z h => nomatch h) fun l e ih z hz => ?_
  rw [zipT_snoc] at hz ⊢
  rcases List.mem_append.mp hz with hz | hz
  · obtain ⟨l', r, B, h1, h2, h3⟩ := ih z hz
    refine ⟨l', r ++ [e], B ++ [(mx (lstT l e.1) (lstT l e.2) + 1, e)], ?_, ?_, h3⟩
    · rw [h1]; simp
    · rw [h2]; simp
  · cases List.mem_singleton.mp hz
    exact ⟨l, [], [], rfl, rfl, rfl⟩
theorem ahead_unique {a b a' b' : List (Int × Int × Int)} {z : Int × Int × Int} (e : a ++ z :: b = a' ++ z :: b') (h : (a ++ z :: b).Pairwise fun x y => x.1 < y.1) : a = a' := by
  have h' : (a' ++ z :: b').Pairwise fun x y => x.1 < y.1 := by rw [← e]; exact h
  have n1 : ∀ x ∈ a, x.1 < z.1 := fun x hx => (List.pairwise_append.mp h).2.2 x hx z List.mem_cons_self
  have n2 : ∀ x ∈ a', x.1 < z.1 := fun x hx => (List.pairwise_append.mp h').2.2 x hx z List.mem_cons_self
  rcases List.append_eq_append_iff.mp e with ⟨t, h1, h2⟩ | ⟨t, h1, h2⟩
  · cases t with
    | nil => rw [h1, List.append_nil]
    | cons y t =>
      have hy : y = z := by have := congrArg List.head? h2; simpa using this.symm
      have : y ∈ a' := by rw [h1]; simp
      have := n2 y this
      rw [hy] at this
      omega
  · cases t with
    | nil => rw [h1, List.append_nil]
    | cons y t =>
      have hy : y = z := by have := congrArg List.head? h2; simpa using this.symm
      have : y ∈ a := by rw [h1]; simp
      have := n1 y this
      rw [hy] at this
      omega
/-- the turns stay -/
theorem turn_same {log : List (Int × Int)} {Z : List (Int × Int × Int)} (pm : Z.Perm (zipT log)) (hs : Z.Pairwise fun x y => x.1 ≤ y.1) : turnsL (Z.map Prod.snd) = Z.map Prod.fst := by
  have key : ∀ A B, Z = A ++ B → A.map Prod.fst = turnsL (A.map Prod.snd) := by
    refine snoc_ind (fun _ _ => rfl) fun A z ih B hZ => ?_
    have hZ' : Z = A ++ z :: B := by rw [hZ]; simp
    have hA := ih (z :: B) hZ'
    rw [List.map_append, List.map_append]
    show A.map Prod.fst ++ [z.1] = turnsL (A.map Prod.snd ++ [z.2])
    rw [turnsL_snoc, ← hA]
    obtain ⟨l, r, B', _, h2, h3⟩ := zipT_split log z (pm.mem_iff.mp (by rw [hZ']; simp))
    have at_c : ∀ c, hasB c z = true → lstT (A.map Prod.snd) c = lstT l c := fun c hc => by
      have e := same_at pm hs c
      have inc := zipT_inc c log
      rw [hZ', h2, List.filter_append, List.filter_append, List.filter_cons_of_pos hc, List.filter_cons_of_pos hc] at e
      rw [h2, List.filter_append, List.filter_cons_of_pos hc] at inc
      have ea := ahead_unique e.symm inc
      rw [lst_last c A hA, ← ea]
      have hl := lst_last c (zipT l) (by rw [zipT_fst, zipT_snd])
      rw [zipT_snd] at hl
      exact hl.symm
    rw [h3, at_c z.2.1 (decide_eq_true (.inl rfl)), at_c z.2.2 (decide_eq_true (.inr rfl))]
  exact (key Z [] (by simp)).symm
/-- no turn is left out -/
theorem turn_dense : ∀ (log : List (Int × Int)) (t : Int), t ∈ turnsL log → 2 ≤ t → t - 1 ∈ turnsL log := by
  refine snoc_ind (fun t h => nomatch h) fun l e ih t ht h2 => ?_
  rw [turnsL_snoc] at ht ⊢
  rcases List.mem_append.mp ht with ht | ht
  · exact List.mem_append_left _ (ih t ht h2)
  · cases List.mem_singleton.mp ht
    refine List.mem_append_left _ ?_
    have e1 : mx (lstT l e.1) (lstT l e.2) + 1 - 1 = mx (lstT l e.1) (lstT l e.2) := by omega
    rw [e1]
    rcases mx_is (lstT l e.1) (lstT l e.2) with h | h
    · rw [h]
      rcases (lstT_max l e.1).2.2 with h0 | ⟨k, x, t, _, h1, _, h3⟩
      · omega
      · rw [← h3]; exact List.mem_of_getElem? h1
    · rw [h]
      rcases (lstT_max l e.2).2.2 with h0 | ⟨k, x, t, _, h1, _, h3⟩
      · omega
      · rw [← h3]; exact List.mem_of_getElem? h1
theorem turn_all (log : List (Int × Int)) : ∀ (m : Nat) (t : Int), t ∈ turnsL log → 1 ≤ t - m → t - m ∈ turnsL log
  | 0, t, h, _ => by simpa using h
  | m + 1, t, h, h1 => by
    have h2 := turn_all log m t h (by omega)
    have h3 := turn_dense log _ h2 (by omega)
    have e : t - (m : Int) - 1 = t - ((m + 1 : Nat) : Int) := by omega
    rw [← e]
    exact h3
/-- the cells of one turn's exchanges are unlike -/
def spots (log : List (Int × Int)) (t : Int) : List Int := ((zipT log).filter fun z => decide (z.1 = t)).flatMap fun z => [z.2.1, z.2.2]
theorem spots_nodup {n : Nat} {log : List (Int × Int)} (hv : ValidL n log) (t : Int) : (spots log t).Nodup := by
  have gen : ∀ Y : List (Int × Int × Int), Y.Pairwise (fun x y => ∀ c, ¬ (hasB c x = true ∧ hasB c y = true)) → (∀ y ∈ Y, y.2.1 ≠ y.2.2) → (Y.flatMap fun z => [z.2.1, z.2.2]).Nodup := by
    intro Y
    induction Y with
    | nil => intro _ _; exact List.Pairwise.nil
    | cons y r ih =>
      intro h1 h2
      obtain ⟨p1, p2⟩ := List.pairwise_cons.mp h1
      rw [List.flatMap_cons, List.nodup_append]
      refine ⟨?_, ih p2 (fun z hz => h2 z (List.mem_cons_of_mem _ hz)), fun a ha b hb hab => ?_⟩
      · have := h2 y List.mem_cons_self
        simp [this]
      · subst hab
        obtain ⟨z, hz, hz2⟩ := List.mem_flatMap.mp hb
        refine p1 z hz a ⟨decide_eq_true ?_, decide_eq_true ?_⟩
        · simp only [List.mem_cons, List.not_mem_nil, or_false] at ha
          rcases ha with rfl | rfl
          · exact .inl rfl
          · exact .inr rfl
        · simp only [List.mem_cons, List.not_mem_nil, or_false] at hz2
          rcases hz2 with rfl | rfl
          · exact .inl rfl
          · exact .inr rfl
  refine gen _ ?_ fun y hy => ?_
  · have apart2 : ∀ Y : List (Int × Int × Int), (∀ c, (Y.filter (hasB c)).Pairwise fun x y => x.1 < y.1) → (Y.filter fun z => decide (z.1 = t)).Pairwise (fun x y => ∀ c, ¬ (hasB c x = true ∧ hasB c y = true)) := by
      intro Y
      induction Y with
      | nil => intro _; exact List.Pairwise.nil
      | cons y r ih =>
        intro h
        have hr : ∀ c, (r.filter (hasB c)).Pairwise fun x y => x.1 < y.1 := fun c => (h c).sublist ((List.sublist_cons_self y r).filter _)
        by_cases ht : decide (y.1 = t) = true
        · rw [List.filter_cons_of_pos (p := fun z : Int × Int × Int => decide (z.1 = t)) ht, List.pairwise_cons]
          refine ⟨fun z hz c ⟨c1, c2⟩ => ?_, ih hr⟩
          obtain ⟨z1, z2⟩ := List.mem_filter.mp hz
          have hc := h c
          rw [List.filter_cons_of_pos c1] at hc
          have lt := (List.pairwise_cons.mp hc).1 z (List.mem_filter.mpr ⟨z1, c2⟩)
          have e1 := of_decide_eq_true ht
          have e2 : z.1 = t := of_decide_eq_true z2
          omega
        · rw [List.filter_cons_of_neg (p := fun z : Int × Int × Int => decide (z.1 = t)) ht]
          exact ih hr
    exact apart2 _ fun c => zipT_inc c log
  · have h1 := (List.mem_filter.mp hy).1
    have h2 : y.2 ∈ log := by rw [← zipT_snd log]; exact List.mem_map.mpr ⟨y, h1, rfl⟩
    have := hv _ h2
    omega
theorem spots_ne {log : List (Int × Int)} {t : Int} (h : t ∈ turnsL log) : spots log t ≠ [] := by
  rw [← zipT_fst] at h
  obtain ⟨z, hz, rfl⟩ := List.mem_map.mp h
  intro e
  have : z.2.1 ∈ spots log z.1 := List.mem_flatMap.mpr ⟨z, List.mem_filter.mpr ⟨hz, decide_eq_true rfl⟩, by simp⟩
  rw [e] at this
  cases this

abbrev s__law_draws : Stmt := topS 17
theorem sc__law_draws : FnScope ["_law_cell"] ["_law_cell"] (defScope s__law_draws) := ⟨rfl, rfl, rfl, by decide +kernel, rfl, by decide +kernel, by decide +kernel⟩
abbrev s__law_next : Stmt := topS 18
theorem sc__law_next : FnScope ["_law_draws_here", "_law_k", "_law_number"] ["_law_draws_here"] (defScope s__law_next) := ⟨rfl, rfl, rfl, by decide +kernel, rfl, by decide +kernel, by decide +kernel⟩
/-- what the draws hold: a number, how often was drawn, whether by figures -/
def drawO (n k : Int) (b : Bool) : HO := .lst [.int n, .int k, .bl b]
def Draw (H : Hp) (a : Addr) (m : Nat) : Prop := ∃ (n k : Int) (b : Bool), H a = some (drawO n k b) ∧ 0 ≤ n ∧ 0 ≤ k ∧ k ≤ m
section
variable {P : Program} {w : World} {K : PySem.W.Frag} {mg : Str → Option Value} {base : Heap}
def sp__law_draws : Sp := fun vs H Q _ => ∃ c : Int, vs = [.int c] ∧ ∀ (p : Addr) (n : Int) (b : Bool), H p = none → 0 ≤ n → Q (.ref p) (upd H p (drawO n 0 b))
theorem ok__law_draws {f : Addr} {fd : FuncData} {k : Nat} (F : Fun K "_law_draws" "_law_draws" s__law_draws f fd) (z_int : mg "int" = none) : FG P w K mg base CX0 (k + 1) f fd ["_law_cell"] sp__law_draws := by
  refine fg_fun F sc__law_draws (fun vs H Q E h => ?_) (fun cdv A out s H vs Q E hr hg h => ?_)
  · obtain ⟨c, rfl, _⟩ := h
    rfl
  · obtain ⟨c, rfl, q⟩ := h
    refine ⟨_, (pss_one (ps_ret (pe_lst (pa_cons (pe_op op_mod (pe_callTy call_int1 (by rfl) z_int bt_int (pa_cons (pv 0) pa_nil)) (pe_op op_powW (pe_op op_powW (pe_op op_powW pe_int pe_int) pe_int) pe_int)) (pa_cons pe_int (pa_cons (pe_cmpR op_ge (pv 0) (pe_op op_powW pe_int pe_int) (nomark _)) pa_nil)))))), ?_⟩
    have p1 : CPowW 10 60 := ⟨by decide, by decide, by decide, by decide +kernel⟩
    have p2 : CPowW (10 ^ (60 : Int).toNat) 60 := ⟨by decide, by decide, by decide +kernel, by decide +kernel⟩
    have p3 : CPowW ((10 ^ (60 : Int).toNat) ^ (60 : Int).toNat) 4 := ⟨by decide, by decide, by decide +kernel, by decide +kernel⟩
    have p4 : CPowW 10 18 := ⟨by decide, by decide, by decide, by decide +kernel⟩
    have pos : (0 : Int) < ((10 ^ (60 : Int).toNat) ^ (60 : Int).toNat) ^ (4 : Int).toNat := Int.pow_pos (Int.pow_pos (Int.pow_pos (by decide)))
    refine ⟨_, rfl, .inl ⟨_, rfl, ?_⟩⟩
    refine ⟨_, _, rfl, rfl, p1, _, _, rfl, rfl, p2, _, _, rfl, rfl, p3, _, _, rfl, rfl, pos, ?_⟩
    refine ⟨_, rfl, _, _, rfl, rfl, p4, _, _, rfl, rfl, ?_⟩
    exact ⟨sl3, fun p hp => q p _ _ hp (Int.emod_nonneg _ (by omega))⟩
def sp__law_next : Sp := fun vs H Q _ => ∃ (a : Addr) (m : Nat), vs = [.ref a] ∧ Draw H a m ∧ m ≤ 1000000 ∧ ∀ (n k : Int) (b : Bool) (r : Int), 0 ≤ n → 0 ≤ k → k ≤ (m : Int) + 1 → 0 ≤ r → Q (.int r) (upd H a (drawO n k b))
theorem ok__law_next {f : Addr} {fd : FuncData} {k : Nat} (F : Fun K "_law_next" "_law_next" s__law_next f fd) (z_int : mg "int" = none) : FG P w K mg base CX0 (k + 1) f fd ["_law_draws_here"] sp__law_next := by
  refine fg_fun F sc__law_next (fun vs H Q E h => ?_) (fun cdv A out s H vs Q E hr hg h => ?_)
  · obtain ⟨a, m, rfl, _⟩ := h
    rfl
  · obtain ⟨a, m, rfl, ⟨n, k, b, ha, n0, k0, km⟩, hm, q⟩ := h
    refine ⟨_, (pss_cons (ps_asg (pe_op op_add (pe_ix (ix_listK K rfl) (pv 0) pe_int (fun _ _ => rfl)) pe_int) (pg_sub (pv 0) pe_int set_list))
      (pss_cons (ps_set (i := 1) sc__law_next.nd rfl (.inl rfl) (pe_ix (ix_listK K rfl) (pv 0) pe_int (fun _ _ => rfl)))
      (pss_cons (ps_if (pt_truthK K rfl (pe_ix (ix_listK K rfl) (pv 0) pe_int (fun _ _ => rfl)) (by intro _; rfl))
        (pss_cons (ps_set (i := 2) sc__law_next.nd rfl (.inl rfl) (pe_op op_mod (pe_callTy call_int1 (by rfl) z_int bt_int (pa_cons (pe_ix (ix_listK K rfl) (pv 0) pe_int (fun _ _ => rfl)) pa_nil)) (pe_op op_powW pe_int pe_int)))
          (pss_cons (ps_asg (pe_op op_fdivW (pe_ix (ix_listK K rfl) (pv 0) pe_int (fun _ _ => rfl)) (pe_op op_powW pe_int pe_int)) (pg_sub (pv 0) pe_int set_list))
          (pss_one (ps_ret (pv 2)))))
        pss_nil)
      (pss_cons (ps_set (i := 2) sc__law_next.nd rfl (.inl rfl) (pe_op op_mod (pe_callTy call_int1 (by rfl) z_int bt_int (pa_cons (pe_op op_mulW (pe_op op_add (pe_op op_add (pe_op op_mod (pe_callTy call_int1 (by rfl) z_int bt_int (pa_cons (pe_ix (ix_listK K rfl) (pv 0) pe_int (fun _ _ => rfl)) pa_nil)) pe_int) (pe_op op_mulW (pe_op op_mulW (pv 1) (pv 1)) pe_int)) (pv 1)) pe_int) pa_nil)) pe_int))
      (pss_cons (ps_set (i := 2) sc__law_next.nd rfl (.inl rfl) (pe_op op_mod (pe_callTy call_int1 (by rfl) z_int bt_int (pa_cons (pe_op op_mulW (pv 2) (pv 2)) pa_nil)) pe_int))
      (pss_one (ps_ret (pe_op op_fdivW (pe_op op_mod (pe_callTy call_int1 (by rfl) z_int bt_int (pa_cons (pe_op op_mulW (pv 2) (pe_op op_add (pv 2) pe_int)) pa_nil)) pe_int) pe_int)))))))), ?_⟩
    have h1 : upd H a (drawO n (k + 1) b) a = some (drawO n (k + 1) b) := upd_same
    have p6 : CPowW 10 6 := ⟨by decide, by decide, by decide, by decide +kernel⟩
    have m1 : (0 : Int) < 10 ^ (6 : Int).toNat := by decide
    have m2 : (0 : Int) < 1000003 := by decide
    have m3 : (0 : Int) < 2147483629 := by decide
    have m4 : (0 : Int) < 2147483587 := by decide
    have m5 : (0 : Int) < 2147483579 := by decide
    have s1 : SqL K (upd H a (drawO n (k + 1) b)) a [.int n, .int (k + 1), .bl b] := SqL.of h1
    refine ⟨_, rfl, _, _, _, _, rfl, rfl, SqL.of ha, at_of (j := 1) rfl rfl, _, _, rfl, rfl, _, rfl, a, _, _, 1, rfl, rfl, ha, rfl, ?_⟩
    refine ⟨_, rfl, _, _, _, _, rfl, rfl, s1, at_of (j := 1) rfl rfl, ?_⟩
    refine ⟨_, rfl, _, _, _, _, rfl, rfl, s1, at_of (j := 2) rfl rfl, b, rfl, ?_⟩
    cases b with
    | true =>
      refine iteT ?_
      refine ⟨_, rfl, _, _, _, _, rfl, rfl, s1, at_of (j := 0) rfl rfl, .inl ⟨_, rfl, ?_⟩⟩
      refine ⟨_, _, rfl, rfl, p6, _, _, rfl, rfl, m1, ?_⟩
      refine ⟨_, rfl, _, _, _, _, rfl, rfl, s1, at_of (j := 0) rfl rfl, _, _, rfl, rfl, p6, _, _, rfl, rfl, ⟨by decide, by decide +kernel⟩, _, rfl, a, _, _, 0, rfl, rfl, h1, rfl, ?_⟩
      refine ⟨_, rfl, ?_⟩
      have := q (n / 10 ^ (6 : Int).toNat) (k + 1) true (n % 10 ^ (6 : Int).toNat) (Int.ediv_nonneg n0 (by decide)) (by omega) (by omega) (Int.emod_nonneg _ (by decide))
      rw [← L2.upd_upd (o := drawO n (k + 1) true)] at this
      exact this
    | false =>
      refine iteF ?_
      have kl : k + 1 ≤ 2000000 := by omega
      have b1 : (k + 1).natAbs < 2 ^ 21 := by omega
      have b2 : ((k + 1) * (k + 1)).natAbs < 2 ^ (21 + 21) := wide_lt b1 b1
      have b3 : ((k + 1) * (k + 1) * 7919).natAbs < 2 ^ (21 + 21 + 13) := wide_lt b2 (by decide)
      have b4 : (n % 1000003).natAbs < 2 ^ 20 := by omega
      have b5 : (n % 1000003 + (k + 1) * (k + 1) * 7919 + (k + 1)).natAbs < 2 ^ 60 := by omega
      refine ⟨_, rfl, _, _, _, _, rfl, rfl, s1, at_of (j := 0) rfl rfl, .inl ⟨_, rfl, _, _, rfl, rfl, m2, ?_⟩⟩
      refine ⟨_, rfl, _, rfl, _, _, rfl, rfl, wide_mul b1 b1 (by decide) (by decide) (by decide), _, _, rfl, rfl, wide_mul b2 (by decide : (7919 : Int).natAbs < 2 ^ 13) (by decide) (by decide) (by decide), _, _, rfl, rfl, ?_⟩
      have b6 : ((n % 1000003 + (k + 1) * (k + 1) * 7919 + (k + 1)) * 48271 % 2147483629).natAbs < 2 ^ 31 := by omega
      refine ⟨_, rfl, _, _, rfl, rfl, _, _, rfl, rfl, wide_mul b5 (by decide : (48271 : Int).natAbs < 2 ^ 16) (by decide) (by decide) (by decide), .inl ⟨_, rfl, _, _, rfl, rfl, m3, ?_⟩⟩
      refine ⟨_, rfl, _, rfl, _, _, rfl, rfl, wide_mul b6 b6 (by decide) (by decide) (by decide), .inl ⟨_, rfl, _, _, rfl, rfl, m4, ?_⟩⟩
      have b7 : (((n % 1000003 + (k + 1) * (k + 1) * 7919 + (k + 1)) * 48271 % 2147483629) * ((n % 1000003 + (k + 1) * (k + 1) * 7919 + (k + 1)) * 48271 % 2147483629) % 2147483587).natAbs < 2 ^ 31 := by omega
      have b8 : ((((n % 1000003 + (k + 1) * (k + 1) * 7919 + (k + 1)) * 48271 % 2147483629) * ((n % 1000003 + (k + 1) * (k + 1) * 7919 + (k + 1)) * 48271 % 2147483629) % 2147483587) + 2).natAbs < 2 ^ 32 := by omega
      refine ⟨_, rfl, _, rfl, _, _, rfl, rfl, _, _, rfl, rfl, wide_mul b7 b8 (by decide) (by decide) (by decide), .inl ⟨_, rfl, _, _, rfl, rfl, m5, _, _, rfl, rfl, ⟨by decide, by decide +kernel⟩, ?_⟩⟩
      exact q n (k + 1) false _ n0 (by omega) (by omega) (by omega)
end

abbrev s__law_web : Stmt := topS 19
theorem sc__law_web : FnScope ["_law_draws_here", "_law_most", "_law_many", "_law_size", "_law_told", "_law_kind", "_law_k", "_law_turn", "_law_one", "_law_two"] ["_law_draws_here", "_law_most", "_law_many"] (defScope s__law_web) := ⟨rfl, rfl, rfl, by decide +kernel, rfl, by decide +kernel, by decide +kernel⟩
/-- all but the draws' own list stays -/
def SameX (a : Addr) (H H' : Hp) : Prop := ∀ b o, b ≠ a → H b = some o → H' b = some o
/-- as Loc, the draws' list may have changed -/
def DLoc (H : Hp) (a : Addr) (m : Nat) (H2 : Hp) (L : Led) : Prop := ∃ (n k : Int) (b : Bool), Loc (upd H a (drawO n k b)) H2 L ∧ 0 ≤ n ∧ 0 ≤ k ∧ k ≤ m
section
variable {H H2 : Hp} {a p : Addr} {m m' : Nat} {L M : Led} {o o' : HO}
theorem Draw.dloc (h : Draw H a m) : DLoc H a m H [] := by
  obtain ⟨n, k, b, h1, h2, h3, h4⟩ := h
  exact ⟨n, k, b, Loc.start h1, h2, h3, h4⟩
theorem DLoc.draw (l : DLoc H a m H2 L) : Draw H2 a m := by
  obtain ⟨n, k, b, l, h⟩ := l
  exact ⟨n, k, b, l.own, h⟩
theorem DLoc.mono (l : DLoc H a m H2 L) (h : m ≤ m') : DLoc H a m' H2 L := by
  obtain ⟨n, k, b, l, h1, h2, h3⟩ := l
  exact ⟨n, k, b, l, h1, h2, by omega⟩
theorem DLoc.next (l : DLoc H a m H2 L) {n k : Int} {b : Bool} (h1 : 0 ≤ n) (h2 : 0 ≤ k) (h3 : k ≤ (m : Int) + 1) : DLoc H a (m + 1) (upd H2 a (drawO n k b)) L := by
  obtain ⟨_, _, _, l, _⟩ := l
  exact ⟨n, k, b, l.bump, h1, h2, by omega⟩
theorem DLoc.alloc (l : DLoc H a m H2 L) (hp : H2 p = none) : DLoc H a m (upd H2 p o) ((p, o) :: L) := by
  obtain ⟨n, k, b, l, h⟩ := l
  exact ⟨n, k, b, l.alloc hp, h⟩
theorem DLoc.setIx (l : DLoc H a m H2 L) {i : Nat} (h : L[i]? = some (p, o)) : DLoc H a m (upd H2 p o') (L.set i (p, o')) := by
  obtain ⟨n, k, b, l, h'⟩ := l
  exact ⟨n, k, b, l.setIx h, h'⟩
theorem DLoc.atIx (l : DLoc H a m H2 L) {i : Nat} (h : L[i]? = some (p, o)) : H2 p = some o := by
  obtain ⟨n, k, b, l, _⟩ := l
  exact l.atIx h
theorem DLoc.here (l : DLoc H a m H2 L) {q : Addr × HO} (h : q ∈ L) : H2 q.1 = some q.2 := by
  obtain ⟨n, k, b, l, _⟩ := l
  exact l.here q h
theorem DLoc.keep (l : DLoc H a m H2 L) (s : M.Sublist L) : DLoc H a m H2 M := by
  obtain ⟨n, k, b, l, h⟩ := l
  exact ⟨n, k, b, l.keep s, h⟩
theorem DLoc.perm (l : DLoc H a m H2 L) (s : M.Perm L) : DLoc H a m H2 M := by
  obtain ⟨n, k, b, l, h⟩ := l
  exact ⟨n, k, b, l.perm s, h⟩
theorem DLoc.sameX (l : DLoc H a m H2 L) : SameX a H H2 := by
  obtain ⟨n, k, b, l, _⟩ := l
  intro c o hc e
  exact l.same c o (by rw [upd_ne hc]; exact e)
end
theorem pairL_snoc (ts : List (Addr × Int × Int)) (p : Addr) (x y : Int) : pairL (ts ++ [(p, x, y)]) = pairL ts ++ [(p, .tup [.int x, .int y])] := List.map_append ..
section
variable {P : Program} {w : World} {K : PySem.W.Frag} {mg : Str → Option Value} {base : Heap}
def sp__law_web (K : PySem.W.Frag) : Sp := fun vs H Q _ => ∃ (a : Addr) (m most many : Nat), vs = [.ref a, .int most, .int many] ∧ Draw H a m ∧ m ≤ 900000 ∧ 1 ≤ most ∧ most ≤ 16 ∧ many ≤ 16 ∧
  ∀ H' (T s : Addr) (n : Nat) web, SameX a H H' → Draw H' a (m + 64) → SqT K H' T [.int n, .ref s] → IsPairs K H' s web → ValidW n web → 1 ≤ n → n ≤ most → web.length < 64 → Q (.ref T) H'
theorem ok__law_web {f : Addr} {fd : FuncData} {k : Nat} (F : Fun K "_law_web" "_law_web" s__law_web f fd) (z_int : mg "int" = none) (z_range : mg "range" = none) (z_min : mg "min" = none) (z_max : mg "max" = none) (z_set : mg "set" = none) (z_sorted : mg "sorted" = none)
    (c__law_next : CalG P w K mg base k "_law_next" s__law_next ["_law_draws_here"] sp__law_next) : FG P w K mg base CX0 (k + 1) f fd ["_law_draws_here", "_law_most", "_law_many"] (sp__law_web K) := by
  refine fg_fun F sc__law_web (fun vs H Q E h => ?_) (fun cdv A out s H vs Q E hr hg h => ?_)
  · obtain ⟨a, _, _, _, rfl, _⟩ := h
    rfl
  · obtain ⟨a, m, most, many, rfl, hD, hm, g1, g2, g3, q⟩ := h
    have hu64 := hr.units
    have four : (0 : Int) < 4 := by decide
    refine ⟨_, (pss_cons (ps_set (i := 3) sc__law_web.nd rfl (.inl rfl) (pe_op op_add pe_int (pe_op op_mod (pe_callTy call_int1 (by rfl) z_int bt_int (pa_cons (pe_cG c__law_next hr (by omega) hg (by rfl) (pa_cons (pv 0) pa_nil)) pa_nil)) (pv 1))))
      (pss_cons (ps_set (i := 4) sc__law_web.nd rfl (.inl rfl) (pe_lst pa_nil))
      (pss_cons (ps_set (i := 5) sc__law_web.nd rfl (.inl rfl) (pe_op op_mod (pe_callTy call_int1 (by rfl) z_int bt_int (pa_cons (pe_cG c__law_next hr (by omega) hg (by rfl) (pa_cons (pv 0) pa_nil)) pa_nil)) pe_int))
      (pss_cons (ps_for PassesOwn.never rfl (pi_range2 (by rfl) z_range (pa_cons pe_int (pa_cons (pe_op op_add (pv 3) pe_int) pa_nil))) (pg_name (i := 6) sc__law_web.nd rfl (.inl rfl))
        (pss_one (ps_if (pt_cmpR op_gt (pv 5) pe_int (nomark _))
            (pss_one (ps_expr (pe_bmK K rfl PySem.F.plainAttrs_list PySem.F.slot_list_append PySem.F.type_list_append mt_append (pv 4) (pa_cons (pe_tup (pa_cons (pe_op op_add pe_int (pe_op op_mod (pe_callTy call_int1 (by rfl) z_int bt_int (pa_cons (pe_cG c__law_next hr (by omega) hg (by rfl) (pa_cons (pv 0) pa_nil)) pa_nil)) (pe_op op_sub (pv 6) pe_int))) (pa_cons (pv 6) pa_nil))) pa_nil))))
            pss_nil)))
      (pss_cons (ps_for PassesOwn.never rfl (pi_range1 (by rfl) z_range (pa_cons (pe_ifExp (pt_cmpR op_lt (pv 5) pe_int (nomark _)) (pe_op op_mod (pe_callTy call_int1 (by rfl) z_int bt_int (pa_cons (pe_cG c__law_next hr (by omega) hg (by rfl) (pa_cons (pv 0) pa_nil)) pa_nil)) (pe_op op_add (pv 2) pe_int)) pe_int) pa_nil)) (pg_name (i := 7) sc__law_web.nd rfl (.inl rfl))
        (pss_cons (ps_set (i := 8) sc__law_web.nd rfl (.inl rfl) (pe_op op_add pe_int (pe_op op_mod (pe_callTy call_int1 (by rfl) z_int bt_int (pa_cons (pe_cG c__law_next hr (by omega) hg (by rfl) (pa_cons (pv 0) pa_nil)) pa_nil)) (pv 3))))
          (pss_cons (ps_set (i := 9) sc__law_web.nd rfl (.inl rfl) (pe_op op_add pe_int (pe_op op_mod (pe_callTy call_int1 (by rfl) z_int bt_int (pa_cons (pe_cG c__law_next hr (by omega) hg (by rfl) (pa_cons (pv 0) pa_nil)) pa_nil)) (pv 3))))
          (pss_one (ps_set (i := 4) sc__law_web.nd rfl (.inl rfl) (pe_op op_cat (pv 4) (pe_op op_rep (pe_lst (pa_cons (pe_tup (pa_cons (pe_callB (call_min2 rfl) (by rfl) z_min bt_min (pa_cons (pv 8) (pa_cons (pv 9) pa_nil))) (pa_cons (pe_callB (call_max2 rfl) (by rfl) z_max bt_max (pa_cons (pv 8) (pa_cons (pv 9) pa_nil))) pa_nil))) pa_nil)) (pe_callTy call_int1 (by rfl) z_int bt_int (pa_cons (pe_cmpR op_ne (pv 8) (pv 9) (nomark _)) pa_nil)))))))))
      (pss_one (ps_ret (pe_tup (pa_cons (pv 3) (pa_cons (pe_callB (cr_sortedTK P w K rfl rfl rfl rfl) (by rfl) z_sorted bt_sorted (pa_cons (pe_callTy (cr_setOfTK P w K rfl rfl rfl rfl hu64) (by rfl) z_set bt_set (pa_cons (pv 4) pa_nil)) pa_nil)) pa_nil)))))))))), ?_⟩
    refine ⟨_, rfl, a, m, rfl, hD, by omega, fun n0 k0 b0 r0 i1 i2 i3 i4 => .inl ⟨_, rfl, _, rfl, _, _, rfl, rfl, (by show (0 : Int) < most; omega), _, _, rfl, rfl, ?_⟩⟩
    have l1 := hD.dloc.next (b := b0) i1 i2 i3
    have e1 : 0 ≤ r0 % (most : Int) := Int.emod_nonneg _ (by omega)
    have e2 : r0 % (most : Int) < most := Int.emod_lt_of_pos _ (by omega)
    dsimp only
    generalize hsz : 1 + r0 % (most : Int) = sz
    obtain ⟨n, rfl⟩ : ∃ n : Nat, sz = n := ⟨sz.toNat, by omega⟩
    have n1 : 1 ≤ n := by omega
    have n2 : n ≤ most := by omega
    clear e1 e2 hsz
    refine ⟨by decide, fun t ht => ?_⟩
    have l2 := l1.alloc (o := .lst []) ht
    refine ⟨_, rfl, a, m + 1, rfl, l2.draw, by omega, fun n0 k0 b0 r1 i1 i2 i3 i4 => .inl ⟨_, rfl, _, _, rfl, rfl, four, ?_⟩⟩
    have l3 := l2.next (b := b0) i1 i2 i3
    dsimp only
    generalize r1 % 4 = kd
    refine ⟨_, rfl, _, _, rfl, rfl, _, _, rfl, by omega, for_range (lo := 2) (n := ((n : Int) + 1 - 2).toNat)
      (fun i σ H2 => ∃ (ts : List (Addr × Int × Int)) (y6 : Option V), σ = [some (.ref a), some (.int most), some (.int many), some (.int n), some (.ref t), some (.int kd), y6, none, none, none] ∧
        ts.length ≤ i ∧ (∀ q ∈ ts, 1 ≤ q.2.1 ∧ q.2.1 < q.2.2 ∧ q.2.2 ≤ n) ∧ DLoc H a (m + 2 + i) H2 ((t, .lst (refs ts)) :: pairL ts)) ?_ ?_ ?_⟩
    · exact ⟨[], none, rfl, Nat.le_refl _, (fun _ z => nomatch z), l3⟩
    · rintro i σ H2 hi ⟨ts, y6, rfl, tl, tv, l⟩
      refine ⟨_, rfl, _, _, rfl, rfl, _, rfl, ite2 (fun hb => ?_) (fun hb => ?_)⟩
      · refine ⟨_, rfl, .inl ⟨rfl, _, SqL.of (l.atIx (i := 0) rfl)⟩, _, rfl, a, _, rfl, l.draw, by omega, fun n0 k0 b0 r2 i1 i2 i3 i4 => .inl ⟨_, rfl, _, rfl, _, _, rfl, rfl, _, _, rfl, rfl, (by show (0 : Int) < 2 + i - 1; omega), _, _, rfl, rfl, _, rfl, sl2, fun p hp => ?_⟩⟩
        have l4 := (l.next (b := b0) i1 i2 i3).alloc (o := .tup [.int (1 + r2 % (2 + (i : Int) - 1)), .int (2 + i)]) hp
        refine ⟨t, refs ts, _, rfl, rfl, l4.atIx (i := 1) rfl, sl_line' (by rw [refs_len]; omega), ?_⟩
        have e1 : 0 ≤ r2 % (2 + (i : Int) - 1) := Int.emod_nonneg _ (by omega)
        have e2 : r2 % (2 + (i : Int) - 1) < 2 + (i : Int) - 1 := Int.emod_lt_of_pos _ (by omega)
        refine ⟨ts ++ [(p, 1 + r2 % (2 + (i : Int) - 1), (2 : Int) + i)], _, rfl, by simp; omega, ?_, ?_⟩
        · intro q hq
          rcases List.mem_append.mp hq with hq | hq
          · exact tv q hq
          · cases List.mem_singleton.mp hq
            simp only
            omega
        · have l5 := l4.setIx (i := 1) (o' := .lst (refs ts ++ [.ref p])) rfl
          rw [refs_snoc, pairL_snoc]
          exact l5.perm (M := ((t, .lst (refs ts ++ [.ref p])) :: pairL ts) ++ [(p, _)]) List.perm_append_comm
      · exact ⟨ts, _, rfl, by omega, tv, l.mono (by omega)⟩
    · rintro σ H2 ⟨ts, y6, rfl, tl, tv, l⟩
      have lt0 : ts.length ≤ 15 := by omega
      have l0 : DLoc H a (m + 20) H2 ((t, .lst (refs ts)) :: pairL ts) := l.mono (by omega)
      clear l tl
      refine ⟨_, rfl, _, _, rfl, rfl, _, rfl, ite2 (fun hb => ?ct) (fun hb => ?cf)⟩
      case' cf =>
        have e0 : (0 : Int) ≤ 0 ∧ (0 : Int) ≤ many := by omega
        have l6 : DLoc H a (m + 21) H2 ((t, .lst (refs ts)) :: pairL ts) := l0.mono (by omega)
      case' ct =>
        refine ⟨_, rfl, a, _, rfl, l0.draw, by omega, fun n0 k0 b0 r2 i1 i2 i3 i4 => .inl ⟨_, rfl, _, rfl, _, _, rfl, rfl, _, _, rfl, rfl, (by show (0 : Int) < many + 1; omega), ?_⟩⟩
        have l6 := l0.next (b := b0) i1 i2 i3
        have e0 : 0 ≤ r2 % ((many : Int) + 1) ∧ r2 % ((many : Int) + 1) ≤ many := ⟨Int.emod_nonneg _ (by omega), by have := Int.emod_lt_of_pos r2 (show (0 : Int) < many + 1 by omega); omega⟩
      all_goals
        refine ⟨_, rfl, by omega, by omega, for_range (lo := 0) (n := _) (fun j σ H3 => ∃ (u : Addr) (us : List (Addr × Int × Int)) (y7 y8 y9 : Option V), σ = [some (.ref a), some (.int most), some (.int many), some (.int n), some (.ref u), some (.int kd), y6, y7, y8, y9] ∧
          us.length ≤ 15 + j ∧ (∀ q ∈ us, 1 ≤ q.2.1 ∧ q.2.1 < q.2.2 ∧ q.2.2 ≤ n) ∧ DLoc H a (m + 21 + 2 * j) H3 ((u, .lst (refs us)) :: pairL us)) ⟨t, ts, _, _, _, rfl, by omega, tv, l6⟩ ?_ ?_⟩
        · rintro j σ H3 hj ⟨u, us, y7, y8, y9, rfl, ul, uv, l⟩
          have hj2 : j < 16 := by omega
          refine ⟨_, rfl, a, _, rfl, l.draw, by omega, fun n0 k0 b0 x1 i1 i2 i3 i4 => .inl ⟨_, rfl, _, rfl, _, _, rfl, rfl, (by show (0 : Int) < n; omega), _, _, rfl, rfl, ?_⟩⟩
          have l7 := l.next (b := b0) i1 i2 i3
          refine ⟨_, rfl, a, _, rfl, l7.draw, by omega, fun n0 k0 b0 x2 i1 i2 i3 i4 => .inl ⟨_, rfl, _, rfl, _, _, rfl, rfl, (by show (0 : Int) < n; omega), _, _, rfl, rfl, ?_⟩⟩
          have l8 := l7.next (b := b0) i1 i2 i3
          have f1 : 0 ≤ x1 % (n : Int) ∧ x1 % (n : Int) < n := ⟨Int.emod_nonneg _ (by omega), Int.emod_lt_of_pos _ (by omega)⟩
          have f2 : 0 ≤ x2 % (n : Int) ∧ x2 % (n : Int) < n := ⟨Int.emod_nonneg _ (by omega), Int.emod_lt_of_pos _ (by omega)⟩
          dsimp only
          generalize x1 % (n : Int) = z1 at f1 ⊢
          generalize x2 % (n : Int) = z2 at f2 ⊢
          refine ⟨_, rfl, _, rfl, _, rfl, _, _, rfl, _, rfl, _, rfl, _, _, rfl, sl2, fun p hp => ⟨sl1, fun e he => ?_⟩⟩
          have l9 := (l8.alloc hp).alloc (o := .lst [.ref p]) he
          refine ⟨_, rfl, _, rfl, rfl, .inr ⟨_, rfl, e, _, _, rfl, rfl, l9.atIx (i := 0) rfl, ?_, ?_, ?_, fun rp hrp => ?_⟩⟩
          · split <;> omega
          · split <;> omega
          · split <;> exact Nat.le_of_lt (sl_line' (by simp))
          have l10 := l9.alloc (o := .lst (List.replicate (if (!decide (V.int (1 + z1) = V.int (1 + z2))) = true then (1 : Int) else 0).toNat [V.ref p]).flatten) hrp
          refine ⟨u, rp, refs us, _, rfl, rfl, l10.atIx (i := 3) rfl, l10.atIx (i := 0) rfl, ?_, fun u2 hu2 => ?_⟩
          · rw [refs_len]
            split <;> exact Nat.le_of_lt (sl_line' (by simp; omega))
          have l11 := l10.alloc (o := .lst (refs us ++ (List.replicate (if (!decide (V.int (1 + z1) = V.int (1 + z2))) = true then (1 : Int) else 0).toNat [V.ref p]).flatten)) hu2
          by_cases ez : z1 = z2
          · have ed : (!decide (V.int (1 + z1) = V.int (1 + z2))) = false := by rw [dVI]; simp [ez]
            rw [ed] at l11
            refine ⟨u2, us, _, _, _, rfl, by omega, uv, ?_⟩
            have l12 := l11.keep (M := (u2, .lst (refs us ++ (List.replicate (if false = true then (1 : Int) else 0).toNat [V.ref p]).flatten)) :: pairL us) (by
              refine List.Sublist.cons_cons _ ?_
              exact (((List.sublist_cons_self _ _).trans (List.sublist_cons_self _ _)).trans (List.sublist_cons_self _ _)).trans (List.sublist_cons_self _ _))
            have en : refs us ++ (List.replicate (if false = true then (1 : Int) else 0).toNat [V.ref p]).flatten = refs us := by simp
            rw [en] at l12
            rw [ed, en]
            exact l12.mono (by omega)
          · have ed : (!decide (V.int (1 + z1) = V.int (1 + z2))) = true := by rw [dVI]; simp; omega
            rw [ed] at l11
            have en : refs us ++ (List.replicate (if true = true then (1 : Int) else 0).toNat [V.ref p]).flatten = refs us ++ [.ref p] := by simp
            rw [en] at l11
            rw [ed, en]
            refine ⟨u2, us ++ [(p, (if 1 + z2 < 1 + z1 then 1 + z2 else 1 + z1), (if 1 + z2 > 1 + z1 then 1 + z2 else 1 + z1))], _, _, _, rfl, by simp; omega, ?_, ?_⟩
            · intro q hq
              rcases List.mem_append.mp hq with hq | hq
              · exact uv q hq
              · cases List.mem_singleton.mp hq
                simp only
                split <;> split <;> omega
            · rw [refs_snoc, pairL_snoc]
              have l12 := l11.keep (M := (u2, .lst (refs us ++ [.ref p])) :: (p, _) :: pairL us) (by
                refine List.Sublist.cons_cons _ ?_
                refine List.Sublist.cons _ (List.Sublist.cons _ (List.Sublist.cons_cons _ (List.sublist_cons_self _ _))))
              have l13 := l12.perm (M := ((u2, .lst (refs us ++ [.ref p])) :: pairL us) ++ [(p, _)]) (List.Perm.cons _ List.perm_append_comm)
              exact l13.mono (by omega)
        · rintro σ H3 ⟨u, us, y7, y8, y9, rfl, ul, uv, l⟩
          have ul2 : us.length ≤ 31 := by omega
          have lz : DLoc H a (m + 64) H3 ((u, .lst (refs us)) :: pairL us) := l.mono (by omega)
          have us_at : ∀ x ∈ us, H3 x.1 = some (.tup [.int x.2.1, .int x.2.2]) := fun x hx => lz.here (q := (x.1, .tup [.int x.2.1, .int x.2.2])) (List.mem_cons_of_mem _ (List.mem_map.mpr ⟨x, hx, rfl⟩))
          refine ⟨_, rfl, _, rfl, u, us.map fun x => (x.1, [x.2.1, x.2.2]), rfl, ?_, ?_, by rw [List.length_map]; omega, fun sa S hsa hS1 hS2 => ?_⟩
          · rw [List.map_map]
            exact SqL.of (lz.atIx (i := 0) rfl)
          · intro x hx
            obtain ⟨y, hy, rfl⟩ := List.mem_map.mp hx
            exact .inl (.inl (us_at y hy))
          have inS : ∀ x ∈ S, ∃ y ∈ us, x = (y.1, [y.2.1, y.2.2]) := fun x hx => by
            obtain ⟨y, hy, e⟩ := List.mem_map.mp (hS1 x hx)
            exact ⟨y, hy, e.symm⟩
          have lz2 := lz.alloc (o := SetTO P w sa S) hsa
          refine ⟨sa, S, 2, 64, rfl, upd_same, ?_, by decide, ?_, fun S' s pm nd few pw hs => ?_⟩
          · intro x hx
            obtain ⟨y, hy, rfl⟩ := inS x hx
            exact .inl (.inl (lz2.here (q := (y.1, .tup [.int y.2.1, .int y.2.2])) (List.mem_cons_of_mem _ (List.mem_cons_of_mem _ (List.mem_map.mpr ⟨y, hy, rfl⟩)))))
          · intro x hx
            obtain ⟨y, hy, rfl⟩ := inS x hx
            have := uv y hy
            refine ⟨rfl, fun z hz => ?_⟩
            simp only [List.mem_cons, List.not_mem_nil, or_false] at hz
            rcases hz with rfl | rfl <;> omega
          have inS' : ∀ x ∈ S', ∃ y ∈ us, x = (y.1, [y.2.1, y.2.2]) := fun x hx => inS x (pm.mem_iff.mp hx)
          have lz3 := lz2.alloc (o := .lst (S'.map fun q => V.ref q.1)) hs
          refine ⟨sl2, fun T hT => ?_⟩
          have lz4 := lz3.alloc (o := .tup [.int n, .ref s]) hT
          refine q _ T s n (S'.map fun x => (x.2.getD 0 0, x.2.getD 1 0)) lz4.sameX lz4.draw (.inl (.inl upd_same)) ⟨S'.map fun x => (x.1, x.2.getD 0 0, x.2.getD 1 0), ?_, ?_, ?_⟩ ⟨?_, ?_⟩ n1 n2 (by rw [List.length_map]; exact few)
          · unfold vals
            rw [List.map_map]
            rfl
          · unfold refs
            rw [List.map_map]
            exact SqL.of (lz4.atIx (i := 1) rfl)
          · intro x hx
            obtain ⟨z, hz, rfl⟩ := List.mem_map.mp hx
            obtain ⟨y, hy, rfl⟩ := inS' z hz
            exact .inl (.inl (lz4.here (q := (y.1, .tup [.int y.2.1, .int y.2.2])) (List.mem_cons_of_mem _ (List.mem_cons_of_mem _ (List.mem_cons_of_mem _ (List.mem_cons_of_mem _ (List.mem_map.mpr ⟨y, hy, rfl⟩)))))))
          · intro x hx
            obtain ⟨z, hz, rfl⟩ := List.mem_map.mp hx
            obtain ⟨y, hy, rfl⟩ := inS' z hz
            exact uv y hy
          · rw [List.pairwise_map]
            have nd' : S'.Pairwise fun x y => x.2 ≠ y.2 := List.pairwise_map.mp nd
            refine (pw.and nd').imp_of_mem fun {x y} hx hy h => ?_
            obtain ⟨x', hx', rfl⟩ := inS' x hx
            obtain ⟨y', hy', rfl⟩ := inS' y hy
            have v1 := uv x' hx'
            have v2 := uv y' hy'
            obtain ⟨h1, h2⟩ := h
            rw [code_pair, code_pair] at h1
            have h3 : ¬ (x'.2.1 = y'.2.1 ∧ x'.2.2 = y'.2.2) := fun z => h2 (by rw [z.1, z.2])
            show x'.2.1 < y'.2.1 ∨ (x'.2.1 = y'.2.1 ∧ x'.2.2 < y'.2.2)
            omega
end

abbrev s__law_log : Stmt := topS 20
theorem sc__law_log : FnScope ["_law_draws_here", "_law_some", "_law_left", "_law_told"] ["_law_draws_here", "_law_some"] (defScope s__law_log) := ⟨rfl, rfl, rfl, by decide +kernel, rfl, by decide +kernel, by decide +kernel⟩
theorem SameX.sqT {K : PySem.W.Frag} {H H' : Hp} {a t : Addr} {m : Nat} {xs : List V} (d : Draw H a m) (s : SameX a H H') (h : SqT K H t xs) : SqT K H' t xs := by
  obtain ⟨_, _, _, e, _⟩ := d
  rcases h with (h | ⟨o, h⟩) | h
  · exact .inl (.inl (s _ _ (fun z => by rw [z, e] at h; cases h) h))
  · exact .inl (.inr ⟨o, s _ _ (fun z => by rw [z, e] at h; cases h) h⟩)
  · exact .inr h
theorem IsPairs.growX {K : PySem.W.Frag} {H H' : Hp} {a t : Addr} {m : Nat} {ps : List (Int × Int)} (d : Draw H a m) (s : SameX a H H') (h : IsPairs K H t ps) : IsPairs K H' t ps := by
  obtain ⟨ts, e, h1, h2⟩ := h
  refine ⟨ts, e, ?_, fun x hx => s.sqT d (h2 x hx)⟩
  obtain ⟨n, k, b, ea, _⟩ := d
  rcases h1 with (h | ⟨o, h⟩) | h
  · refine .inl (.inl (s _ _ (fun z => ?_) h))
    rw [z, ea] at h
    have h' := Option.some.inj h
    unfold drawO at h'
    have h'' : [V.int n, V.int k, V.bl b] = refs ts := by injection h'
    cases ts with
    | nil => cases h''
    | cons x r => cases h''
  · exact .inl (.inr ⟨o, s _ _ (fun z => by rw [z, ea] at h; cases h) h⟩)
  · exact .inr h
theorem refs_erase {α : Type} : ∀ (us : List (Addr × α)) (k : Nat), (refs us).eraseIdx k = refs (us.eraseIdx k)
  | [], _ => rfl
  | _ :: _, 0 => rfl
  | x :: r, k + 1 => by
    show V.ref x.1 :: (refs r).eraseIdx k = V.ref x.1 :: refs (r.eraseIdx k)
    rw [refs_erase r k]
theorem erase_perm {α : Type} : ∀ {us : List α} {k : Nat} {x : α}, us[k]? = some x → us.Perm (x :: us.eraseIdx k)
  | [], _, _, h => by simp at h
  | y :: r, 0, x, h => by
    have e : y = x := by simpa using h
    subst e
    exact List.Perm.refl _
  | y :: r, k + 1, x, h => by
    have h2 : r[k]? = some x := by simpa using h
    exact ((erase_perm h2).cons y).trans (List.Perm.swap _ _ _)
section
variable {P : Program} {w : World} {K : PySem.W.Frag} {mg : Str → Option Value} {base : Heap}
def sp__law_log (K : PySem.W.Frag) : Sp := fun vs H Q _ => ∃ (a s : Addr) (m : Nat) (web : List (Int × Int)), vs = [.ref a, .ref s] ∧ Draw H a m ∧ m ≤ 900000 ∧ web.length ≤ 1000 ∧ IsPairs K H s web ∧
  ∀ H' p log, SameX a H H' → Draw H' a (m + web.length) → IsPairs K H' p log → log.Perm web → Q (.ref p) H'
theorem ok__law_log {f : Addr} {fd : FuncData} {k : Nat} (F : Fun K "_law_log" "_law_log" s__law_log f fd) (z_list : mg "list" = none) (z_int : mg "int" = none) (z_len : mg "len" = none)
    (c__law_next : CalG P w K mg base k "_law_next" s__law_next ["_law_draws_here"] sp__law_next) : FG P w K mg base CX0 (k + 1) f fd ["_law_draws_here", "_law_some"] (sp__law_log K) := by
  refine fg_fun F sc__law_log (fun vs H Q E h => ?_) (fun cdv A out s H vs Q E hr hg h => ?_)
  · obtain ⟨a, s, m, web, rfl, _⟩ := h
    rfl
  · obtain ⟨a, s, m, web, rfl, hD, hm, hw, hp, q⟩ := h
    have hu64 := hr.units
    refine ⟨_, (pss_cons (ps_set (i := 2) sc__law_log.nd rfl (.inl rfl) (pe_callTy (call_list_ofK K rfl) (by rfl) z_list bt_list (pa_cons (pv 1) pa_nil)))
      (pss_cons (ps_set (i := 3) sc__law_log.nd rfl (.inl rfl) (pe_lst pa_nil))
      (pss_cons (ps_while PassesOwn.never (pt_cmpR (op_neDK K rfl hu64) (pv 2) (pe_lst pa_nil) (nomark _))
        (pss_one (ps_expr (pe_bmK K rfl PySem.F.plainAttrs_list PySem.F.slot_list_append PySem.F.type_list_append mt_append (pv 3) (pa_cons (pe_bmK K rfl PySem.F.plainAttrs_list PySem.F.slot_list_pop PySem.F.type_list_pop mt_popAt (pv 2) (pa_cons (pe_op op_mod (pe_callTy call_int1 (by rfl) z_int bt_int (pa_cons (pe_cG c__law_next hr (by omega) hg (by rfl) (pa_cons (pv 0) pa_nil)) pa_nil)) (pe_callB (call_len_seqK K rfl) (by rfl) z_len bt_len (pa_cons (pv 2) pa_nil))) pa_nil)) pa_nil)))))
      (pss_one (ps_ret (pv 3)))))), ?_⟩
    obtain ⟨ts, ets, hts, htt⟩ := hp
    have ltw : ts.length = web.length := by rw [← ets, vals_len]
    refine ⟨_, rfl, s, refs ts, rfl, .inl hts, fun L hL => ⟨by decide, fun T hT => ?_⟩⟩
    have l0 := (hD.dloc.alloc (o := .lst (refs ts)) hL).alloc (o := .lst []) hT
    refine ⟨fun k σ H2 => ∃ us vs : List (Addr × Int × Int), σ = [some (.ref a), some (.ref s), some (.ref L), some (.ref T)] ∧ us.length = k ∧ (us ++ vs).Perm ts ∧ DLoc H a (m + vs.length) H2 [(T, .lst (refs vs)), (L, .lst (refs us))],
      ⟨_, ts, [], rfl, rfl, by rw [List.append_nil], l0⟩, ?_⟩
    rintro k σ H2 ⟨us, vs, rfl, ek, pm, l⟩
    have ln : us.length + vs.length = web.length := by
      have := pm.length_eq
      rw [List.length_append] at this
      omega
    have us_at : ∀ x ∈ us, SqT K H2 x.1 [.int x.2.1, .int x.2.2] := fun x hx => l.sameX.sqT hD (htt x (pm.mem_iff.mp (List.mem_append_left _ hx)))
    have isp : IsPairs K H2 L (vals us) := ⟨us, rfl, SqL.of (l.atIx (i := 1) rfl), us_at⟩
    refine ⟨_, rfl, by decide, fun e he => ⟨dP (vals us), dP [], (isp.grow ((Loc.refl H2).alloc (o := .lst []) he).same).dp, IsPairs.dp (K := K) (ps := []) ⟨[], rfl, SqL.of upd_same, (fun _ z => nomatch z)⟩, shaped_dP _, shaped_dP _, _, rfl, ?_⟩⟩
    rw [eqv_dP_nil]
    have l2 := (l.alloc (o := .lst []) he).keep (List.sublist_cons_self _ _)
    refine ite2 (fun hb => ?_) (fun hb => ?_)
    · have ne : us ≠ [] := fun z => by rw [z] at hb; simp [vals] at hb
      have pos : 0 < us.length := List.length_pos_iff.mpr ne
      refine ⟨fun σ' H' => ∃ m', m' < k ∧ _, fun _ _ z => z, ?_⟩
      refine ⟨_, rfl, .inl ⟨rfl, _, SqL.of (l2.atIx (i := 0) rfl)⟩, _, rfl, .inl ⟨rfl, _, SqL.of (l2.atIx (i := 1) rfl)⟩, _, rfl, a, _, rfl, l2.draw, by omega, fun n0 k0 b0 r i1 i2 i3 i4 => .inl ⟨_, rfl, ?_⟩⟩
      have l3 := l2.next (b := b0) i1 i2 i3
      have lr : (refs us).length = us.length := refs_len us
      have e1 : 0 ≤ r % ((refs us).length : Int) := Int.emod_nonneg _ (by omega)
      have e2 : r % ((refs us).length : Int) < (refs us).length := Int.emod_lt_of_pos _ (by omega)
      have hk : (r % ((refs us).length : Int)).toNat < us.length := by omega
      obtain ⟨y, hy⟩ : ∃ y, us[(r % ((refs us).length : Int)).toNat]? = some y := ⟨_, List.getElem?_eq_getElem hk⟩
      have lens : (us.eraseIdx (r % ((refs us).length : Int)).toNat).length + 1 = us.length := by
        rw [List.length_eraseIdx_of_lt hk]; omega
      refine ⟨_, rfl, L, _, rfl, .inl (SqL.of (l3.atIx (i := 1) rfl)), _, _, rfl, rfl, (by show (0 : Int) < (refs us).length; omega), L, refs us, _, (r % ((refs us).length : Int)).toNat, .ref y.1, rfl, rfl, l3.atIx (i := 1) rfl, by omega, by omega,
        (ixN_seq (ixI e1 (by omega))).1, refs_get (r := y.2) hy, ?_⟩
      rw [refs_erase]
      have l4 := l3.setIx (i := 1) (o' := .lst (refs (us.eraseIdx (r % ((refs us).length : Int)).toNat))) rfl
      refine ⟨T, refs vs, _, rfl, rfl, l4.atIx (i := 0) rfl, sl_line' (by rw [refs_len]; omega), ?_⟩
      have l5 := l4.setIx (i := 0) (o' := .lst (refs vs ++ [.ref y.1])) rfl
      refine ⟨_, ?_, us.eraseIdx (r % ((refs us).length : Int)).toNat, vs ++ [y], rfl, rfl, ?_, ?_⟩
      · omega
      · have p1 := (erase_perm hy).append_right vs
        refine List.Perm.trans ?_ (p1.symm.trans pm)
        rw [← List.append_assoc]
        exact List.perm_append_comm (l₂ := [y])
      · rw [refs_snoc, List.length_append, List.length_singleton, ← Nat.add_assoc]
        exact l5
    · have ue : us = [] := by
        cases us with
        | nil => rfl
        | cons x r => exact absurd (by simp [vals]) hb
      subst ue
      have vl : vs.length = web.length := by simpa using ln
      rw [vl] at l2
      refine ⟨_, rfl, q _ T (vals vs) l2.sameX l2.draw ⟨vs, rfl, SqL.of (l2.atIx (i := 0) rfl), fun x hx => l2.sameX.sqT hD (htt x (pm.mem_iff.mp (List.mem_append_right _ hx)))⟩ ?_⟩
      rw [← ets]
      exact (pm.map Prod.snd)
end

abbrev s__law_sorted : Stmt := topS 22
theorem sc__law_sorted : FnScope ["_law_draws_here", "_law_made", "_law_numbers", "_law_keys", "_law_at", "_law_number", "_law_far"] ["_law_draws_here", "_law_made", "_law_numbers"] (defScope s__law_sorted) := ⟨rfl, rfl, rfl, by decide +kernel, rfl, by decide +kernel, by decide +kernel⟩
theorem SameX.sqI {K : PySem.W.Frag} {H H' : Hp} {a t : Addr} {m : Nat} {ns : List Int} (d : Draw H a m) (s : SameX a H H') (h : SqL K H t (iv ns)) : SqL K H' t (iv ns) := by
  obtain ⟨n, k, b, ea, _⟩ := d
  rcases h with (h | ⟨o, h⟩) | h
  · refine .inl (.inl (s _ _ (fun z => ?_) h))
    rw [z, ea] at h
    have h' := Option.some.inj h
    unfold drawO at h'
    have h'' : [V.int n, V.int k, V.bl b] = iv ns := by injection h'
    match ns, h'' with
    | [x, y, z], h'' => cases h''
  · exact .inl (.inr ⟨o, s _ _ (fun z => by rw [z, ea] at h; cases h) h⟩)
  · exact .inr h
theorem SameX.sqR' {α : Type} {K : PySem.W.Frag} {H H' : Hp} {a t : Addr} {m : Nat} {ts : List (Addr × α)} (d : Draw H a m) (s : SameX a H H') (h : SqL K H t (refs ts)) : SqL K H' t (refs ts) := by
  obtain ⟨n, k, b, ea, _⟩ := d
  rcases h with (h | ⟨o, h⟩) | h
  · refine .inl (.inl (s _ _ (fun z => ?_) h))
    rw [z, ea] at h
    have h' := Option.some.inj h
    unfold drawO at h'
    have h'' : [V.int n, V.int k, V.bl b] = refs ts := by injection h'
    cases ts with
    | nil => cases h''
    | cons x r => cases h''
  · exact .inl (.inr ⟨o, s _ _ (fun z => by rw [z, ea] at h; cases h) h⟩)
  · exact .inr h
def rowT (ks : List (Addr × List Int)) : Led := ks.map fun q => (q.1, HO.tup (iv q.2))
theorem rowT_snoc (ks : List (Addr × List Int)) (q : Addr × List Int) : rowT (ks ++ [q]) = rowT ks ++ [(q.1, .tup (iv q.2))] := List.map_append ..
section
variable {P : Program} {w : World} {K : PySem.W.Frag} {mg : Str → Option Value} {base : Heap}
def sp__law_sorted (K : PySem.W.Frag) : Sp := fun vs H Q _ => ∃ (a s d : Addr) (m : Nat) (log : List (Int × Int)), vs = [.ref a, .ref s, .ref d] ∧ Draw H a m ∧ m ≤ 900000 ∧ log.length < 64 ∧ IsPairs K H s log ∧ IsInts K H d (turnsL log) ∧
  ∀ H' p (Z : List (Int × Int × Int)), SameX a H H' → Draw H' a (m + log.length) → Z.Perm (zipT log) → Z.Pairwise (fun x y => x.1 ≤ y.1) → IsPairs K H' p (Z.map Prod.snd) → Q (.ref p) H'
theorem ok__law_sorted {f : Addr} {fd : FuncData} {k : Nat} (F : Fun K "_law_sorted" "_law_sorted" s__law_sorted f fd) (z_enumerate : mg "enumerate" = none) (z_int : mg "int" = none) (z_sorted : mg "sorted" = none)
    (c__law_next : CalG P w K mg base k "_law_next" s__law_next ["_law_draws_here"] sp__law_next) : FG P w K mg base CX0 (k + 1) f fd ["_law_draws_here", "_law_made", "_law_numbers"] (sp__law_sorted K) := by
  refine fg_fun F sc__law_sorted (fun vs H Q E h => ?_) (fun cdv A out s H vs Q E hr hg h => ?_)
  · obtain ⟨a, s, d, m, log, rfl, _⟩ := h
    rfl
  · obtain ⟨a, s, d, m, log, rfl, hD, hm, hl, hp, hd, q⟩ := h
    have fifty : (0 : Int) < 50 := by decide
    refine ⟨_, (pss_cons (ps_setLc (i := 3) (own := [("_law_at", 4), ("_law_number", 5)]) (tt := tYes) rfl sc__law_sorted.nd rfl rfl (sw_true rfl rfl rfl (by decide +kernel)) (pi_enumK K rfl (by rfl) z_enumerate (pa_cons (pv 2) pa_nil)) (blkOk_by (N := ["_law_draws_here", "_law_made", "_law_numbers", "_law_keys", "_law_at", "_law_number", "_law_far"]) (sc := defScope s__law_sorted) (by decide +kernel)) (fun _ _ _ _ _ => (pg_tupK (n := 2) K rfl rfl (pgs_cons (pg_name (i := 4) sc__law_sorted.nd rfl (Or.inl rfl)) (pgs_cons (pg_name (i := 5) sc__law_sorted.nd rfl (Or.inl rfl)) pgs_nil)))) (fun _ _ _ _ _ => pts_nil) (fun _ _ _ _ _ => (pe_tup (pa_cons (pv 5) (pa_cons (pe_op op_mod (pe_callTy call_int1 (by rfl) z_int bt_int (pa_cons (pe_cG c__law_next hr (by omega) hg (by rfl) (pa_cons (pv 0) pa_nil)) pa_nil)) pe_int) (pa_cons (pv 4) pa_nil))))))
      (pss_one (ps_ret (pe_lc (own := [("_law_number", 5), ("_law_far", 6), ("_law_at", 4)]) (tt := tYes) rfl sc__law_sorted.nd (pi_listK K rfl (pe_callB (cr_sortedTLK K rfl) (by rfl) z_sorted bt_sorted (pa_cons (pv 3) pa_nil))) (blkOk_by (N := ["_law_draws_here", "_law_made", "_law_numbers", "_law_keys", "_law_at", "_law_number", "_law_far"]) (sc := defScope s__law_sorted) (by decide +kernel)) (fun _ _ _ _ _ => (pg_tupK (n := 3) K rfl rfl (pgs_cons (pg_name (i := 5) sc__law_sorted.nd rfl (Or.inl rfl)) (pgs_cons (pg_name (i := 6) sc__law_sorted.nd rfl (Or.inl rfl)) (pgs_cons (pg_name (i := 4) sc__law_sorted.nd rfl (Or.inl rfl)) pgs_nil))))) (fun _ _ _ _ _ => pts_nil) (fun _ _ _ _ _ => (pe_ix (ix_listK K rfl) (pv 1) (pv 4) (fun _ _ => rfl))))))), ?_⟩
    obtain ⟨ts, ets, hts, htt⟩ := hp
    have tl := turnsL_len log
    have tb := (turnsL_le log).1
    refine ⟨_, rfl, d, iv (turnsL log), rfl, hd, fun D hDn => lc_enum (K := K) (a := d) (xs := iv (turnsL log))
      (fun i H2 => ∃ ks : List (Addr × List Int), ks.length = i ∧ (∀ (j : Nat) (q : Addr × List Int), ks[j]? = some q → ∃ t r : Int, (turnsL log)[j]? = some t ∧ q.2 = [t, r, (j : Int)] ∧ 0 ≤ r ∧ r < 50) ∧ DLoc H a (m + i) H2 ((D, .lst (refs ks)) :: rowT ks)) ⟨[], rfl, (fun j q h => by simp at h), hD.dloc.alloc hDn⟩ ?_ ?_ ?_⟩
    · rintro i H2 ⟨_, _, _, l⟩
      exact l.sameX.sqI hD hd
    · rintro i x H2 T hx ⟨ks, kl, kq, l⟩ hT
      obtain ⟨t, ht, rfl⟩ := iv_inv hx
      have hi : i < log.length := by have := (List.getElem?_eq_some_iff.mp ht).1; omega
      have l1 := (l.alloc (o := .tup [.int (i : Nat), .int t]) hT).keep (List.sublist_cons_self _ _)
      refine ⟨T, _, rfl, .inl (.inl upd_same), rfl, _, _, rfl, _, _, rfl, rfl, rfl, ?_⟩
      refine ⟨_, rfl, _, rfl, a, _, rfl, l1.draw, by omega, fun n0 k0 b0 r i1 i2 i3 i4 => .inl ⟨_, rfl, _, _, rfl, rfl, fifty, _, rfl, sl3, fun p hp => ?_⟩⟩
      have l2 := (l1.next (b := b0) i1 i2 i3).alloc (o := .tup (iv [t, r % 50, (i : Int)])) hp
      refine ⟨refs ks, l2.atIx (i := 1) rfl, sl_line' (by rw [refs_len]; omega), ks ++ [(p, [t, r % 50, (i : Int)])], by simp; omega, fun j q hj => ?_, ?_⟩
      · by_cases h : j < ks.length
        · rw [List.getElem?_append_left h] at hj
          exact kq j q hj
        · have hj2 := (List.getElem?_eq_some_iff.mp hj).1
          rw [List.length_append, List.length_singleton] at hj2
          have ej : j = ks.length := by omega
          subst ej
          rw [List.getElem?_append_right (Nat.le_refl _), Nat.sub_self] at hj
          have hq : q = (p, [t, r % 50, (i : Int)]) := by simpa using hj.symm
          subst hq
          refine ⟨t, r % 50, by rw [kl]; exact ht, by rw [kl], by omega, by omega⟩
      · have l3 := l2.setIx (i := 1) (o' := .lst (refs ks ++ [.ref p])) rfl
        rw [refs_snoc, rowT_snoc]
        exact l3.perm (M := ((D, .lst (refs ks ++ [.ref p])) :: rowT ks) ++ [(p, _)]) List.perm_append_comm
    · rintro H2 ⟨ks, kl, kq, l⟩
      rw [iv_len, tl] at kl
      rw [iv_len, tl] at l
      have kin : ∀ p ∈ ks, ∃ (j : Nat) (t r : Int) (e : Int × Int), log[j]? = some e ∧ (turnsL log)[j]? = some t ∧ p.2 = [t, r, (j : Int)] ∧ 0 ≤ r ∧ r < 50 ∧ 1 ≤ t ∧ t < 64 := fun p hp => by
        obtain ⟨j, hj⟩ := List.getElem?_of_mem hp
        obtain ⟨t, r, h1, h2, h3, h4⟩ := kq j p hj
        have hj2 : j < log.length := by have := (List.getElem?_eq_some_iff.mp h1).1; omega
        have := tb t (List.mem_of_getElem? h1)
        exact ⟨j, t, r, _, List.getElem?_eq_getElem hj2, h1, h2, h3, h4, by omega, by omega⟩
      refine ⟨_, rfl, D, ks, 3, 64, rfl, SqL.of (l.atIx (i := 0) rfl), fun p hp => .inl (.inl (l.here (q := (p.1, .tup (iv p.2))) (List.mem_cons_of_mem _ (List.mem_map.mpr ⟨p, hp, rfl⟩)))), by omega, by decide, fun p hp => ?_, fun ks' p pm pw hpn => ?_⟩
      · obtain ⟨j, t, r, e, h1, h2, h3, h4, h5, h6, h7⟩ := kin p hp
        rw [h3]
        refine ⟨rfl, fun z hz => ?_⟩
        have hj : j < log.length := (List.getElem?_eq_some_iff.mp h1).1
        simp only [List.mem_cons, List.not_mem_nil, or_false] at hz
        rcases hz with rfl | rfl | rfl <;> omega
      have kin' : ∀ p ∈ ks', ∃ (j : Nat) (t r : Int) (e : Int × Int), log[j]? = some e ∧ (turnsL log)[j]? = some t ∧ p.2 = [t, r, (j : Int)] ∧ 0 ≤ r ∧ r < 50 ∧ 1 ≤ t ∧ t < 64 := fun p hp => kin p (pm.mem_iff.mp hp)
      have l2 := l.alloc (o := .lst (refs ks')) hpn
      have kl' : ks'.length = log.length := by rw [pm.length_eq, kl]
      have f0 : ∀ (q : Addr × List Int) (j : Nat) (t r : Int) (e : Int × Int), log[j]? = some e → q.2 = [t, r, (j : Int)] → (q.2.getD 0 0, log.getD (q.2.getD 2 0).toNat (0, 0)) = (t, e) := fun q j t r e h1 h2 => by
        rw [h2]
        simp only [List.getD_eq_getElem?_getD]
        have : ([t, r, (j : Int)][2]?.getD 0).toNat = j := by simp
        rw [this, h1]
        rfl
      have zk : ks.map (fun q : Addr × List Int => ((q.2.getD 0 0, log.getD (q.2.getD 2 0).toNat (0, 0)) : Int × Int × Int)) = zipT log := by
        refine List.ext_getElem? fun j => ?_
        by_cases hj : j < ks.length
        · have h1 := List.getElem?_eq_getElem hj
          obtain ⟨t, r, h2, h3, _, _⟩ := kq j _ h1
          have hjl : j < log.length := by omega
          rw [List.getElem?_map, h1]
          have ff := f0 _ j t r _ (List.getElem?_eq_getElem hjl) h3
          show some (ks[j].2.getD 0 0, log.getD (ks[j].2.getD 2 0).toNat (0, 0)) = _
          rw [ff]
          unfold zipT
          exact (List.getElem?_zip_eq_some (z := (t, log[j])).mpr ⟨h2, List.getElem?_eq_getElem hjl⟩).symm
        · rw [List.getElem?_eq_none (by rw [List.length_map]; omega), List.getElem?_eq_none]
          unfold zipT
          rw [List.length_zip, tl]
          omega
      refine ⟨p, rfl, ⟨_, SqL.of (l2.atIx (i := 0) rfl)⟩, fun D2 hD2 => lc_list (K := K) (a := p) (xs := refs ks')
        (fun i H3 => ∃ us : List (Addr × Int × Int), vals us = (ks'.take i).map (fun q => log.getD (q.2.getD 2 0).toNat (0, 0)) ∧ (∀ x ∈ us, x ∈ ts) ∧ DLoc H a (m + log.length) H3 ((D2, .lst (refs us)) :: (p, .lst (refs ks')) :: (D, .lst (refs ks)) :: rowT ks)) ⟨[], rfl, (fun _ z => nomatch z), l2.alloc hD2⟩
        (fun i H3 _ h => by obtain ⟨_, _, _, l⟩ := h; exact SqL.of (l.atIx (i := 1) rfl)) ?_ ?_⟩
      · rintro i x H3 hx ⟨us, ev, sub, l3⟩
        obtain ⟨⟨b, row⟩, hq, rfl⟩ := refs_inv hx
        have hmem := List.mem_of_getElem? hq
        obtain ⟨j, t, r, e, h1, h2, h3, _⟩ := kin' _ hmem
        have h3 : row = [t, r, (j : Int)] := h3
        subst h3
        have hj : j < log.length := (List.getElem?_eq_some_iff.mp h1).1
        have hrow : SqT K H3 b (iv [t, r, (j : Int)]) := .inl (.inl (l3.here (q := (b, .tup (iv [t, r, (j : Int)]))) (List.mem_cons_of_mem _ (List.mem_cons_of_mem _ (List.mem_cons_of_mem _ (List.mem_map.mpr ⟨_, pm.mem_iff.mp hmem, rfl⟩))))))
        obtain ⟨⟨tp, te⟩, htp⟩ : ∃ x, ts[j]? = some x := ⟨_, List.getElem?_eq_getElem (by have := congrArg List.length ets; rw [vals_len] at this; omega)⟩
        have ete : te = e := by
          have h : (vals ts)[j]? = some te := by unfold vals; rw [List.getElem?_map, htp]; rfl
          rw [ets, h1] at h
          exact (Option.some.inj h).symm
        have ul : us.length ≤ ks'.length := by
          have := congrArg List.length ev
          rw [vals_len, List.length_map] at this
          have := List.length_take_le' i ks'
          omega
        refine ⟨b, _, rfl, hrow, rfl, _, _, rfl, _, _, rfl, _, _, rfl, rfl, rfl, ?_⟩
        refine ⟨_, rfl, _, rfl, s, refs ts, _, _, rfl, rfl, l3.sameX.sqR' hD hts, at_of (j := j) rfl (refs_get htp), refs us, l3.atIx (i := 0) rfl, sl_line' (by rw [refs_len]; omega), us ++ [(tp, te)], ?_, ?_, ?_⟩
        · rw [take_snoc hq, List.map_append, ← ev, ete]
          have := congrArg Prod.snd (f0 (b, [t, r, (j : Int)]) j t r e h1 rfl)
          unfold vals
          rw [List.map_append]
          have this : log.getD (([t, r, (j : Int)] : List Int).getD 2 0).toNat (0, 0) = e := this
          show _ ++ [e] = _ ++ [log.getD (([t, r, (j : Int)] : List Int).getD 2 0).toNat (0, 0)]
          rw [this]
        · intro x hx
          rcases List.mem_append.mp hx with hx | hx
          · exact sub x hx
          · cases List.mem_singleton.mp hx
            exact List.mem_of_getElem? htp
        · rw [refs_snoc]
          exact l3.setIx (i := 0) (o' := .lst (refs us ++ [.ref tp])) rfl
      · rintro H3 ⟨us, ev, sub, l3⟩
        rw [refs_len, List.take_length] at ev
        refine q H3 D2 (ks'.map fun q => (q.2.getD 0 0, log.getD (q.2.getD 2 0).toNat (0, 0))) l3.sameX l3.draw ?_ ?_ ⟨us, ?_, SqL.of (l3.atIx (i := 0) rfl), fun x hx => l3.sameX.sqT hD (htt x (sub x hx))⟩
        · rw [← zk]; exact pm.map _
        · rw [List.pairwise_map]
          refine pw.imp_of_mem fun {x y} hx hy h => ?_
          obtain ⟨j1, t1, r1, e1, _, _, hx3, x4, x5, _, _⟩ := kin' x hx
          obtain ⟨j2, t2, r2, e2, hy1, _, hy3, y4, y5, _, _⟩ := kin' y hy
          rw [hx3, hy3] at h ⊢
          have hj2 : j2 < log.length := (List.getElem?_eq_some_iff.mp hy1).1
          have c : ∀ t r i : Int, TS.code 64 [t, r, i] = t * 4096 + (r * 64 + i) := fun t r i => by
            show t * 64 ^ 2 + (r * 64 ^ 1 + (i * 64 ^ 0 + 0)) = _
            omega
          rw [c, c] at h
          show t1 ≤ t2
          omega
        · rw [ev, List.map_map]
          rfl
end

abbrev s_ways_after : Stmt := topS 10
theorem sc_ways_after : FnScope ["cells", "log", "ways", "things", "first", "second", "cell"] ["cells", "log"] (defScope s_ways_after) := ⟨rfl, rfl, rfl, by decide +kernel, rfl, by decide +kernel, by decide +kernel⟩
abbrev s_ends_after : Stmt := topS 11
theorem sc_ends_after : FnScope ["cells", "log", "way"] ["cells", "log"] (defScope s_ends_after) := ⟨rfl, rfl, rfl, by decide +kernel, rfl, by decide +kernel, by decide +kernel⟩
section
variable {P : Program} {w : World} {K : PySem.W.Frag} {mg : Str → Option Value} {base : Heap}
def sp_ways_after (K : PySem.W.Frag) : Sp := fun vs H Q _ => ∃ (n : Nat) (a : Addr) (log : List (Int × Int)), vs = [.int n, .ref a] ∧ n ≤ 16 ∧ log.length ≤ 1000 ∧ ValidL n log ∧ IsPairs K H a log ∧
  ∀ H' p (rs : List (Addr × List Int)), Loc H H' ((p, .lst (refs rs)) :: rowL rs) → vals rs = waysL n log → Q (.ref p) H'
theorem ok_ways_after {f : Addr} {fd : FuncData} {k : Nat} (F : Fun K "ways_after" "ways_after" s_ways_after f fd) (z_range : mg "range" = none) (z_list : mg "list" = none) : FG P w K mg base CX0 (k + 1) f fd ["cells", "log"] (sp_ways_after K) := by
  refine fg_fun F sc_ways_after (fun vs H Q E h => ?_) (fun cdv A out s H vs Q E hr hg h => ?_)
  · obtain ⟨n, a, log, rfl, _⟩ := h
    rfl
  · obtain ⟨n, a, log, rfl, hn, hl, hv, hp, q⟩ := h
    refine ⟨_, (pss_cons (ps_setLc (i := 2) (own := [("cell", 6)]) (tt := tYes) rfl sc_ways_after.nd rfl rfl (sw_true rfl rfl rfl (by decide +kernel)) (pi_range2 (by rfl) z_range (pa_cons pe_int (pa_cons (pe_op op_add (pv 0) pe_int) pa_nil))) (blkOk_by (N := ["cells", "log", "ways", "things", "first", "second", "cell"]) (sc := defScope s_ways_after) (by decide +kernel)) (fun _ _ _ _ _ => (pg_name (i := 6) sc_ways_after.nd rfl (Or.inl rfl))) (fun _ _ _ _ _ => pts_nil) (fun _ _ _ _ _ => (pe_lst (pa_cons (pv 6) pa_nil))))
      (pss_cons (ps_set (i := 3) sc_ways_after.nd rfl (.inl rfl) (pe_listRg rfl (by rfl) z_list (prg_1 (by rfl) z_range (pe_op op_add (pv 0) pe_int))))
      (pss_cons (ps_for PassesOwn.never rfl (pi_listK K rfl (pv 1)) (pg_tupK K rfl rfl (pgs_cons (pg_name (i := 4) sc_ways_after.nd rfl (.inl rfl)) (pgs_cons (pg_name (i := 5) sc_ways_after.nd rfl (.inl rfl)) pgs_nil)))
        (pss_cons (ps_expr (pe_bmK K rfl PySem.F.plainAttrs_list PySem.F.slot_list_append PySem.F.type_list_append mt_append (pe_ix (ix_listK K rfl) (pv 2) (pe_op op_sub (pe_ix (ix_listK K rfl) (pv 3) (pv 4) (fun _ _ => rfl)) pe_int) (fun _ _ => rfl)) (pa_cons (pv 5) pa_nil)))
          (pss_cons (ps_expr (pe_bmK K rfl PySem.F.plainAttrs_list PySem.F.slot_list_append PySem.F.type_list_append mt_append (pe_ix (ix_listK K rfl) (pv 2) (pe_op op_sub (pe_ix (ix_listK K rfl) (pv 3) (pv 5) (fun _ _ => rfl)) pe_int) (fun _ _ => rfl)) (pa_cons (pv 4) pa_nil)))
          (pss_one (ps_asg (pe_tup (pa_cons (pe_ix (ix_listK K rfl) (pv 3) (pv 5) (fun _ _ => rfl)) (pa_cons (pe_ix (ix_listK K rfl) (pv 3) (pv 4) (fun _ _ => rfl)) pa_nil))) (pg_tupK K rfl rfl (pgs_cons (pg_sub (pv 3) (pv 4) set_list) (pgs_cons (pg_sub (pv 3) (pv 5) set_list) pgs_nil))))))))
      (pss_one (ps_ret (pv 2)))))), ?_⟩
    refine ⟨_, rfl, _, _, rfl, rfl, _, _, rfl, by omega, fun t ht => lc_range (lo := 1) (n := ((n : Int) + 1 - 1).toNat)
      (fun i H1 => ∃ rs : List (Addr × List Int), vals rs = tab i (fun m => way [] (m + 1)) ∧ Loc H H1 ((t, .lst (refs rs)) :: rowL rs)) ?_ ?_ ?_⟩
    · exact ⟨[], rfl, (Loc.refl H).alloc ht⟩
    · rintro i H1 hi ⟨rs, e, l⟩
      refine ⟨rfl, _, rfl, sl1, fun p hp' => ⟨refs rs, ?_, ?_, rs ++ [(p, [1 + (i : Int)])], ?_, l.rowNew (row := [1 + (i : Int)]) hp'⟩⟩
      · rw [upd_ne (ne_of_none l.at0 hp')]; exact l.at0
      · have := congrArg List.length e
        rw [vals_len, tab_len] at this
        exact sl_line' (by rw [refs_len]; omega)
      · rw [tab_succ, ← e]
        unfold vals
        rw [List.map_append, show way [] ((i : Int) + 1) = [1 + (i : Int)] from by show [(i : Int) + 1] = _; rw [Int.add_comm]]
        rfl
    · rintro H1 ⟨rs, e, l⟩
      have e1 : ((n : Int) + 1 - 1).toNat = n := by omega
      rw [e1] at e
      refine ⟨_, rfl, _, _, rfl, rfl, _, rfl, RgOk.of_le (by omega) (by omega) (by omega) (by omega), fun th hth => ?_⟩
      rw [thgs_start]
      have l0 := l.alloc (o := .lst (iv (thgsL n []))) hth
      obtain ⟨ts, ets, hts, htt⟩ := hp
      refine ⟨_, rfl, a, rfl, ⟨_, l0.same.seq hts⟩, for_list (K := K) (a := a) (xs := refs ts)
        (fun i σ H2 => ∃ (rs : List (Addr × List Int)) (y4 y5 : Option V), σ = [some (.int n), some (.ref a), some (.ref t), some (.ref th), y4, y5, none] ∧ vals rs = waysL n (log.take i) ∧
          Loc H H2 ([(th, .lst (iv (thgsL n (log.take i)))), (t, .lst (refs rs))] ++ rowL rs)) ?_ ?_ ?_ ?_⟩
      · exact ⟨rs, none, none, rfl, e, l0⟩
      · rintro i σ H2 _ ⟨_, _, _, _, _, l2⟩
        exact l2.same.seq hts
      · rintro i x σ H2 hx ⟨rs, y4, y5, rfl, er, l2⟩
        obtain ⟨⟨b, x1, x2⟩, hq, rfl⟩ := refs_inv hx
        have hT := Same.sqT l2.same (htt _ (List.mem_of_getElem? hq))
        have hwi : log[i]? = some (x1, x2) := by
          rw [← ets]; unfold vals; rw [List.getElem?_map, hq]; rfl
        have hvs : ValidL n (log.take i ++ [(x1, x2)]) := by rw [← take_snoc hwi]; exact fun q hq => hv q (List.mem_of_mem_take hq)
        obtain ⟨v0, v1, v2, v3⟩ := hvs.init
        simp only at v1 v2 v3
        have ia := ivr_in v0 x1 (by omega)
        have ib := ivr_in v0 x2 (by omega)
        have ne : ivr (log.take i) x1 ≠ ivr (log.take i) x2 := fun e => by
          have := loc_ivr (log.take i) x1
          rw [e, loc_ivr] at this
          omega
        have tl : (thgsL n (log.take i)).length = n + 1 := tab_len
        have g1 : (iv (thgsL n (log.take i)))[x1.toNat]? = some (.int (ivr (log.take i) x1)) := iv_get (by
          unfold thgsL; rw [tab_get (by omega), show ((x1.toNat : Nat) : Int) = x1 from by omega])
        have g2 : (iv (thgsL n (log.take i)))[x2.toNat]? = some (.int (ivr (log.take i) x2)) := iv_get (by
          unfold thgsL; rw [tab_get (by omega), show ((x2.toNat : Nat) : Int) = x2 from by omega])
        have wl : ∀ t, (iv (way (log.take i) t)).length < sizeLine := fun t => sl_line' (by
          have h1 := way_len t (log.take i)
          have h2 := List.length_take_le' i log
          rw [iv_len]; omega)
        obtain ⟨r1, hr1⟩ : ∃ r1, rs[(ivr (log.take i) x1 - 1).toNat]? = some (r1, way (log.take i) (ivr (log.take i) x1)) := vals_get (by
          rw [er]; unfold waysL; rw [tab_get (by omega), show (((ivr (log.take i) x1 - 1).toNat : Nat) : Int) + 1 = ivr (log.take i) x1 from by omega])
        have at1 := l2.rowAt hr1
        refine ⟨b, _, rfl, hT, rfl, _, _, rfl, _, _, rfl, rfl, ?_⟩
        refine ⟨_, rfl, _, rfl, _, rfl, th, _, _, _, rfl, rfl, SqL.of (l2.atIx (i := 0) rfl), at_of (j := x1.toNat) (by show x1 = _; omega) g1, _, _, rfl, rfl, ?_⟩
        refine ⟨t, refs rs, _, _, rfl, rfl, SqL.of (l2.atIx (i := 1) rfl), at_of (j := (ivr (log.take i) x1 - 1).toNat) (by show ivr (log.take i) x1 - 1 = _; omega) (refs_get hr1), .inl ⟨rfl, _, SqL.of at1⟩, _, rfl, r1, _, _, rfl, rfl, at1, wl _, ?_⟩
        have l3 := l2.rowGrowP (z := x2) hr1
        obtain ⟨r2, hr2⟩ : ∃ r2, (rs.set (ivr (log.take i) x1 - 1).toNat (r1, way (log.take i) (ivr (log.take i) x1) ++ [x2]))[(ivr (log.take i) x2 - 1).toNat]? = some (r2, way (log.take i) (ivr (log.take i) x2)) := by
          rw [List.getElem?_set, if_neg (by omega)]
          exact vals_get (by
            rw [er]; unfold waysL; rw [tab_get (by omega), show (((ivr (log.take i) x2 - 1).toNat : Nat) : Int) + 1 = ivr (log.take i) x2 from by omega])
        have at2 := l3.rowAt hr2
        have rf : refs (rs.set (ivr (log.take i) x1 - 1).toNat (r1, way (log.take i) (ivr (log.take i) x1) ++ [x2])) = refs rs := refs_set hr1
        have gr2 : (refs rs)[(ivr (log.take i) x2 - 1).toNat]? = some (.ref r2) := by rw [← rf]; exact refs_get hr2
        refine ⟨_, rfl, _, rfl, _, rfl, th, _, _, _, rfl, rfl, SqL.of (l3.atIx (i := 0) rfl), at_of (j := x2.toNat) (by show x2 = _; omega) g2, _, _, rfl, rfl, ?_⟩
        refine ⟨t, refs rs, _, _, rfl, rfl, SqL.of (l3.atIx (i := 1) rfl), at_of (j := (ivr (log.take i) x2 - 1).toNat) (by show ivr (log.take i) x2 - 1 = _; omega) gr2, .inl ⟨rfl, _, SqL.of at2⟩, _, rfl, r2, _, _, rfl, rfl, at2, wl _, ?_⟩
        have l4 := l3.rowGrowP (z := x1) hr2
        have rf2 := (refs_set (i := (ivr (log.take i) x2 - 1).toNat) (y := way (log.take i) (ivr (log.take i) x2) ++ [x1]) hr2).trans rf
        refine ⟨_, rfl, _, rfl, th, _, _, _, rfl, rfl, SqL.of (l4.atIx (i := 0) rfl), at_of (j := x2.toNat) (by show x2 = _; omega) g2, _, rfl, _, rfl, th, _, _, _, rfl, rfl, SqL.of (l4.atIx (i := 0) rfl), at_of (j := x1.toNat) (by show x1 = _; omega) g1, sl2, fun T hT' => ?_⟩
        have l5 := (l4.alloc (o := .tup [.int (ivr (log.take i) x2), .int (ivr (log.take i) x1)]) hT').drop1
        have l6 := l5.put0 (o' := .lst (iv (((thgsL n (log.take i)).set x1.toNat (ivr (log.take i) x2)))))
        have l7 := l6.put0 (o' := .lst (iv (((thgsL n (log.take i)).set x1.toNat (ivr (log.take i) x2)).set x2.toNat (ivr (log.take i) x1))))
        have s1 : (iv (thgsL n (log.take i))).set x1.toNat (.int (ivr (log.take i) x2)) = iv ((thgsL n (log.take i)).set x1.toNat (ivr (log.take i) x2)) := List.map_set.symm
        have s2 : (iv ((thgsL n (log.take i)).set x1.toNat (ivr (log.take i) x2))).set x2.toNat (.int (ivr (log.take i) x1)) = iv (((thgsL n (log.take i)).set x1.toNat (ivr (log.take i) x2)).set x2.toNat (ivr (log.take i) x1)) := List.map_set.symm
        refine ⟨T, _, rfl, .inl (.inl upd_same), rfl, _, _, rfl, _, rfl, _, rfl, th, _, _, x1.toNat, rfl, rfl, l5.at0, ixI (by show 0 ≤ x1; omega) (by rw [iv_len]; show x1.toNat < _; omega), ?_⟩
        rw [s1]
        refine ⟨_, _, rfl, _, rfl, _, rfl, th, _, _, x2.toNat, rfl, rfl, l6.at0, ixI (by show 0 ≤ x2; omega) (by rw [iv_len, List.length_set]; show x2.toNat < _; omega), rfl, ?_⟩
        rw [s2]
        refine ⟨(rs.set (ivr (log.take i) x1 - 1).toNat (r1, way (log.take i) (ivr (log.take i) x1) ++ [x2])).set (ivr (log.take i) x2 - 1).toNat (r2, way (log.take i) (ivr (log.take i) x2) ++ [x1]), _, _, rfl, ?_, ?_⟩
        · rw [vals_set, vals_set, er, take_snoc hwi, ways_step hvs]
        · rw [take_snoc hwi, thgs_step hvs, rf2]
          exact l7
      · rintro σ H2 ⟨rs, y4, y5, rfl, er, l2⟩
        have full : log.take (refs ts).length = log := by
          rw [refs_len, ← vals_len ts, ets, List.take_length]
        rw [full] at er l2
        exact ⟨_, rfl, q H2 t rs l2.drop1 er⟩
/-- where each thing ends -/
def sp_ends_after (K : PySem.W.Frag) : Sp := fun vs H Q _ => ∃ (n : Nat) (a : Addr) (log : List (Int × Int)), vs = [.int n, .ref a] ∧ n ≤ 16 ∧ log.length ≤ 1000 ∧ ValidL n log ∧ IsPairs K H a log ∧
  ∀ H' p, Loc H H' [(p, .lst (iv (endsL n log)))] → Q (.ref p) H'
theorem ok_ends_after {f : Addr} {fd : FuncData} {k : Nat} (F : Fun K "ends_after" "ends_after" s_ends_after f fd) (c_ways_after : CalG P w K mg base k "ways_after" s_ways_after ["cells", "log"] (sp_ways_after K)) : FG P w K mg base CX0 (k + 1) f fd ["cells", "log"] (sp_ends_after K) := by
  refine fg_fun F sc_ends_after (fun vs H Q E h => ?_) (fun cdv A out s H vs Q E hr hg h => ?_)
  · obtain ⟨n, a, log, rfl, _⟩ := h
    rfl
  · obtain ⟨n, a, log, rfl, hn, hl, hv, hp, q⟩ := h
    refine ⟨_, (pss_one (ps_ret (pe_lc (own := [("way", 2)]) (tt := tYes) rfl sc_ends_after.nd (pi_listK K rfl (pe_cG c_ways_after hr (by omega) hg (by rfl) (pa_cons (pv 0) (pa_cons (pv 1) pa_nil)))) (blkOk_by (N := ["cells", "log", "way"]) (sc := defScope s_ends_after) (by decide +kernel)) (fun _ _ _ _ _ => (pg_name (i := 2) sc_ends_after.nd rfl (Or.inl rfl))) (fun _ _ _ _ _ => pts_nil) (fun _ _ _ _ _ => (pe_ix (ix_listK K rfl) (pv 2) (pe_un un_neg pe_int) (fun _ _ => rfl)))))), ?_⟩
    refine ⟨_, rfl, _, rfl, n, a, log, rfl, hn, hl, hv, hp, fun H1 p rs l er => ⟨p, rfl, ⟨_, SqL.of l.at0⟩, fun D hD => lc_list (K := K) (a := p) (xs := refs rs)
      (fun i H2 => Loc H H2 ((D, .lst (iv (tab i fun m => loc log (m + 1)))) :: (p, .lst (refs rs)) :: rowL rs)) (l.alloc hD) (fun i H2 _ l2 => SqL.of (l2.atIx (i := 1) rfl)) ?_ ?_⟩⟩
    · intro i x H2 hx l2
      obtain ⟨⟨r, row⟩, hq, rfl⟩ := refs_inv hx
      have hi : i < n := by
        have h1 := (List.getElem?_eq_some_iff.mp hq).1
        have h2 := congrArg List.length er
        unfold waysL at h2
        rw [vals_len, tab_len] at h2
        omega
      have hrow : row = way log (i + 1) := by
        have h1 : (vals rs)[i]? = some row := by unfold vals; rw [List.getElem?_map, hq]; rfl
        rw [er] at h1
        unfold waysL at h1
        rw [tab_get hi] at h1
        exact (Option.some.inj h1).symm
      have hat := l2.here (r, .lst (iv row)) (List.mem_cons_of_mem _ (List.mem_cons_of_mem _ (List.mem_of_getElem? (rowL_get hq))))
      have hlast := at_lastI (w := row) (by rw [hrow]; exact way_ne _ _)
      rw [hrow, way_last] at hlast
      rw [hrow] at hat
      refine ⟨rfl, _, rfl, _, rfl, r, _, _, _, rfl, rfl, SqL.of hat, hlast, _, l2.at0, sl_line' (by rw [iv_len, tab_len]; omega), ?_⟩
      show Loc H _ _
      rw [tab_succ, iv_snoc]
      exact l2.put0
    · intro H2 l2
      have hl2 : (refs rs).length = n := by
        have h2 := congrArg List.length er
        unfold waysL at h2
        rw [vals_len, tab_len] at h2
        rw [refs_len]
        exact h2
      rw [hl2] at l2
      exact q H2 D (l2.keep (List.Sublist.cons_cons _ (List.nil_sublist _)))
end

abbrev s_orders_of : Stmt := topS 12
theorem sc_orders_of : FnScope ["cells", "log", "told", "first", "second", "cell"] ["cells", "log"] (defScope s_orders_of) := ⟨rfl, rfl, rfl, by decide +kernel, rfl, by decide +kernel, by decide +kernel⟩
section
variable {P : Program} {w : World} {K : PySem.W.Frag} {mg : Str → Option Value} {base : Heap}
def sp_orders_of (K : PySem.W.Frag) : Sp := fun vs H Q _ => ∃ (n : Nat) (a : Addr) (log : List (Int × Int)), vs = [.int n, .ref a] ∧ n ≤ 16 ∧ log.length ≤ 1000 ∧ ValidL n log ∧ IsPairs K H a log ∧
  ∀ H' p (rs : List (Addr × List Int)), Loc H H' ((p, .lst (refs rs)) :: rowL rs) → vals rs = ordsL n log → Q (.ref p) H'
theorem ok_orders_of {f : Addr} {fd : FuncData} {k : Nat} (F : Fun K "orders_of" "orders_of" s_orders_of f fd) (z_range : mg "range" = none) : FG P w K mg base CX0 (k + 1) f fd ["cells", "log"] (sp_orders_of K) := by
  refine fg_fun F sc_orders_of (fun vs H Q E h => ?_) (fun cdv A out s H vs Q E hr hg h => ?_)
  · obtain ⟨n, a, log, rfl, _⟩ := h
    rfl
  · obtain ⟨n, a, log, rfl, hn, hl, hv, hp, q⟩ := h
    refine ⟨_, (pss_cons (ps_setLc (i := 2) (own := [("cell", 5)]) (tt := tYes) rfl sc_orders_of.nd rfl rfl (sw_true rfl rfl rfl (by decide +kernel)) (pi_range1 (by rfl) z_range (pa_cons (pv 0) pa_nil)) (blkOk_by (N := ["cells", "log", "told", "first", "second", "cell"]) (sc := defScope s_orders_of) (by decide +kernel)) (fun _ _ _ _ _ => (pg_name (i := 5) sc_orders_of.nd rfl (Or.inl rfl))) (fun _ _ _ _ _ => pts_nil) (fun _ _ _ _ _ => (pe_lst pa_nil)))
      (pss_cons (ps_for PassesOwn.never rfl (pi_listK K rfl (pv 1)) (pg_tupK K rfl rfl (pgs_cons (pg_name (i := 3) sc_orders_of.nd rfl (.inl rfl)) (pgs_cons (pg_name (i := 4) sc_orders_of.nd rfl (.inl rfl)) pgs_nil)))
        (pss_cons (ps_expr (pe_bmK K rfl PySem.F.plainAttrs_list PySem.F.slot_list_append PySem.F.type_list_append mt_append (pe_ix (ix_listK K rfl) (pv 2) (pe_op op_sub (pv 3) pe_int) (fun _ _ => rfl)) (pa_cons (pv 4) pa_nil)))
          (pss_one (ps_expr (pe_bmK K rfl PySem.F.plainAttrs_list PySem.F.slot_list_append PySem.F.type_list_append mt_append (pe_ix (ix_listK K rfl) (pv 2) (pe_op op_sub (pv 4) pe_int) (fun _ _ => rfl)) (pa_cons (pv 3) pa_nil))))))
      (pss_one (ps_ret (pv 2))))), ?_⟩
    refine ⟨_, rfl, _, rfl, by omega, by omega, fun t ht => lc_range (lo := 0) (n := (n : Int).toNat)
      (fun i H1 => ∃ rs : List (Addr × List Int), vals rs = tab i (fun m => nbraw [] (m + 1)) ∧ Loc H H1 ((t, .lst (refs rs)) :: rowL rs)) ?_ ?_ ?_⟩
    · exact ⟨[], rfl, (Loc.refl H).alloc ht⟩
    · rintro i H1 hi ⟨rs, e, l⟩
      refine ⟨rfl, Nat.zero_le _, fun p hp' => ⟨refs rs, ?_, ?_, rs ++ [(p, [])], ?_, l.rowNew (row := []) hp'⟩⟩
      · rw [upd_ne (ne_of_none l.at0 hp')]; exact l.at0
      · have := congrArg List.length e
        rw [vals_len, tab_len] at this
        exact sl_line' (by rw [refs_len]; omega)
      · rw [tab_succ, ← e]
        unfold vals
        rw [List.map_append]
        rfl
    · rintro H1 ⟨rs, e, l⟩
      have e1 : (n : Int).toNat = n := by omega
      rw [e1] at e
      obtain ⟨ts, ets, hts, htt⟩ := hp
      refine ⟨_, rfl, a, rfl, ⟨_, l.same.seq hts⟩, for_list (K := K) (a := a) (xs := refs ts)
        (fun i σ H2 => ∃ (rs : List (Addr × List Int)) (y3 y4 : Option V), σ = [some (.int n), some (.ref a), some (.ref t), y3, y4, none] ∧ vals rs = ordsL n (log.take i) ∧ Loc H H2 ([(t, .lst (refs rs))] ++ rowL rs)) ?_ ?_ ?_ ?_⟩
      · exact ⟨rs, none, none, rfl, e, l⟩
      · rintro i σ H2 _ ⟨_, _, _, _, _, l2⟩
        exact l2.same.seq hts
      · rintro i x σ H2 hx ⟨rs, y3, y4, rfl, er, l2⟩
        obtain ⟨⟨b, x1, x2⟩, hq, rfl⟩ := refs_inv hx
        have hT := Same.sqT l2.same (htt _ (List.mem_of_getElem? hq))
        have hwi : log[i]? = some (x1, x2) := by
          rw [← ets]; unfold vals; rw [List.getElem?_map, hq]; rfl
        have hvs : ValidL n (log.take i ++ [(x1, x2)]) := by rw [← take_snoc hwi]; exact fun q hq => hv q (List.mem_of_mem_take hq)
        obtain ⟨v0, v1, v2, v3⟩ := hvs.init
        simp only at v1 v2 v3
        have wl : ∀ t, (iv (nbraw (log.take i) t)).length < sizeLine := fun t => sl_line' (by
          have h1 := nbraw_len (log.take i) t
          have h2 := List.length_take_le' i log
          rw [iv_len]; omega)
        obtain ⟨r1, hr1⟩ : ∃ r1, rs[(x1 - 1).toNat]? = some (r1, nbraw (log.take i) x1) := vals_get (by
          rw [er]; unfold ordsL; rw [tab_get (by omega), show (((x1 - 1).toNat : Nat) : Int) + 1 = x1 from by omega])
        have at1 := l2.rowAt hr1
        refine ⟨b, _, rfl, hT, rfl, _, _, rfl, _, _, rfl, rfl, ?_⟩
        refine ⟨_, rfl, _, rfl, _, _, rfl, rfl, t, refs rs, _, _, rfl, rfl, SqL.of (l2.atIx (i := 0) rfl), at_of (j := (x1 - 1).toNat) (by show x1 - 1 = _; omega) (refs_get hr1), .inl ⟨rfl, _, SqL.of at1⟩, _, rfl, r1, _, _, rfl, rfl, at1, wl _, ?_⟩
        have l3 := l2.rowGrowP (z := x2) hr1
        obtain ⟨r2, hr2⟩ : ∃ r2, (rs.set (x1 - 1).toNat (r1, nbraw (log.take i) x1 ++ [x2]))[(x2 - 1).toNat]? = some (r2, nbraw (log.take i) x2) := by
          rw [List.getElem?_set, if_neg (by omega)]
          exact vals_get (by
            rw [er]; unfold ordsL; rw [tab_get (by omega), show (((x2 - 1).toNat : Nat) : Int) + 1 = x2 from by omega])
        have at2 := l3.rowAt hr2
        have rf : refs (rs.set (x1 - 1).toNat (r1, nbraw (log.take i) x1 ++ [x2])) = refs rs := refs_set hr1
        have gr2 : (refs rs)[(x2 - 1).toNat]? = some (.ref r2) := by rw [← rf]; exact refs_get hr2
        refine ⟨_, rfl, _, rfl, _, _, rfl, rfl, t, refs rs, _, _, rfl, rfl, SqL.of (l3.atIx (i := 0) rfl), at_of (j := (x2 - 1).toNat) (by show x2 - 1 = _; omega) gr2, .inl ⟨rfl, _, SqL.of at2⟩, _, rfl, r2, _, _, rfl, rfl, at2, wl _, ?_⟩
        have l4 := l3.rowGrowP (z := x1) hr2
        have rf2 := (refs_set (i := (x2 - 1).toNat) (y := nbraw (log.take i) x2 ++ [x1]) hr2).trans rf
        refine ⟨(rs.set (x1 - 1).toNat (r1, nbraw (log.take i) x1 ++ [x2])).set (x2 - 1).toNat (r2, nbraw (log.take i) x2 ++ [x1]), _, _, rfl, ?_, ?_⟩
        · rw [vals_set, vals_set, er, take_snoc hwi, ords_step hvs]
        · rw [rf2]
          exact l4
      · rintro σ H2 ⟨rs, y3, y4, rfl, er, l2⟩
        have full : log.take (refs ts).length = log := by
          rw [refs_len, ← vals_len ts, ets, List.take_length]
        rw [full] at er
        exact ⟨_, rfl, q H2 t rs l2 er⟩
end

abbrev s_are_one_kind : Stmt := topS 15
theorem sc_are_one_kind : FnScope ["cells", "log", "other"] ["cells", "log", "other"] (defScope s_are_one_kind) := ⟨rfl, rfl, rfl, by decide +kernel, rfl, by decide +kernel, by decide +kernel⟩
section
variable {P : Program} {w : World} {K : PySem.W.Frag} {mg : Str → Option Value} {base : Heap}
def sp_are_one_kind (K : PySem.W.Frag) : Sp := fun vs H Q _ => ∃ (n : Nat) (a b : Addr) (la lb : List (Int × Int)), vs = [.int n, .ref a, .ref b] ∧ 1 ≤ n ∧ n ≤ 16 ∧ la.length ≤ 1000 ∧ lb.length ≤ 1000 ∧ ValidL n la ∧ la.Nodup ∧ ValidL n lb ∧ lb.Nodup ∧ IsPairs K H a la ∧ IsPairs K H b lb ∧
  ∀ H', Same H H' → Q (.bl (decide (ordsL n la = ordsL n lb))) H'
theorem ok_are_one_kind {f : Addr} {fd : FuncData} {k : Nat} (F : Fun K "are_one_kind" "are_one_kind" s_are_one_kind f fd)
    (c_check_log : CalG P w K mg base k "check_log" s_check_log ["cells", "log"] (sp_check_log K)) (c_orders_of : CalG P w K mg base k "orders_of" s_orders_of ["cells", "log"] (sp_orders_of K)) :
    FG P w K mg base CX0 (k + 1) f fd ["cells", "log", "other"] (sp_are_one_kind K) := by
  refine fg_fun F sc_are_one_kind (fun vs H Q E h => ?_) (fun cdv A out s H vs Q E hr hg h => ?_)
  · obtain ⟨n, a, b, la, lb, rfl, _⟩ := h
    rfl
  · obtain ⟨n, a, b, la, lb, rfl, n1, n2, h1, h2, va, na, vb, nb, pa, pb, q⟩ := h
    have hu64 := hr.units
    refine ⟨_, (pss_cons (ps_expr (pe_cG c_check_log hr (by omega) hg (by rfl) (pa_cons (pv 0) (pa_cons (pv 1) pa_nil))))
      (pss_cons (ps_expr (pe_cG c_check_log hr (by omega) hg (by rfl) (pa_cons (pv 0) (pa_cons (pv 2) pa_nil))))
      (pss_one (ps_ret (pe_cmpR (op_eqDK K rfl hu64) (pe_cG c_orders_of hr (by omega) hg (by rfl) (pa_cons (pv 0) (pa_cons (pv 1) pa_nil))) (pe_cG c_orders_of hr (by omega) hg (by rfl) (pa_cons (pv 0) (pa_cons (pv 2) pa_nil))) (nomark _)))))), ?_⟩
    refine ⟨_, rfl, _, rfl, n, a, la, rfl, n1, n2, va, na, pa, fun H1 s1 => ⟨_, rfl, _, rfl, n, b, lb, rfl, n1, n2, vb, nb, pb.grow s1, fun H2 s2 => ?_⟩⟩
    have s12 := s1.trans s2
    refine ⟨_, rfl, _, rfl, n, a, la, rfl, n2, h1, va, pa.grow s12, fun H3 p3 r3 l3 e3 => ⟨_, rfl, _, rfl, n, b, lb, rfl, n2, h2, vb, (pb.grow s12).grow l3.same, fun H4 p4 r4 l4 e4 => ?_⟩⟩
    have i3 := (l3.ext l4.same).isRows (K := K)
    have i4 := l4.isRows (K := K)
    rw [e3] at i3
    rw [e4] at i4
    refine ⟨_, _, i3.dp, i4.dp, shaped_dR _, shaped_dR _, ?_⟩
    rw [eqv_dR]
    exact q _ ((s12.trans l3.same).trans l4.same)
end

abbrev s_ends : Stmt := topS 13
theorem sc_ends : FnScope ["cells", "log"] ["cells", "log"] (defScope s_ends) := ⟨rfl, rfl, rfl, by decide +kernel, rfl, by decide +kernel, by decide +kernel⟩
section
variable {P : Program} {w : World} {K : PySem.W.Frag} {mg : Str → Option Value} {base : Heap}
def sp_ends (K : PySem.W.Frag) : Sp := fun vs H Q _ => ∃ (n : Nat) (a : Addr) (log : List (Int × Int)), vs = [.int n, .ref a] ∧ 1 ≤ n ∧ n ≤ 16 ∧ log.length ≤ 1000 ∧ ValidL n log ∧ log.Nodup ∧ IsPairs K H a log ∧
  ∀ H' p, Loc H H' [(p, .lst (iv (endsL n log)))] → Q (.ref p) H'
theorem ok_ends {f : Addr} {fd : FuncData} {k : Nat} (F : Fun K "ends" "ends" s_ends f fd)
    (c_check_log : CalG P w K mg base k "check_log" s_check_log ["cells", "log"] (sp_check_log K)) (c_ends_after : CalG P w K mg base k "ends_after" s_ends_after ["cells", "log"] (sp_ends_after K)) : FG P w K mg base CX0 (k + 1) f fd ["cells", "log"] (sp_ends K) := by
  refine fg_fun F sc_ends (fun vs H Q E h => ?_) (fun cdv A out s H vs Q E hr hg h => ?_)
  · obtain ⟨n, a, log, rfl, _⟩ := h
    rfl
  · obtain ⟨n, a, log, rfl, h1, hn, hl, hv, hnd, hp, q⟩ := h
    refine ⟨_, (pss_cons (ps_expr (pe_cG c_check_log hr (by omega) hg (by rfl) (pa_cons (pv 0) (pa_cons (pv 1) pa_nil))))
      (pss_one (ps_ret (pe_cG c_ends_after hr (by omega) hg (by rfl) (pa_cons (pv 0) (pa_cons (pv 1) pa_nil)))))), ?_⟩
    refine ⟨_, rfl, _, rfl, n, a, log, rfl, h1, hn, hv, hnd, hp, fun H1 sm => ⟨_, rfl, _, rfl, n, a, log, rfl, hn, hl, hv, hp.grow sm, fun H' p l => q H' p ?_⟩⟩
    have := (Loc.of sm).call l
    rwa [List.append_nil] at this
end

theorem SameX.trans {a : Addr} {H H1 H2 : Hp} (s : SameX a H H1) (t : SameX a H1 H2) : SameX a H H2 := fun b o hb e => t b o hb (s b o hb e)
theorem Same.x {a : Addr} {H H1 : Hp} (s : Same H H1) : SameX a H H1 := fun b o _ e => s b o e
theorem SameX.more {a : Addr} {H H1 H2 : Hp} (s : SameX a H H1) (t : Same H1 H2) : SameX a H H2 := SameX.trans s (Same.x t)
theorem Draw.grow {b : Addr} {m : Nat} {H H' : Hp} (s : Same H H') (h : Draw H b m) : Draw H' b m := by
  obtain ⟨n, k, c, h1, h2⟩ := h
  exact ⟨n, k, c, s _ _ h1, h2⟩
theorem Draw.mono {b : Addr} {m m' : Nat} {H : Hp} (h : Draw H b m) (l : m ≤ m') : Draw H b m' := by
  obtain ⟨n, k, c, h1, h2, h3, h4⟩ := h
  exact ⟨n, k, c, h1, h2, h3, by omega⟩
theorem ValidW.nodup {n : Nat} {web : List (Int × Int)} (h : ValidW n web) : web.Nodup := h.2.imp fun {x y} h e => by
  subst e
  rcases h with h | ⟨_, h⟩ <;> omega
theorem ValidL.perm {n : Nat} {l m : List (Int × Int)} (h : ValidL n l) (p : m.Perm l) : ValidL n m := fun e he => h e (p.mem_iff.mp he)
theorem ValidL.wide {n n' : Nat} {l : List (Int × Int)} (h : ValidL n l) (p : n ≤ n') : ValidL n' l := fun e he => by have := h e he; omega
theorem log_smD {n : Nat} {web : List (Int × Int)} (hn : n ≤ 16) (hv : ValidL n web) (hl : web.length ≤ 300) : Sm 900 2 (dP web) :=
  sm_dP (m := 300) (fun e he => by have := hv e he; omega) hl
section
variable {H H2 H3 : Hp} {a : Addr} {m m' : Nat} {L M : Led}
theorem DLoc.call (l : DLoc H a m H2 L) (c : Loc H2 H3 M) : DLoc H a m H3 (M ++ L) := by
  obtain ⟨n, k, b, h1, h2⟩ := l
  exact ⟨n, k, b, h1.call c, h2⟩
theorem DLoc.ext (l : DLoc H a m H2 L) (c : Same H2 H3) : DLoc H a m H3 L := by
  obtain ⟨n, k, b, h1, h2⟩ := l
  exact ⟨n, k, b, h1.ext c, h2⟩
theorem DLoc.jump (l : DLoc H a m H2 L) (s : SameX a H2 H3) (d : Draw H3 a m') : DLoc H a m' H3 L := by
  obtain ⟨n, k, b, h1, h2⟩ := l
  obtain ⟨n', k', b', e, d2⟩ := d
  refine ⟨n', k', b', ⟨fun c u q => ?_, fun p hp => ?_, fun p hp => ?_, h1.nd⟩, d2⟩
  · by_cases hc : c = a
    · subst hc; rw [upd_same] at q; rw [← q]; exact e
    · rw [upd_ne hc] at q
      exact s c u hc (h1.same c u (by rw [upd_ne hc]; exact q))
  · have ne : p.1 ≠ a := fun z => by have := h1.new p hp; rw [z, upd_same] at this; cases this
    exact s _ _ ne (h1.here p hp)
  · have ne : p.1 ≠ a := fun z => by have := h1.new p hp; rw [z, upd_same] at this; cases this
    have := h1.new p hp
    rw [upd_ne ne] at this ⊢
    exact this
theorem DLoc.ne (l : DLoc H a m H2 L) {p : Addr × HO} (hp : p ∈ L) : p.1 ≠ a := by
  obtain ⟨n, k, b, h1, _⟩ := l
  intro z
  have := h1.new p hp
  rw [z, upd_same] at this
  cases this
end
theorem small_len {n : Nat} {l : List Int} (nd : l.Nodup) (h : ∀ x ∈ l, 1 ≤ x ∧ x ≤ n) : l.length ≤ n := by
  have e : (l.map Int.toNat).length = l.length := List.length_map _
  rw [← e]
  have q := nat_nodup_len (l.map Int.toNat) ((List.range n).map (· + 1)) ?_ ?_
  · rw [List.length_map, List.length_map, List.length_range] at q
    rw [e]
    exact q
  · have g : ∀ l : List Int, l.Nodup → (∀ x ∈ l, 1 ≤ x ∧ x ≤ n) → (l.map Int.toNat).Nodup := by
      intro l
      induction l with
      | nil => intro _ _; exact List.Pairwise.nil
      | cons x r ih =>
        intro h1 h2
        rw [List.nodup_cons] at h1
        rw [List.map_cons, List.nodup_cons]
        refine ⟨fun z => ?_, ih h1.2 fun y hy => h2 y (List.mem_cons_of_mem _ hy)⟩
        obtain ⟨y, hy, e⟩ := List.mem_map.mp z
        have a := h2 y (List.mem_cons_of_mem _ hy)
        have b := h2 x List.mem_cons_self
        have : y = x := by omega
        exact h1.1 (this ▸ hy)
    exact g l nd h
  · intro x hx
    obtain ⟨y, hy, rfl⟩ := List.mem_map.mp hx
    have := h y hy
    exact List.mem_map.mpr ⟨y.toNat - 1, List.mem_range.mpr (by omega), by omega⟩

/-! ### whole orders tell the ways -/
theorem nbraw_app (a b : List (Int × Int)) (k : Int) : nbraw (a ++ b) k = nbraw a k ++ nbraw b k := by unfold nbraw; rw [List.flatMap_append]
theorem nbraw_cons' (e : Int × Int) (r : List (Int × Int)) (k : Int) : nbraw (e :: r) k = ((if e.1 = k then [e.2] else []) ++ (if e.2 = k then [e.1] else [])) ++ nbraw r k := rfl
theorem foldl_still : ∀ (l : List (Int × Int)) (w : List Int), nbraw l (w.getLastD 0) = [] → l.foldl (fun w e => wayStep e w) w = w
  | [], _, _ => rfl
  | e :: r, w, h => by
    rw [nbraw_cons'] at h
    have h1 : ¬ w.getLastD 0 = e.1 := fun z => by rw [if_pos z.symm] at h; simp at h
    have h2 : ¬ w.getLastD 0 = e.2 := fun z => by rw [if_pos z.symm] at h; simp at h
    have h3 : nbraw r (w.getLastD 0) = [] := by
      rw [if_neg (fun z => h1 z.symm), if_neg (fun z => h2 z.symm)] at h
      simpa using h
    rw [List.foldl_cons]
    have : wayStep e w = w := by unfold wayStep; rw [if_neg h1, if_neg h2]
    rw [this]
    exact foldl_still r w h3
theorem way_app (l1 l2 : List (Int × Int)) (k : Int) : way (l1 ++ l2) k = l2.foldl (fun w e => wayStep e w) (way l1 k) := by unfold way; rw [List.foldl_append]
/-- the next exchange of a cell -/
theorem nb_next {n : Nat} : ∀ {l : List (Int × Int)} {c d : Int} {r : List Int}, ValidL n l → nbraw l c = d :: r → ∃ m e l3, l = m ++ e :: l3 ∧ nbraw m c = [] ∧ ((e.1 = c ∧ e.2 = d) ∨ (e.2 = c ∧ e.1 = d)) ∧ r = nbraw l3 c
  | [], _, _, _, _, h => by cases h
  | e :: l, c, d, r, hv, h => by
    have he := hv e List.mem_cons_self
    rw [nbraw_cons'] at h
    by_cases h1 : e.1 = c
    · rw [if_pos h1, if_neg (by omega)] at h
      have h' : e.2 :: nbraw l c = d :: r := h
      injection h' with a b
      exact ⟨[], e, l, rfl, rfl, .inl ⟨h1, a⟩, b.symm⟩
    · by_cases h2 : e.2 = c
      · rw [if_neg h1, if_pos h2] at h
        have h' : e.1 :: nbraw l c = d :: r := h
        injection h' with a b
        exact ⟨[], e, l, rfl, rfl, .inr ⟨h2, a⟩, b.symm⟩
      · rw [if_neg h1, if_neg h2] at h
        obtain ⟨m, e', l3, rfl, h3, h4, h5⟩ := nb_next (fun q hq => hv q (List.mem_cons_of_mem _ hq)) (show nbraw l c = d :: r from h)
        refine ⟨e :: m, e', l3, rfl, ?_, h4, h5⟩
        rw [nbraw_cons', if_neg h1, if_neg h2, h3]
        rfl
theorem nb_mem {l : List (Int × Int)} {c d : Int} (h : c ∈ nbraw l d) : ∃ e ∈ l, (e.1 = d ∧ e.2 = c) ∨ (e.2 = d ∧ e.1 = c) := by
  obtain ⟨e, he, h⟩ := List.mem_flatMap.mp h
  refine ⟨e, he, ?_⟩
  rcases List.mem_append.mp h with h | h
  · split at h
    · rename_i q; exact .inl ⟨q, (List.mem_singleton.mp h).symm⟩
    · cases h
  · split at h
    · rename_i q; exact .inr ⟨q, (List.mem_singleton.mp h).symm⟩
    · cases h
/-- one step of a way, told by the rows alone -/
theorem walk_step {n : Nat} {l1 l2 : List (Int × Int)} {k d : Int} {r : List Int} (hv : ValidL n (l1 ++ l2)) (hn : (l1 ++ l2).Nodup) (h : nbraw l2 (loc l1 k) = d :: r) :
    ∃ l1' l2', l1 ++ l2 = l1' ++ l2' ∧ l2'.length < l2.length ∧ way l1' k = way l1 k ++ [d] ∧ loc l1' k = d ∧ 1 ≤ d ∧ d ≤ n ∧
      loc l1 k ∈ nbraw (l1 ++ l2) d ∧ (nbraw (l1 ++ l2) d).idxOf (loc l1 k) + 1 ≤ (nbraw (l1 ++ l2) d).length ∧ (nbraw (l1 ++ l2) d).drop ((nbraw (l1 ++ l2) d).idxOf (loc l1 k) + 1) = nbraw l2' d := by
  obtain ⟨m, e, l3, rfl, h3, h4, _⟩ := nb_next (fun q hq => hv q (List.mem_append_right _ hq)) h
  have he := hv e (by simp)
  have wm : way (l1 ++ m) k = way l1 k := by rw [way_app]; exact foldl_still m _ (by rw [way_last]; exact h3)
  have we : way (l1 ++ m ++ [e]) k = way l1 k ++ [d] := by
    rw [way_snoc, wm]
    unfold wayStep
    rw [way_last]
    rcases h4 with ⟨a, b⟩ | ⟨a, b⟩
    · rw [if_pos a.symm, b]
    · rw [if_neg (by omega), if_pos a.symm, b]
  have row : nbraw (l1 ++ (m ++ e :: l3)) d = nbraw (l1 ++ m) d ++ loc l1 k :: nbraw l3 d := by
    rw [← List.append_assoc, nbraw_app, nbraw_cons']
    rcases h4 with ⟨a, b⟩ | ⟨a, b⟩
    · rw [if_neg (by omega), if_pos b, a]; rfl
    · rw [if_pos b, if_neg (by omega), a]; rfl
  have no : loc l1 k ∉ nbraw (l1 ++ m) d := by
    intro z
    obtain ⟨e', he', q⟩ := nb_mem z
    have hve' := hv e' (by
      rcases List.mem_append.mp he' with q | q
      · exact List.mem_append_left _ q
      · exact List.mem_append_right _ (List.mem_append_left _ q))
    have ee : e' = e := by
      obtain ⟨x, y⟩ := e
      obtain ⟨x', y'⟩ := e'
      simp only [Prod.mk.injEq] at *
      omega
    subst ee
    rw [← List.append_assoc, List.nodup_append] at hn
    exact hn.2.2 _ he' _ List.mem_cons_self rfl
  have ix : (nbraw (l1 ++ (m ++ e :: l3)) d).idxOf (loc l1 k) = (nbraw (l1 ++ m) d).length := by
    rw [row, List.idxOf_append, if_neg no, List.idxOf_cons_self, Nat.zero_add]
  refine ⟨l1 ++ m ++ [e], l3, by simp, by simp; omega, we, ?_, ?_, ?_, ?_, ?_, ?_⟩
  · rw [← way_last, we, last_snoc]
  · omega
  · omega
  · rw [row]; simp
  · rw [ix, row]; simp
  · rw [ix, row, List.drop_append]
    simp
def goW (rows : List (List Int)) : Nat → List Int → List Int → List Int
  | 0, told, _ => told
  | _ + 1, told, [] => told
  | f + 1, told, d :: _ => goW rows f (told ++ [d]) ((rows.getD (d - 1).toNat []).drop ((rows.getD (d - 1).toNat []).idxOf (told.getLastD 0) + 1))
theorem ords_at {n : Nat} {log : List (Int × Int)} {d : Int} (h1 : 1 ≤ d) (h2 : d ≤ n) : (ordsL n log)[(d - 1).toNat]? = some (nbraw log d) := by
  unfold ordsL
  rw [tab_get (by omega), show (((d - 1).toNat : Nat) : Int) + 1 = d from by omega]
theorem goW_way {n : Nat} {log : List (Int × Int)} (hv : ValidL n log) (hn : log.Nodup) (k : Int) : ∀ (f : Nat) (l1 l2 : List (Int × Int)), log = l1 ++ l2 → l2.length ≤ f → goW (ordsL n log) f (way l1 k) (nbraw l2 (loc l1 k)) = way log k := by
  intro f
  induction f with
  | zero =>
    intro l1 l2 e hf
    have : l2 = [] := List.length_eq_zero_iff.mp (by omega)
    subst this
    rw [e, List.append_nil]
    rfl
  | succ f ih =>
    intro l1 l2 e hf
    cases h : nbraw l2 (loc l1 k) with
    | nil =>
      show way l1 k = _
      rw [e, way_app, foldl_still l2 _ (by rw [way_last]; exact h)]
    | cons d r =>
      obtain ⟨l1', l2', e', hl, hw, hlo, d1, d2, _, _, hdrop⟩ := walk_step (by rw [← e]; exact hv) (by rw [← e]; exact hn) h
      show goW _ f (way l1 k ++ [d]) _ = _
      rw [← e] at e' hdrop
      have hg : (ordsL n log).getD (d - 1).toNat [] = nbraw log d := by
        rw [List.getD_eq_getElem?_getD, ords_at d1 d2]
        rfl
      rw [hg, way_last, hdrop, ← hw, ← hlo]
      exact ih l1' l2' e' (by omega)
theorem ords_way {n : Nat} {a b : List (Int × Int)} (ha : ValidL n a) (na : a.Nodup) (hb : ValidL n b) (nb : b.Nodup) (e : ordsL n a = ordsL n b) {k : Int} (h1 : 1 ≤ k) (h2 : k ≤ n) : way a k = way b k := by
  have ek : nbraw a k = nbraw b k := by
    have := ords_at (log := a) h1 h2
    rw [e, ords_at h1 h2] at this
    exact (Option.some.inj this).symm
  have wa := goW_way ha na k (a.length + b.length) [] a rfl (by omega)
  have wb := goW_way hb nb k (a.length + b.length) [] b rfl (by omega)
  rw [← wa, ← wb, e]
  show goW _ _ [k] (nbraw a k) = goW _ _ [k] (nbraw b k)
  rw [ek]
theorem ords_ends {n : Nat} {a b : List (Int × Int)} (ha : ValidL n a) (na : a.Nodup) (hb : ValidL n b) (nb : b.Nodup) (e : ordsL n a = ordsL n b) : endsL n a = endsL n b := by
  refine tab_ext fun j hj => ?_
  rw [← way_last, ← way_last, ords_way ha na hb nb e (by omega) (by omega)]
/-! ### neighbouring exchanges without a common cell -/
def apart (p q : Int × Int) : Prop := p.1 ≠ q.1 ∧ p.1 ≠ q.2 ∧ p.2 ≠ q.1 ∧ p.2 ≠ q.2
inductive Shk (l : List (Int × Int)) : List (Int × Int) → Prop
  | refl : Shk l l
  | step {x y : List (Int × Int)} {p q : Int × Int} : Shk l (x ++ [p, q] ++ y) → apart p q → Shk l (x ++ [q, p] ++ y)
theorem Shk.perm {l m : List (Int × Int)} (h : Shk l m) : m.Perm l := by
  induction h with
  | refl => exact List.Perm.refl _
  | step _ _ ih => exact ((List.Perm.append_left _ (List.Perm.swap _ _ _)).append_right _).trans ih
theorem Shk.ords {l m : List (Int × Int)} (h : Shk l m) (k : Int) : nbraw m k = nbraw l k := by
  induction h with
  | refl => rfl
  | @step x y p q _ ap ih =>
    rw [← ih, nbraw_app, nbraw_app, nbraw_app, nbraw_app]
    congr 2
    obtain ⟨a1, a2, a3, a4⟩ := ap
    rw [nbraw_cons', nbraw_cons', nbraw_cons', nbraw_cons']
    by_cases h1 : q.1 = k
    · rw [if_neg (by omega : ¬ p.1 = k), if_neg (by omega : ¬ p.2 = k)]; simp
    · by_cases h2 : q.2 = k
      · rw [if_neg (by omega : ¬ p.1 = k), if_neg (by omega : ¬ p.2 = k)]; simp
      · rw [if_neg h1, if_neg h2]; simp
theorem Shk.ordsL {n : Nat} {l m : List (Int × Int)} (h : Shk l m) : ordsL n m = ordsL n l := tab_ext fun j _ => h.ords _

abbrev s__law_right : Stmt := topS 23
theorem sc__law_right : FnScope ["_law_draws_here", "_law_size", "_law_made", "_law_kept", "_law_due", "_law_told", "_law_number", "_law_spots", "_law_other", "_law_again", "_law_pair", "_law_own"] ["_law_draws_here", "_law_size", "_law_made"] (defScope s__law_right) := ⟨rfl, rfl, rfl, by decide +kernel, rfl, by decide +kernel, by decide +kernel⟩
theorem spots_in {n : Nat} {log : List (Int × Int)} (hv : ValidL n log) (t : Int) : ∀ x ∈ spots log t, 1 ≤ x ∧ x ≤ n := by
  intro x hx
  obtain ⟨z, hz, hx⟩ := List.mem_flatMap.mp hx
  have h2 : z.2 ∈ log := by rw [← zipT_snd log]; exact List.mem_map.mpr ⟨z, (List.mem_filter.mp hz).1, rfl⟩
  have := hv _ h2
  simp only [List.mem_cons, List.not_mem_nil, or_false] at hx
  rcases hx with rfl | rfl <;> omega
def spR (t : Int) (Z : List (Int × Int × Int)) : List (List Int) := (Z.filter fun z => decide (z.1 = t)).map fun z => [z.2.1, z.2.2]
theorem spR_flat (log : List (Int × Int)) (t : Int) : (spR t (zipT log)).flatten = spots log t := by
  unfold spR spots
  rw [← List.flatMap_def]
theorem spR_snoc (t : Int) (Z : List (Int × Int × Int)) (z : Int × Int × Int) : spR t (Z ++ [z]) = spR t Z ++ (if z.1 = t then [[z.2.1, z.2.2]] else []) := by
  unfold spR
  rw [List.filter_append, List.map_append]
  congr 1
  by_cases h : z.1 = t
  · rw [if_pos h]; simp [h]
  · rw [if_neg h]; simp [h]
section
variable {P : Program} {w : World} {K : PySem.W.Frag} {mg : Str → Option Value} {base : Heap}
def sp__law_right (K : PySem.W.Frag) : Sp := fun vs H Q _ => ∃ (a s : Addr) (m n : Nat) (log : List (Int × Int)), vs = [.ref a, .int n, .ref s] ∧ Draw H a m ∧ m ≤ 800000 ∧ 1 ≤ n ∧ n ≤ 16 ∧ ValidL n log ∧ log.Nodup ∧ log.length < 64 ∧ IsPairs K H s log ∧
  ∀ H', SameX a H H' → Draw H' a (m + log.length) → Q (.bl true) H'
theorem ok__law_right {f : Addr} {fd : FuncData} {k : Nat} (F : Fun K "_law_right" "_law_right" s__law_right f fd) (z_repr : mg "repr" = none) (z_max : mg "max" = none) (z_range : mg "range" = none) (z_zip : mg "zip" = none)
    (z_list : mg "list" = none) (z_sum : mg "sum" = none) (z_len : mg "len" = none) (z_set : mg "set" = none) (z_sorted : mg "sorted" = none)
    (c__law_turns : CalG P w K mg base k "_law_turns" s__law_turns ["_law_made"] (sp__law_turns K)) (c_turns : CalG P w K mg base k "turns" s_turns ["cells", "log"] (sp_turns K))
    (c__law_sorted : CalG P w K mg base k "_law_sorted" s__law_sorted ["_law_draws_here", "_law_made", "_law_numbers"] (sp__law_sorted K))
    (c_are_one_kind : CalG P w K mg base k "are_one_kind" s_are_one_kind ["cells", "log", "other"] (sp_are_one_kind K)) (c_ends : CalG P w K mg base k "ends" s_ends ["cells", "log"] (sp_ends K))
    (k_turns_log_cells : KwOk "turns" s_turns ["cells", "log"] ["log", "cells"] turn2 turn2) :
    FG P w K mg base CX0 (k + 1) f fd ["_law_draws_here", "_law_size", "_law_made"] (sp__law_right K) := by
  refine fg_fun F sc__law_right (fun vs H Q E h => ?_) (fun cdv A out s H vs Q E hr hg h => ?_)
  · obtain ⟨a, s, m, n, log, rfl, _⟩ := h
    rfl
  · have hu65 : (A.deeper (envOfC "_law_right" (defScope s__law_right) s.heap.objs.size f cdv)).units + 65 < cLine := by have := hr.un; omega
    obtain ⟨a, s, m, n, log, rfl, hD, hm, n1, n2, hv, hnd, hl, hp, q⟩ := h
    have hu64 := hr.units
    refine ⟨_, (pss_cons (ps_set (i := 3) sc__law_right.nd rfl (.inl rfl) (pe_callB (call_reprDK K rfl hu64 hg) (by rfl) z_repr bt_repr (pa_cons (pv 2) pa_nil)))
      (pss_cons (ps_set (i := 4) sc__law_right.nd rfl (.inr rfl) (pe_cG c__law_turns hr (by omega) hg (by rfl) (pa_cons (pv 2) pa_nil)))
      (pss_cons (ps_set (i := 5) sc__law_right.nd rfl (.inl rfl) (pe_lst (pa_cons (pe_cG c_turns hr (by omega) hg (by rfl) (pa_cons (pv 1) (pa_cons (pv 2) pa_nil))) (pa_cons (pe_ckG c_turns k_turns_log_cells hr (by omega) hg (by rfl) (pk_cons (pv 2) (pk_cons (pv 1) pk_nil))) pa_nil))))
      (pss_cons (ps_if (PW.pt (pw_or (pt_cmpR op_ne (pe_callB (call_reprDK K rfl hu64 hg) (by rfl) z_repr bt_repr (pa_cons (pv 5) pa_nil)) (pe_callB (call_reprDK K rfl hu64 hg) (by rfl) z_repr bt_repr (pa_cons (pe_lst (pa_cons (pv 4) (pa_cons (pv 4) pa_nil))) pa_nil)) (nomark _)) (pw_or1 (pt_cmpR op_ne (pe_callB (call_reprDK K rfl hu64 hg) (by rfl) z_repr bt_repr (pa_cons (pv 2) pa_nil)) (pv 3) (nomark _)))))
        (pss_one (ps_ret pe_bl))
        pss_nil)
      (pss_cons (ps_for PassesOwn.never rfl (pi_range2 (by rfl) z_range (pa_cons pe_int (pa_cons (pe_op op_add (pe_callB (cr_maxK K rfl rfl) (by rfl) z_max bt_max (pa_cons (pe_op op_cat (pe_lst (pa_cons pe_int pa_nil)) (pv 4)) pa_nil)) pe_int) pa_nil))) (pg_name (i := 6) sc__law_right.nd rfl (.inr rfl))
        (pss_cons (ps_set (i := 7) sc__law_right.nd rfl (.inl rfl) (pe_callB (cr_sumLK K rfl rfl) (by rfl) z_sum bt_sum (pa_cons (pe_lc (own := [("_law_pair", 10), ("_law_own", 11)]) rfl sc__law_right.nd (pi_zipK K rfl (by rfl) z_zip (pa_cons (pv 2) (pa_cons (pv 4) pa_nil))) (blkOk_by (N := ["_law_draws_here", "_law_size", "_law_made", "_law_kept", "_law_due", "_law_told", "_law_number", "_law_spots", "_law_other", "_law_again", "_law_pair", "_law_own"]) (sc := defScope s__law_right) (by decide +kernel)) (fun _ _ _ _ _ => (pg_tupK (n := 2) K rfl rfl (pgs_cons (pg_name (i := 10) sc__law_right.nd rfl (Or.inl rfl)) (pgs_cons (pg_name (i := 11) sc__law_right.nd rfl (Or.inl rfl)) pgs_nil)))) (fun _ _ _ _ _ => (pts_one (pt_cmpR op_eq (pv 11) (pv 6) (nomark _)))) (fun _ _ _ _ _ => (pe_callTy (call_list_ofK K rfl) (by rfl) z_list bt_list (pa_cons (pv 10) pa_nil)))) (pa_cons (pe_lst pa_nil) pa_nil))))
          (pss_one (ps_if (PW.pt (pw_or (pt_cmpR op_ne (pe_lenSetIK K rfl rfl (by rfl) z_len (by rfl) z_set (pv 7)) (pe_callB (call_len_seqK K rfl) (by rfl) z_len bt_len (pa_cons (pv 7) pa_nil)) (nomark _)) (pw_or1 (pt_cmpR (op_eqDK K rfl hu64) (pv 7) (pe_lst pa_nil) (nomark _)))))
            (pss_one (ps_ret pe_bl))
            pss_nil))))
      (pss_cons (ps_set (i := 8) sc__law_right.nd rfl (.inl rfl) (pe_cG c__law_sorted hr (by omega) hg (by rfl) (pa_cons (pv 0) (pa_cons (pv 2) (pa_cons (pv 4) pa_nil)))))
      (pss_cons (ps_if (PW.pt (pw_or (pt_not (pt_val (pe_cG c_are_one_kind hr (by omega) hg (by rfl) (pa_cons (pv 1) (pa_cons (pv 2) (pa_cons (pv 8) pa_nil)))))) (pw_or1 (pt_cmpR (op_neDK K rfl hu64) (pe_cG c_ends hr (by omega) hg (by rfl) (pa_cons (pv 1) (pa_cons (pv 8) pa_nil))) (pe_cG c_ends hr (by omega) hg (by rfl) (pa_cons (pv 1) (pa_cons (pv 2) pa_nil))) (nomark _)))))
        (pss_one (ps_ret pe_bl))
        pss_nil)
      (pss_cons (ps_set (i := 9) sc__law_right.nd rfl (.inl rfl) (pe_cG c_turns hr (by omega) hg (by rfl) (pa_cons (pv 1) (pa_cons (pv 8) pa_nil))))
      (pss_cons (ps_if (PW.pt (pw_or (pt_cmpR (op_neDK K rfl hu64) (pv 9) (pe_callB (cr_sortedIK K rfl) (by rfl) z_sorted bt_sorted (pa_cons (pv 4) pa_nil)) (nomark _)) (pw_or1 (pt_cmpR (op_neDK K rfl hu64) (pe_lc (own := [("_law_pair", 10)]) (tt := tYes) rfl sc__law_right.nd (pi_listK K rfl (pv 8)) (blkOk_by (N := ["_law_draws_here", "_law_size", "_law_made", "_law_kept", "_law_due", "_law_told", "_law_number", "_law_spots", "_law_other", "_law_again", "_law_pair", "_law_own"]) (sc := defScope s__law_right) (by decide +kernel)) (fun _ _ _ _ _ => (pg_name (i := 10) sc__law_right.nd rfl (Or.inl rfl))) (fun _ _ _ _ _ => pts_nil) (fun _ _ _ _ _ => (pe_ix (ix_listK K rfl) (pv 4) (pe_bmK K rfl PySem.F.plainAttrs_list PySem.F.slot_list_index PySem.F.type_list_index (mt_indexDK K rfl hu65) (pv 2) (pa_cons (pv 10) pa_nil)) (fun _ _ => rfl)))) (pv 9) (nomark _)))))
        (pss_one (ps_ret pe_bl))
        pss_nil)
      (pss_cons (ps_expr (pe_bmK K rfl PySem.F.plainAttrs_list PySem.F.slot_list_append PySem.F.type_list_append mt_append (pe_ix (ix_listK K rfl) (pv 5) pe_int (fun _ _ => rfl)) (pa_cons pe_non pa_nil)))
      (pss_one (ps_ret (pe_and (pe_cmpR op_eq (pe_callB (call_reprDK K rfl hu64 hg) (by rfl) z_repr bt_repr (pa_cons (pe_cG c_turns hr (by omega) hg (by rfl) (pa_cons (pv 1) (pa_cons (pv 2) pa_nil))) pa_nil)) (pe_callB (call_reprDK K rfl hu64 hg) (by rfl) z_repr bt_repr (pa_cons (pv 4) pa_nil)) (nomark _)) (pe_one (pe_cmpR op_eq (pe_callB (call_reprDK K rfl hu64 hg) (by rfl) z_repr bt_repr (pa_cons (pv 2) pa_nil)) (pv 3) (nomark _)))))))))))))))), ?_⟩
    have smL := log_smD n2 hv (by omega)
    have tl := turnsL_len log
    have tb := (turnsL_le log).1
    have smT : Sm 64 1 (dI (turnsL log)) := sm_dI (fun i hi => by have := tb i hi; omega) (by omega)
    refine ⟨_, rfl, _, _, rfl, hp.dp, smQ smL (by decide) (by decide) ?_⟩
    refine ⟨_, rfl, s, log, rfl, by omega, hp, fun H1 d l1 => ?_⟩
    have hp1 := hp.grow l1.same
    refine ⟨_, rfl, _, rfl, n, s, log, rfl, n1, n2, by omega, hv, hnd, hp1, fun H2 m2 l2 => ⟨_, rfl, _, rfl, rfl, n, s, log, rfl, n1, n2, by omega, hv, hnd, hp1.grow l2.same, fun H3 m3 l3 => ⟨sl2, fun t0 ht0 => ?_⟩⟩⟩
    have l4 := (((hD.dloc.call l1).call l2).call l3).alloc (o := .lst [.ref m2, .ref m3]) ht0
    have hp4 := ((hp1.grow l2.same).grow l3.same).grow (sA (o := .lst [.ref m2, .ref m3]) ht0)
    have i2 : IsInts K _ m2 (turnsL log) := SqL.of (l4.atIx (i := 2) rfl)
    have i3 : IsInts K _ m3 (turnsL log) := SqL.of (l4.atIx (i := 1) rfl)
    have id4 : IsInts K _ d (turnsL log) := SqL.of (l4.atIx (i := 3) rfl)
    refine ⟨_, rfl, _, _, rfl, dp_two (SqL.of (l4.atIx (i := 0) rfl)) i2.dp i3.dp, smQ (sm_two smT smT) (by decide) (by decide) ?_⟩
    refine ⟨_, rfl, _, rfl, sl2, fun e1 he1 => ?_⟩
    have l5 := l4.alloc (o := .lst [.ref d, .ref d]) he1
    have id5 := id4.grow (sA (o := .lst [.ref d, .ref d]) he1)
    refine ⟨_, _, rfl, dp_two (SqL.of (l5.atIx (i := 0) rfl)) id5.dp id5.dp, smQ (sm_two smT smT) (by decide) (by decide) ⟨rfl, _, rfl, ?_⟩⟩
    have hp5 := hp4.grow (sA (o := .lst [.ref d, .ref d]) he1)
    refine iteFF (by simp) ⟨_, rfl, _, _, rfl, hp5.dp, smQ smL (by decide) (by decide) ⟨_, rfl, rfl, _, rfl, iteFF (by simp) ?_⟩⟩
    refine ⟨sl1, fun g1 hg1 => ⟨_, rfl, g1, d, [.int 0], iv (turnsL log), rfl, rfl, upd_same, ?_, ?_, fun g2 hg2 => ⟨g2, 0 :: turnsL log, rfl, SqL.of upd_same, by simp, fun mxv hmx hle => ?_⟩⟩⟩
    · exact ((l5.alloc hg1).atIx (i := 5) rfl)
    · rw [iv_len]; exact Nat.le_of_lt (sl_line' (by simp; omega))
    have l6 := ((l5.alloc (o := .lst [.int 0]) hg1).alloc (o := .lst ([.int 0] ++ iv (turnsL log))) hg2).keep (M := [(t0, .lst [.ref m2, .ref m3]), (m2, .lst (iv (turnsL log))), (d, .lst (iv (turnsL log)))])
      (.cons _ (.cons _ (.cons _ (.cons_cons _ (.cons _ (.cons_cons _ (.cons_cons _ .slnil)))))))
    have hp6 := (hp5.grow (sA (o := .lst [.int 0]) hg1)).grow (sA (o := .lst ([.int 0] ++ iv (turnsL log))) hg2)
    generalize (upd (upd (upd (upd H3 t0 (HO.lst [V.ref m2, V.ref m3])) e1 (HO.lst [V.ref d, V.ref d])) g1 (HO.lst [V.int 0])) g2 (HO.lst ([V.int 0] ++ iv (turnsL log)))) = H6 at l6 hp6 ⊢
    have mx0 : 0 ≤ mxv := hle 0 List.mem_cons_self
    have mx64 : mxv ≤ 64 := by
      rcases List.mem_cons.mp hmx with h | h
      · omega
      · have := tb mxv h; omega
    refine ⟨_, _, rfl, rfl, _, _, rfl, ⟨by omega, by omega, by omega, by omega⟩, for_range (lo := 1) (n := (mxv + 1 - 1).toNat)
      (fun i σ H7 => ∃ y6 y7 : Option V, σ = [some (.ref a), some (.int n), some (.ref s), some (.str (dP log).shown), some (.ref d), some (.ref t0), y6, y7, none, none, none, none] ∧ Same H6 H7) ?_ ?_ ?_⟩
    · exact ⟨none, none, rfl, Same.refl _⟩
    · rintro i σ H7 hi ⟨y6, y7, rfl, s7⟩
      obtain ⟨ts, ets, hts, htt⟩ := hp6.grow s7
      have id7 : SqL K H7 d (iv (turnsL log)) := s7.seq (SqL.of (l6.atIx (i := 2) rfl))
      have tIn : (1 + (i : Int)) ∈ turnsL log := by
        rcases List.mem_cons.mp hmx with h | h
        · omega
        · have := turn_all log (mxv - 1 - i).toNat mxv h (by omega)
          rwa [show mxv - ((mxv - 1 - i).toNat : Int) = 1 + i from by omega] at this
      have tsl : ts.length = log.length := by rw [← vals_len ts, ets]
      have spl : (spots log (1 + (i : Int))).length ≤ 16 := Nat.le_trans (small_len (n := n) (spots_nodup hv _) (spots_in hv _)) n2
      refine ⟨_, rfl, _, rfl, s, d, refs ts, iv (turnsL log), rfl, hts, id7, fun D hDn => lc_n log.length
        (fun j H8 => ∃ rs : List (Addr × List Int), vals rs = spR (1 + (i : Int)) ((zipT log).take j) ∧ rs.length ≤ j ∧ Loc H7 H8 ((D, .lst (refs rs)) :: rowL rs)) ⟨[], rfl, Nat.le_refl _, (Loc.refl H7).alloc hDn⟩ ?_ ?_⟩
      · rintro j H8 hj ⟨rs, ev, rl, l⟩
        have q1 := l.same.seq hts
        have q2 := l.same.seq id7
        refine ⟨⟨refs ts, iv (turnsL log), .ref (ts[j]).1, .int ((turnsL log)[j]), q1, q2, refs_get (List.getElem?_eq_getElem _), iv_get (List.getElem?_eq_getElem _)⟩, ?_⟩
        rintro x H9 ⟨T, x1, x2, rfl, hT, rfl, f1, f2⟩
        obtain ⟨⟨b, c1, c2⟩, hq, rfl⟩ := refs_inv (f1 _ q1)
        obtain ⟨t, ht, rfl⟩ := iv_inv (f2 _ q2)
        have lj : log[j]? = some (c1, c2) := by rw [← ets]; unfold vals; rw [List.getElem?_map, hq]; rfl
        have zj : (zipT log)[j]? = some (t, c1, c2) := by
          unfold zipT
          exact List.getElem?_zip_eq_some.mpr ⟨ht, lj⟩
        have hTb := Same.sqT l.same (htt _ (List.mem_of_getElem? hq))
        have l1 := (l.alloc (o := .tup [.ref b, .int t]) hT).drop1
        refine ⟨T, _, rfl, .inl (.inl upd_same), rfl, _, _, rfl, _, _, rfl, rfl, rfl, ?_⟩
        refine ⟨_, rfl, _, rfl, rfl, _, rfl, ite2 (fun hb => ?_) (fun hb => ?_)⟩
        · have et : t = 1 + (i : Int) := by simpa using hb
          refine ⟨_, rfl, b, _, rfl, .inr (Same.sqT (sA hT) hTb), fun r hr => ?_⟩
          refine ⟨refs rs, (l1.alloc hr).atIx (i := 1) rfl, sl_line' (by rw [refs_len]; omega), rs ++ [(r, [c1, c2])], ?_, by simp; omega, l1.rowNew (row := [c1, c2]) hr⟩
          rw [take_snoc zj, spR_snoc, if_pos et, ← ev]
          exact List.map_append
        · have et : ¬ t = 1 + (i : Int) := by simpa using hb
          refine ⟨rs, ?_, by omega, l1⟩
          rw [take_snoc zj, spR_snoc, if_neg et, List.append_nil, ev]
      · rintro H8 ⟨rs, ev, rl, l⟩
        refine ⟨⟨refs ts, iv (turnsL log), l.same.seq hts, l.same.seq id7, .inl (by rw [refs_len, tsl]; exact Nat.le_refl _)⟩, ?_⟩
        have full : (zipT log).take log.length = zipT log := by
          rw [List.take_of_length_le]
          unfold zipT
          rw [List.length_zip]
          omega
        rw [full] at ev
        have fl : (vals (rs.map fun q => (q.1, iv q.2))).flatten = iv (spots log (1 + (i : Int))) := by
          rw [← spR_flat, ← ev]
          unfold vals iv
          rw [List.map_map, List.map_flatten, List.map_map]
          rfl
        have ne : (rs.map fun q => (q.1, iv q.2)) ≠ [] := fun z => by
          rw [z] at fl
          exact spots_ne tIn (by
            have : iv (spots log (1 + (i : Int))) = [] := fl.symm
            unfold iv at this
            simpa using this)
        refine ⟨by decide, fun e he => ⟨D, e, rs.map fun q => (q.1, iv q.2), rfl, ?_, ?_, upd_same, ?_, fun z => absurd z ne, fun _ p hpn => ?_⟩⟩
        · have e2 : refs (rs.map fun q => (q.1, iv q.2)) = refs rs := by unfold refs; rw [List.map_map]; rfl
          rw [e2]
          exact (sA he).seq (SqL.of l.at0)
        · intro r hr
          obtain ⟨q0, hq0, rfl⟩ := List.mem_map.mp hr
          exact (sA he) _ _ (l.here (q0.1, .lst (iv q0.2)) (List.mem_cons_of_mem _ (List.mem_map.mpr ⟨q0, hq0, rfl⟩)))
        · rw [fl, iv_len]; exact Nat.le_trans spl (by decide)
        rw [fl]
        have l9 := ((l.alloc (o := .lst []) he).alloc (o := .lst (iv (spots log (1 + (i : Int))))) hpn)
        have isp : SqL K _ p (iv (spots log (1 + (i : Int)))) := SqL.of (l9.atIx (i := 0) rfl)
        refine ⟨_, rfl, p, spots log (1 + (i : Int)), rfl, isp, by omega, spots_nodup hv _, _, rfl, p, _, rfl, .inl isp, rfl, _, rfl, ?_⟩
        refine iteFF (by rw [iv_len]; simp) ⟨_, rfl, by decide, fun e2 he2 => ⟨_, _, IsInts.dp ((sA he2).seq isp), IsInts.dp (ns := []) (SqL.of upd_same), shaped_dI _, shaped_dI _, _, rfl, iteFF ?_ ?_⟩⟩
        · rw [eqv_dI]; exact decide_eq_false (spots_ne tIn)
        · exact ⟨_, _, rfl, (s7.trans l9.same).trans (sA he2)⟩
    · rintro σ H7 ⟨y6, y7, rfl, s7⟩
      have l7 := l6.ext s7
      have hp7 := hp6.grow s7
      have id7 : IsInts K H7 d (turnsL log) := SqL.of (l7.atIx (i := 2) rfl)
      refine ⟨_, rfl, _, rfl, _, rfl, a, s, d, m, log, rfl, l7.draw, by omega, hl, hp7, id7, fun H8 o Z x8 d8 pm pw hz => ?_⟩
      have l8 := l7.jump x8 d8
      have hp8 := hp7.growX l7.draw x8
      have pm2 : (Z.map Prod.snd).Perm log := by have := pm.map Prod.snd; rwa [zipT_snd] at this
      have ll : (Z.map Prod.snd).length = log.length := pm2.length_eq
      have zl : Z.length = log.length := by rw [← ll, List.length_map]
      have lv := hv.perm pm2
      have ln := pm2.nodup_iff.mpr hnd
      refine ⟨_, rfl, _, rfl, _, rfl, n, s, o, log, Z.map Prod.snd, rfl, n1, n2, by omega, by omega, hv, hnd, lv, ln, hp8, hz, fun H9 s9 => ?_⟩
      rw [decide_eq_true (turn_kind pm pw n).symm]
      refine ⟨_, rfl, iteFF rfl ?_⟩
      refine ⟨_, rfl, _, rfl, n, o, Z.map Prod.snd, rfl, n1, n2, by omega, lv, ln, hz.grow s9, fun H10 p10 l10 => ⟨_, rfl, _, rfl, n, s, log, rfl, n1, n2, by omega, hv, hnd, (hp8.grow s9).grow l10.same, fun H11 p11 l11 => ?_⟩⟩
      refine ⟨_, _, IsInts.dp (SqL.of (l10.ext l11.same).at0), IsInts.dp (SqL.of l11.at0), shaped_dI _, shaped_dI _, ?_⟩
      rw [eqv_dI, decide_eq_true (ords_ends lv ln hv hnd (turn_kind pm pw n))]
      refine ⟨_, rfl, iteFF rfl ?_⟩
      have s8_11 := (s9.trans l10.same).trans l11.same
      have hz11 := hz.grow s8_11
      refine ⟨_, rfl, _, rfl, n, o, Z.map Prod.snd, rfl, n1, n2, by omega, lv, ln, hz11, fun H12 ag l12 => ?_⟩
      have l12' := (l8.ext s8_11).ext l12.same
      refine ⟨_, rfl, _, rfl, d, turnsL log, rfl, SqL.of (l12'.atIx (i := 2) rfl), fun ns' p pmn asc hpn => ?_⟩
      have pf : (Z.map Prod.fst).Perm (turnsL log) := by have := pm.map Prod.fst; rwa [zipT_fst] at this
      have ts2 : turnsL (Z.map Prod.snd) = Z.map Prod.fst := turn_same pm pw
      have en : Z.map Prod.fst = ns' := asc_unique (pf.trans pmn.symm) (List.pairwise_map.mpr pw) asc
      have iag : IsInts K H12 ag (Z.map Prod.fst) := by rw [← ts2]; exact SqL.of (l12.at0)
      subst en
      refine ⟨_, _, IsInts.dp (iag.grow (sA hpn)), IsInts.dp (SqL.of upd_same), shaped_dI _, shaped_dI _, ?_⟩
      rw [eqv_dI, decide_eq_true rfl]
      refine ⟨_, rfl, iteFF rfl ?_⟩
      have l13 := l12'.ext (sA (o := .lst ((Z.map Prod.fst).map V.int)) hpn)
      have hz13 := (hz11.grow l12.same).grow (sA (o := .lst ((Z.map Prod.fst).map V.int)) hpn)
      have hp13 := ((hp8.grow s8_11).grow l12.same).grow (sA (o := .lst ((Z.map Prod.fst).map V.int)) hpn)
      have iag13 := iag.grow (sA (o := .lst ((Z.map Prod.fst).map V.int)) hpn)
      generalize upd H12 p (.lst ((Z.map Prod.fst).map V.int)) = H13 at l13 hz13 hp13 iag13 ⊢
      obtain ⟨us, eus, hus, hut⟩ := hz13
      have usl : us.length = Z.length := by rw [← vals_len us, eus, List.length_map]
      refine ⟨_, rfl, o, rfl, ⟨_, hus⟩, fun D hDn => lc_list (K := K) (a := o) (xs := refs us)
        (fun j H14 => Loc H13 H14 [(D, .lst (iv ((Z.map Prod.fst).take j)))]) ((Loc.refl H13).alloc hDn) (fun j H14 _ l => l.same.seq hus) ?_ ?_⟩
      · rintro j x H14 hx l
        obtain ⟨⟨b, e⟩, hq, rfl⟩ := refs_inv hx
        have hj : j < Z.length := by have := (List.getElem?_eq_some_iff.mp hq).1; omega
        obtain ⟨⟨t, e'⟩, hz2⟩ : ∃ z, Z[j]? = some z := ⟨_, List.getElem?_eq_getElem hj⟩
        have ee : e' = e := by
          have h1 : (vals us)[j]? = some e := by unfold vals; rw [List.getElem?_map, hq]; rfl
          rw [eus, List.getElem?_map, hz2] at h1
          exact Option.some.inj h1
        subst ee
        obtain ⟨i, hi⟩ := List.getElem?_of_mem (pm.mem_iff.mp (List.mem_of_getElem? hz2))
        obtain ⟨hi1, hi2⟩ : (turnsL log)[i]? = some t ∧ log[i]? = some e' := List.getElem?_zip_eq_some.mp hi
        have hT := Same.sqT l.same (hut _ (List.mem_of_getElem? hq))
        have hp14 := hp13.grow l.same
        have id14 : SqL K H14 d (iv (turnsL log)) := l.same.seq (SqL.of (l13.atIx (i := 2) rfl))
        refine ⟨rfl, _, rfl, _, rfl, .inl ⟨rfl, _, hp14.choose_spec.2.1⟩, _, rfl, s, .ref b, dE e', log.map dE, i, dE e', rfl, rfl, hp14.dp, .tup hT (.cons (.int _) (.cons (.int _) .nil)), shaped_dP log, shaped_dE e',
          by rw [List.getElem?_map, hi2]; rfl, by rw [eqv_dE]; exact decide_eq_true rfl, ?_, d, _, _, _, rfl, rfl, id14, at_of (j := i) rfl (iv_get hi1), _, l.at0, sl_line' ?_, ?_⟩
        · intro m' z' hm' hz'
          rw [List.getElem?_map] at hz'
          obtain ⟨y, hy, rfl⟩ := Option.map_eq_some_iff.mp hz'
          rw [eqv_dE]
          refine decide_eq_false fun z => ?_
          subst z
          have := nd_ix hnd hy hi2
          omega
        · rw [iv_len]; have := List.length_take_le' j (Z.map Prod.fst); rw [List.length_map] at this; omega
        · rw [take_snoc (l := Z.map Prod.fst) (x := t) (by rw [List.getElem?_map, hz2]; rfl), iv_snoc]
          exact l.put0
      · rintro H14 l
        rw [refs_len, usl, List.take_of_length_le (by rw [List.length_map]; exact Nat.le_refl _)] at l
        refine ⟨_, rfl, _, _, IsInts.dp (SqL.of l.at0), IsInts.dp (iag13.grow l.same), shaped_dI _, shaped_dI _, ?_⟩
        rw [eqv_dI, decide_eq_true rfl]
        refine ⟨_, rfl, iteFF rfl ?_⟩
        have l14 := l13.ext l.same
        have hp14 := hp13.grow l.same
        refine ⟨_, rfl, t0, _, _, _, rfl, rfl, SqL.of (l14.atIx (i := 0) rfl), at_of (j := 0) rfl rfl, .inl ⟨rfl, _, SqL.of (l14.atIx (i := 1) rfl)⟩, m2, _, _, rfl, rfl, l14.atIx (i := 1) rfl, sl_line' (by rw [iv_len]; omega), ?_⟩
        have l15 := l14.setIx (i := 1) (o' := .lst (iv (turnsL log) ++ [.non])) rfl
        have hp15 := hp.growX hD l15.sameX
        refine ⟨_, rfl, _, rfl, n, s, log, rfl, n1, n2, by omega, hv, hnd, hp15, fun H16 p16 l16 => ?_⟩
        have l16' := l15.ext l16.same
        refine ⟨_, _, rfl, IsInts.dp (SqL.of l16.at0), smQ smT (by decide) (by decide) ⟨_, rfl, _, _, rfl, IsInts.dp (SqL.of (l16'.atIx (i := 2) rfl)), smQ smT (by decide) (by decide) ⟨rfl, _, rfl, ?_⟩⟩⟩
        refine iteTT (by simp) ⟨_, rfl, _, _, rfl, (hp15.grow l16.same).dp, smQ smL (by decide) (by decide) ⟨_, rfl, rfl, ?_⟩⟩
        have qq := q _ l16'.sameX l16'.draw
        have e0 : decide (V.str (dP log).shown = V.str (dP log).shown) = true := by simp
        rw [← e0] at qq
        exact qq
end

abbrev s_law : Stmt := topS 24
theorem sc_law : FnScope ["_law_script", "_law_draws_here", "_law_turn", "_law_size", "_law_some", "_law_cell"] ["_law_script"] (defScope s_law) := ⟨rfl, rfl, rfl, by decide +kernel, rfl, by decide +kernel, by decide +kernel⟩
theorem SameX.draw {a b : Addr} {m : Nat} {H H' : Hp} (s : SameX a H H') (hb : b ≠ a) (h : Draw H b m) : Draw H' b m := by
  obtain ⟨n, k, c, h1, h2⟩ := h
  exact ⟨n, k, c, s _ _ hb h1, h2⟩



theorem IsPairs.nil {K : PySem.W.Frag} {H : Hp} {a : Addr} (h : SqL K H a []) : IsPairs K H a [] := ⟨[], rfl, h, (fun _ z => nomatch z)⟩
theorem validW_nil {n : Nat} : ValidW n [] := ⟨(fun _ z => nomatch z), List.Pairwise.nil⟩


def drawL (ds : List (Addr × Int × Bool)) : Led := ds.map fun q => (q.1, drawO q.2.1 0 q.2.2)
section
variable {P : Program} {w : World} {K : PySem.W.Frag} {mg : Str → Option Value} {base : Heap}
def sp_law (K : PySem.W.Frag) : Sp := fun vs H Q _ => ∃ (a : Addr) (ns : List Int), vs = [.ref a] ∧ ns.length ≤ 63 ∧ SqL K H a (iv ns) ∧ ∀ H', Q (.bl true) H'
theorem ok_law {f : Addr} {fd : FuncData} {k : Nat} (F : Fun K "law" "law" s_law f fd) (z_range : mg "range" = none)
    (c__law_draws : CalG P w K mg base k "_law_draws" s__law_draws ["_law_cell"] sp__law_draws) (c__law_web : CalG P w K mg base k "_law_web" s__law_web ["_law_draws_here", "_law_most", "_law_many"] (sp__law_web K))
    (c__law_log : CalG P w K mg base k "_law_log" s__law_log ["_law_draws_here", "_law_some"] (sp__law_log K)) (c__law_right : CalG P w K mg base k "_law_right" s__law_right ["_law_draws_here", "_law_size", "_law_made"] (sp__law_right K)) (c_turns : CalG P w K mg base k "turns" s_turns ["cells", "log"] (sp_turns K)) :
    FG P w K mg base CX0 (k + 1) f fd ["_law_script"] (sp_law K) := by
  refine fg_fun F sc_law (fun vs H Q E h => ?_) (fun cdv A out s H vs Q E hr hg h => ?_)
  · obtain ⟨a, ns, rfl, _⟩ := h
    rfl
  · obtain ⟨a, ns, rfl, nl, hs, q⟩ := h
    have hu64 := hr.units
    refine ⟨_, (pss_cons (ps_for PassesOwn.never rfl (pi_listK K rfl (pe_lc (own := [("_law_cell", 5)]) (tt := tYes) rfl sc_law.nd (pi_listK K rfl (pe_op op_cat (pe_slice (sl_listK K rfl) (pv 0) po_none (po_some pe_int)) (pe_lst (pa_cons pe_int pa_nil)))) (blkOk_by (N := ["_law_script", "_law_draws_here", "_law_turn", "_law_size", "_law_some", "_law_cell"]) (sc := defScope s_law) (by decide +kernel)) (fun _ _ _ _ _ => (pg_name (i := 5) sc_law.nd rfl (Or.inl rfl))) (fun _ _ _ _ _ => pts_nil) (fun _ _ _ _ _ => (pe_cG c__law_draws hr (by omega) hg (by rfl) (pa_cons (pv 5) pa_nil))))) (pg_name (i := 1) sc_law.nd rfl (.inl rfl))
        (pss_one (ps_for PassesOwn.never rfl (pi_range1 (by rfl) z_range (pa_cons pe_int pa_nil)) (pg_name (i := 2) sc_law.nd rfl (.inl rfl))
            (pss_cons (ps_asg (pe_cG c__law_web hr (by omega) hg (by rfl) (pa_cons (pv 1) (pa_cons pe_int (pa_cons pe_int pa_nil)))) (pg_tupK K rfl rfl (pgs_cons (pg_name (i := 3) sc_law.nd rfl (.inl rfl)) (pgs_cons (pg_name (i := 4) sc_law.nd rfl (.inl rfl)) pgs_nil))))
              (pss_one (ps_if (pt_not (pt_val (pe_cG c__law_right hr (by omega) hg (by rfl) (pa_cons (pv 1) (pa_cons (pv 3) (pa_cons (pe_cG c__law_log hr (by omega) hg (by rfl) (pa_cons (pv 1) (pa_cons (pv 4) pa_nil))) pa_nil))))))
                (pss_one (ps_ret pe_bl))
                pss_nil))))))
      (pss_cons (ps_if (pt_cmpR (op_neDK K rfl hu64) (pe_cG c_turns hr (by omega) hg (by rfl) (pa_cons pe_int (pa_cons (pe_lst (pa_cons (pe_tup (pa_cons pe_int (pa_cons pe_int pa_nil))) (pa_cons (pe_tup (pa_cons pe_int (pa_cons pe_int pa_nil))) (pa_cons (pe_tup (pa_cons pe_int (pa_cons pe_int pa_nil))) (pa_cons (pe_tup (pa_cons pe_int (pa_cons pe_int pa_nil))) (pa_cons (pe_tup (pa_cons pe_int (pa_cons pe_int pa_nil))) pa_nil)))))) pa_nil))) (pe_lst (pa_cons pe_int (pa_cons pe_int (pa_cons pe_int (pa_cons pe_int (pa_cons pe_int pa_nil)))))) (nomark _))
        (pss_one (ps_ret pe_bl))
        pss_nil)
      (pss_one (ps_ret (pe_and (pe_cmpR (op_eqDK K rfl hu64) (pe_cG c_turns hr (by omega) hg (by rfl) (pa_cons pe_int (pa_cons (pe_lst (pa_cons (pe_tup (pa_cons pe_int (pa_cons pe_int pa_nil))) (pa_cons (pe_tup (pa_cons pe_int (pa_cons pe_int pa_nil))) (pa_cons (pe_tup (pa_cons pe_int (pa_cons pe_int pa_nil))) pa_nil)))) pa_nil))) (pe_lst (pa_cons pe_int (pa_cons pe_int (pa_cons pe_int pa_nil)))) (nomark _)) (pe_one (pe_cmpR (op_eqDK K rfl hu64) (pe_cG c_turns hr (by omega) hg (by rfl) (pa_cons pe_int (pa_cons (pe_lst pa_nil) pa_nil))) (pe_lst pa_nil) (nomark _)))))))), ?_⟩
    have ec : cutV (iv ns) none (some 6) = iv (ns.take 6) := (cut_to (xs := iv ns) (k := 6)).trans List.map_take.symm
    refine ⟨_, rfl, _, rfl, a, iv ns, rfl, hs, fun p1 hp1 => ⟨sl1, fun p2 hp2 => ?_⟩⟩
    rw [ec] at hp2 ⊢
    have m1 : upd (upd H p1 (.lst (iv (ns.take 6)))) p2 (.lst [.int 0]) p1 = some (.lst (iv (ns.take 6))) := by
      rw [upd_ne (ne_of_none upd_same hp2)]; exact upd_same
    have tl : (ns.take 6).length ≤ 6 := List.length_take_le _ _
    refine ⟨p1, p2, _, _, rfl, rfl, m1, upd_same, by rw [iv_len]; exact Nat.le_of_lt (sl_line' (by simp; omega)), fun p3 hp3 => ⟨p3, rfl, ⟨_, SqL.of upd_same⟩, fun D hD => ?_⟩⟩
    generalize hH0 : upd (upd (upd H p1 (.lst (iv (ns.take 6)))) p2 (.lst [.int 0])) p3 (.lst (iv (ns.take 6) ++ [.int 0])) = H0 at hD ⊢
    have s3 : SqL K H0 p3 (iv (ns.take 6 ++ [0])) := by rw [← hH0, iv_snoc]; exact SqL.of upd_same
    clear hH0
    refine lc_list (K := K) (a := p3) (xs := iv (ns.take 6 ++ [0])) (fun i H1 => ∃ ds : List (Addr × Int × Bool), ds.length = i ∧ (∀ q ∈ ds, 0 ≤ q.2.1) ∧ Loc H0 H1 ((D, .lst (refs ds)) :: drawL ds))
      ⟨[], rfl, (fun _ z => nomatch z), (Loc.refl H0).alloc hD⟩ (fun i H1 _ h => by obtain ⟨_, _, _, l⟩ := h; exact l.same.seq s3) ?_ ?_
    · rintro i x H1 hx ⟨ds, dl, dn, l⟩
      obtain ⟨c, hc, rfl⟩ := iv_inv hx
      have hi : i < (ns.take 6 ++ [0]).length := (List.getElem?_eq_some_iff.mp hc).1
      rw [List.length_append, List.length_singleton] at hi
      refine ⟨rfl, _, rfl, c, rfl, fun p n b hp n0 => ⟨refs ds, (l.alloc hp).atIx (i := 1) rfl, sl_line' (by rw [refs_len]; omega), ds ++ [(p, n, b)], by simp; omega, ?_, ?_⟩⟩
      · intro q hq
        rcases List.mem_append.mp hq with hq | hq
        · exact dn q hq
        · cases List.mem_singleton.mp hq; exact n0
      · have l2 := (l.alloc (o := drawO n 0 b) hp).setIx (i := 1) (o' := .lst (refs ds ++ [.ref p])) rfl
        have e : drawL (ds ++ [(p, n, b)]) = drawL ds ++ [(p, drawO n 0 b)] := List.map_append ..
        rw [refs_snoc, e]
        exact l2.perm (M := ((D, .lst (refs ds ++ [.ref p])) :: drawL ds) ++ [(p, _)]) List.perm_append_comm
    · rintro H1 ⟨ds, dl, dn, l⟩
      have nd := l.nd
      have fst : (drawL ds).map Prod.fst = ds.map Prod.fst := by unfold drawL; rw [List.map_map]; rfl
      rw [List.map_cons, fst, List.nodup_cons] at nd
      obtain ⟨ndD, nd⟩ := nd
      have neD : ∀ q ∈ ds, D ≠ q.1 := fun q hq e => ndD (by rw [e]; exact List.mem_map.mpr ⟨q, hq, rfl⟩)
      have neI : ∀ (i j : Nat) (q r : Addr × Int × Bool), ds[i]? = some q → ds[j]? = some r → i ≠ j → r.1 ≠ q.1 := fun i j q r h1 h2 h3 e => by
        refine h3 (nd_ix nd (by rw [List.getElem?_map, h1]; rfl) (by rw [List.getElem?_map, h2, ← e]; rfl))
      have start : ∀ q ∈ ds, Draw H1 q.1 0 := fun q hq => ⟨q.2.1, 0, q.2.2, l.here (q.1, drawO q.2.1 0 q.2.2) (List.mem_cons_of_mem _ (List.mem_map.mpr ⟨q, hq, rfl⟩)), dn q hq, by omega, by omega⟩
      refine ⟨D, rfl, ⟨_, SqL.of l.at0⟩, for_list (K := K) (a := D) (xs := refs ds)
        (fun i σ H2 => ∃ y1 y2 y3 y4 : Option V, σ = [some (.ref a), y1, y2, y3, y4, none] ∧ H2 D = some (.lst (refs ds)) ∧ ∀ j q, i ≤ j → ds[j]? = some q → Draw H2 q.1 0) ?_ ?_ ?_ ?_⟩
      · exact ⟨none, none, none, none, rfl, l.at0, fun j q _ hq => start q (List.mem_of_getElem? hq)⟩
      · intro i σ H2 _ h
        obtain ⟨_, _, _, _, _, h, _⟩ := h
        exact SqL.of h
      · rintro i x σ H2 hx ⟨y1, y2, y3, y4, rfl, hD2, hdr⟩
        obtain ⟨⟨b, z⟩, hq, rfl⟩ := refs_inv hx
        refine ⟨_, rfl, by omega, by omega, for_range (lo := 0) (n := (3 : Int).toNat)
          (fun t σ H3 => ∃ y2 y3 y4 : Option V, σ = [some (.ref a), some (.ref b), y2, y3, y4, none] ∧ H3 D = some (.lst (refs ds)) ∧ Draw H3 b (512 * t) ∧ ∀ j q, i + 1 ≤ j → ds[j]? = some q → Draw H3 q.1 0) ?_ ?_ ?_⟩
        · exact ⟨_, _, _, rfl, hD2, hdr i _ (Nat.le_refl _) hq, fun j q hj h => hdr j q (by omega) h⟩
        · rintro t σ H3 ht ⟨y2, y3, y4, rfl, hD3, hb, hdr3⟩
          have ht3 : t < 3 := ht
          have fin : ∀ H5, SameX b H3 H5 → Draw H5 b (512 * t + 512) → H5 D = some (.lst (refs ds)) ∧ Draw H5 b (512 * (t + 1)) ∧ ∀ j q, i + 1 ≤ j → ds[j]? = some q → Draw H5 q.1 0 := fun H5 sx dr =>
            ⟨sx _ _ (neD _ (List.mem_of_getElem? hq)) hD3, by rwa [show 512 * (t + 1) = 512 * t + 512 from by omega], fun j q hj h => sx.draw (neI i j _ _ hq h (by omega)) (hdr3 j q hj h)⟩
          refine ⟨_, rfl, b, 512 * t, 16, 9, rfl, hb, by omega, by decide, by decide, by decide, fun H4 T s n web sx dr hT hp hv n1 n2 wl => ⟨T, _, rfl, hT, rfl, _, _, rfl, _, _, rfl, rfl, ?_⟩⟩
          refine ⟨_, rfl, _, rfl, _, rfl, _, rfl, b, s, _, web, rfl, dr, by omega, by omega, hp, fun H5 lg log sx1 dr1 hpl pm => ?_⟩
          refine ⟨b, lg, _, n, log, rfl, dr1, by omega, n1, n2, hv.1.perm pm, pm.nodup_iff.mpr hv.nodup, by rw [pm.length_eq]; exact wl, hpl, fun H6 sx2 dr2 => ⟨_, rfl, ?_⟩⟩
          obtain ⟨f1, f2, f3⟩ := fin H6 (SameX.trans (SameX.trans sx sx1) sx2) (dr2.mono (by rw [pm.length_eq]; omega))
          exact iteFF rfl ⟨_, _, _, rfl, f1, f2, f3⟩
        · rintro σ H3 ⟨y2, y3, y4, rfl, hD3, hb, hdr3⟩
          exact ⟨_, _, _, _, rfl, hD3, hdr3⟩
      · rintro σ H2 ⟨y1, y2, y3, y4, rfl, hD2, hdr⟩
        clear hdr hD2 neI neD start fst
        refine ⟨sl2, fun tA_0 hA_0 => ⟨sl2, fun tA_1 hA_1 => ⟨sl2, fun tA_2 hA_2 => ⟨sl2, fun tA_3 hA_3 => ⟨sl2, fun tA_4 hA_4 => ⟨Nat.le_of_lt (sl_line' (by simp)), fun a_A ha_A => ?_⟩⟩⟩⟩⟩⟩
        have l_A := ((((((Loc.refl H2).alloc (o := .tup [.int 1, .int 2]) hA_0).alloc (o := .tup [.int 2, .int 3]) hA_1).alloc (o := .tup [.int 3, .int 4]) hA_2).alloc (o := .tup [.int 5, .int 6]) hA_3).alloc (o := .tup [.int 4, .int 5]) hA_4).alloc (o := .lst [.ref tA_0, .ref tA_1, .ref tA_2, .ref tA_3, .ref tA_4]) ha_A
        have p_A : IsPairs K _ a_A [(1, 2), (2, 3), (3, 4), (5, 6), (4, 5)] := ⟨[(tA_0, 1, 2), (tA_1, 2, 3), (tA_2, 3, 4), (tA_3, 5, 6), (tA_4, 4, 5)], rfl, SqL.of (l_A.atIx (i := 0) rfl), fun x hx => by
          simp only [List.mem_cons, List.not_mem_nil, or_false] at hx
          rcases hx with rfl | rfl | rfl | rfl | rfl
          · exact .inl (.inl (l_A.atIx (i := 5) rfl))
          · exact .inl (.inl (l_A.atIx (i := 4) rfl))
          · exact .inl (.inl (l_A.atIx (i := 3) rfl))
          · exact .inl (.inl (l_A.atIx (i := 2) rfl))
          · exact .inl (.inl (l_A.atIx (i := 1) rfl))⟩
        refine ⟨6, a_A, [(1, 2), (2, 3), (3, 4), (5, 6), (4, 5)], rfl, by decide, by decide, by decide, by unfold ValidL; decide, by decide, p_A, fun HA rA mA => ⟨by decide, fun dA hdA => ?_⟩⟩
        have lz_A := ((l_A.call mA).alloc (o := .lst (iv [1, 2, 3, 1, 4])) hdA)
        have e_A : turnsL [(1, 2), (2, 3), (3, 4), (5, 6), (4, 5)] = [1, 2, 3, 1, 4] := by decide
        have g_A : IsInts K (upd HA dA (.lst (iv [1, 2, 3, 1, 4]))) rA [1, 2, 3, 1, 4] := by
          rw [← e_A]
          exact SqL.of ((mA.ext (sA hdA)).at0)
        refine ⟨dI [1, 2, 3, 1, 4], dI [1, 2, 3, 1, 4], IsInts.dp g_A, IsInts.dp (SqL.of (lz_A.atIx (i := 0) rfl)), shaped_dI _, shaped_dI _, ?_⟩
        rw [eqv_dI, decide_eq_true rfl]
        refine ⟨_, rfl, iteFF rfl ?_⟩
        refine ⟨sl2, fun tB_0 hB_0 => ⟨sl2, fun tB_1 hB_1 => ⟨sl2, fun tB_2 hB_2 => ⟨Nat.le_of_lt (sl_line' (by simp)), fun a_B ha_B => ?_⟩⟩⟩⟩
        have l_B := ((((lz_A).alloc (o := .tup [.int 2, .int 3]) hB_0).alloc (o := .tup [.int 1, .int 2]) hB_1).alloc (o := .tup [.int 3, .int 4]) hB_2).alloc (o := .lst [.ref tB_0, .ref tB_1, .ref tB_2]) ha_B
        have p_B : IsPairs K _ a_B [(2, 3), (1, 2), (3, 4)] := ⟨[(tB_0, 2, 3), (tB_1, 1, 2), (tB_2, 3, 4)], rfl, SqL.of (l_B.atIx (i := 0) rfl), fun x hx => by
          simp only [List.mem_cons, List.not_mem_nil, or_false] at hx
          rcases hx with rfl | rfl | rfl
          · exact .inl (.inl (l_B.atIx (i := 3) rfl))
          · exact .inl (.inl (l_B.atIx (i := 2) rfl))
          · exact .inl (.inl (l_B.atIx (i := 1) rfl))⟩
        refine ⟨4, a_B, [(2, 3), (1, 2), (3, 4)], rfl, by decide, by decide, by decide, by unfold ValidL; decide, by decide, p_B, fun HB rB mB => ⟨by decide, fun dB hdB => ?_⟩⟩
        have lz_B := ((l_B.call mB).alloc (o := .lst (iv [1, 2, 2])) hdB)
        have e_B : turnsL [(2, 3), (1, 2), (3, 4)] = [1, 2, 2] := by decide
        have g_B : IsInts K (upd HB dB (.lst (iv [1, 2, 2]))) rB [1, 2, 2] := by
          rw [← e_B]
          exact SqL.of ((mB.ext (sA hdB)).at0)
        refine ⟨dI [1, 2, 2], dI [1, 2, 2], IsInts.dp g_B, IsInts.dp (SqL.of (lz_B.atIx (i := 0) rfl)), shaped_dI _, shaped_dI _, ?_⟩
        rw [eqv_dI, decide_eq_true rfl]
        refine ⟨_, rfl, iteTT rfl ?_⟩
        refine ⟨Nat.le_of_lt (sl_line' (by simp)), fun a_C ha_C => ?_⟩
        have l_C := (lz_B).alloc (o := .lst []) ha_C
        have p_C : IsPairs K _ a_C [] := ⟨[], rfl, SqL.of (l_C.atIx (i := 0) rfl), (fun _ z => nomatch z)⟩
        refine ⟨1, a_C, [], rfl, by decide, by decide, by decide, by unfold ValidL; decide, by decide, p_C, fun HC rC mC => ⟨by decide, fun dC hdC => ?_⟩⟩
        have lz_C := ((l_C.call mC).alloc (o := .lst (iv [])) hdC)
        have e_C : turnsL [] = [] := by decide
        have g_C : IsInts K (upd HC dC (.lst (iv []))) rC [] := by
          rw [← e_C]
          exact SqL.of ((mC.ext (sA hdC)).at0)
        refine ⟨dI [], dI [], IsInts.dp g_C, IsInts.dp (SqL.of (lz_C.atIx (i := 0) rfl)), shaped_dI _, shaped_dI _, ?_⟩
        rw [eqv_dI, decide_eq_true rfl]
        exact q _
end

theorem all_mk {l : PySem.W.OpenLaw} {w : World} {K : PySem.W.Frag} {h : Heap} {mg : Str → Option Value} {fa : Addr} (X : K.In h) (G : h.Ns mainGlobals mg) (hfa : mg "law" = some (.ref fa))
    {oc1 kV1 dc1 pm1 cd1 ct1 : Value} {od1 an1 : Option Addr} {sl1 : Array (Option Value)} {f1 : Addr}
    (a1 : PySem.W.nsIn K mainGlobals "is_whole" = some (some (.ref f1)))
    (l1 : K.lookup f1 = some ⟨oc1, od1, .func (PySem.W.fnOf "is_whole" "is_whole" (defArgs s_is_whole) (defBody s_is_whole) (defScope s_is_whole) .none kV1 dc1 pm1 an1 cd1 ct1), sl1⟩)
    (c1 : PySem.W.codeIn K cd1 "is_whole" = true) (k1 : PySem.W.keepIn K (.ref f1) = true)
    {oc2 kV2 dc2 pm2 cd2 ct2 : Value} {od2 an2 : Option Addr} {sl2 : Array (Option Value)} {f2 : Addr}
    (a2 : PySem.W.nsIn K mainGlobals "ways_after" = some (some (.ref f2)))
    (l2 : K.lookup f2 = some ⟨oc2, od2, .func (PySem.W.fnOf "ways_after" "ways_after" (defArgs s_ways_after) (defBody s_ways_after) (defScope s_ways_after) .none kV2 dc2 pm2 an2 cd2 ct2), sl2⟩)
    (c2 : PySem.W.codeIn K cd2 "ways_after" = true) (k2 : PySem.W.keepIn K (.ref f2) = true)
    {oc3 kV3 dc3 pm3 cd3 ct3 : Value} {od3 an3 : Option Addr} {sl3 : Array (Option Value)} {f3 : Addr}
    (a3 : PySem.W.nsIn K mainGlobals "orders_of" = some (some (.ref f3)))
    (l3 : K.lookup f3 = some ⟨oc3, od3, .func (PySem.W.fnOf "orders_of" "orders_of" (defArgs s_orders_of) (defBody s_orders_of) (defScope s_orders_of) .none kV3 dc3 pm3 an3 cd3 ct3), sl3⟩)
    (c3 : PySem.W.codeIn K cd3 "orders_of" = true) (k3 : PySem.W.keepIn K (.ref f3) = true)
    {oc4 kV4 dc4 pm4 cd4 ct4 : Value} {od4 an4 : Option Addr} {sl4 : Array (Option Value)} {f4 : Addr}
    (a4 : PySem.W.nsIn K mainGlobals "_law_draws" = some (some (.ref f4)))
    (l4 : K.lookup f4 = some ⟨oc4, od4, .func (PySem.W.fnOf "_law_draws" "_law_draws" (defArgs s__law_draws) (defBody s__law_draws) (defScope s__law_draws) .none kV4 dc4 pm4 an4 cd4 ct4), sl4⟩)
    (c4 : PySem.W.codeIn K cd4 "_law_draws" = true) (k4 : PySem.W.keepIn K (.ref f4) = true)
    {oc5 kV5 dc5 pm5 cd5 ct5 : Value} {od5 an5 : Option Addr} {sl5 : Array (Option Value)} {f5 : Addr}
    (a5 : PySem.W.nsIn K mainGlobals "_law_next" = some (some (.ref f5)))
    (l5 : K.lookup f5 = some ⟨oc5, od5, .func (PySem.W.fnOf "_law_next" "_law_next" (defArgs s__law_next) (defBody s__law_next) (defScope s__law_next) .none kV5 dc5 pm5 an5 cd5 ct5), sl5⟩)
    (c5 : PySem.W.codeIn K cd5 "_law_next" = true) (k5 : PySem.W.keepIn K (.ref f5) = true)
    {oc6 kV6 dc6 pm6 cd6 ct6 : Value} {od6 an6 : Option Addr} {sl6 : Array (Option Value)} {f6 : Addr}
    (a6 : PySem.W.nsIn K mainGlobals "_law_turns" = some (some (.ref f6)))
    (l6 : K.lookup f6 = some ⟨oc6, od6, .func (PySem.W.fnOf "_law_turns" "_law_turns" (defArgs s__law_turns) (defBody s__law_turns) (defScope s__law_turns) .none kV6 dc6 pm6 an6 cd6 ct6), sl6⟩)
    (c6 : PySem.W.codeIn K cd6 "_law_turns" = true) (k6 : PySem.W.keepIn K (.ref f6) = true)
    {oc7 kV7 dc7 pm7 cd7 ct7 : Value} {od7 an7 : Option Addr} {sl7 : Array (Option Value)} {f7 : Addr}
    (a7 : PySem.W.nsIn K mainGlobals "check_cells" = some (some (.ref f7)))
    (l7 : K.lookup f7 = some ⟨oc7, od7, .func (PySem.W.fnOf "check_cells" "check_cells" (defArgs s_check_cells) (defBody s_check_cells) (defScope s_check_cells) .none kV7 dc7 pm7 an7 cd7 ct7), sl7⟩)
    (c7 : PySem.W.codeIn K cd7 "check_cells" = true) (k7 : PySem.W.keepIn K (.ref f7) = true)
    {oc8 kV8 dc8 pm8 cd8 ct8 : Value} {od8 an8 : Option Addr} {sl8 : Array (Option Value)} {f8 : Addr}
    (a8 : PySem.W.nsIn K mainGlobals "is_exchange" = some (some (.ref f8)))
    (l8 : K.lookup f8 = some ⟨oc8, od8, .func (PySem.W.fnOf "is_exchange" "is_exchange" (defArgs s_is_exchange) (defBody s_is_exchange) (defScope s_is_exchange) .none kV8 dc8 pm8 an8 cd8 ct8), sl8⟩)
    (c8 : PySem.W.codeIn K cd8 "is_exchange" = true) (k8 : PySem.W.keepIn K (.ref f8) = true)
    {oc9 kV9 dc9 pm9 cd9 ct9 : Value} {od9 an9 : Option Addr} {sl9 : Array (Option Value)} {f9 : Addr}
    (a9 : PySem.W.nsIn K mainGlobals "ends_after" = some (some (.ref f9)))
    (l9 : K.lookup f9 = some ⟨oc9, od9, .func (PySem.W.fnOf "ends_after" "ends_after" (defArgs s_ends_after) (defBody s_ends_after) (defScope s_ends_after) .none kV9 dc9 pm9 an9 cd9 ct9), sl9⟩)
    (c9 : PySem.W.codeIn K cd9 "ends_after" = true) (k9 : PySem.W.keepIn K (.ref f9) = true)
    {oc10 kV10 dc10 pm10 cd10 ct10 : Value} {od10 an10 : Option Addr} {sl10 : Array (Option Value)} {f10 : Addr}
    (a10 : PySem.W.nsIn K mainGlobals "_law_web" = some (some (.ref f10)))
    (l10 : K.lookup f10 = some ⟨oc10, od10, .func (PySem.W.fnOf "_law_web" "_law_web" (defArgs s__law_web) (defBody s__law_web) (defScope s__law_web) .none kV10 dc10 pm10 an10 cd10 ct10), sl10⟩)
    (c10 : PySem.W.codeIn K cd10 "_law_web" = true) (k10 : PySem.W.keepIn K (.ref f10) = true)
    {oc11 kV11 dc11 pm11 cd11 ct11 : Value} {od11 an11 : Option Addr} {sl11 : Array (Option Value)} {f11 : Addr}
    (a11 : PySem.W.nsIn K mainGlobals "_law_log" = some (some (.ref f11)))
    (l11 : K.lookup f11 = some ⟨oc11, od11, .func (PySem.W.fnOf "_law_log" "_law_log" (defArgs s__law_log) (defBody s__law_log) (defScope s__law_log) .none kV11 dc11 pm11 an11 cd11 ct11), sl11⟩)
    (c11 : PySem.W.codeIn K cd11 "_law_log" = true) (k11 : PySem.W.keepIn K (.ref f11) = true)
    {oc12 kV12 dc12 pm12 cd12 ct12 : Value} {od12 an12 : Option Addr} {sl12 : Array (Option Value)} {f12 : Addr}
    (a12 : PySem.W.nsIn K mainGlobals "_law_sorted" = some (some (.ref f12)))
    (l12 : K.lookup f12 = some ⟨oc12, od12, .func (PySem.W.fnOf "_law_sorted" "_law_sorted" (defArgs s__law_sorted) (defBody s__law_sorted) (defScope s__law_sorted) .none kV12 dc12 pm12 an12 cd12 ct12), sl12⟩)
    (c12 : PySem.W.codeIn K cd12 "_law_sorted" = true) (k12 : PySem.W.keepIn K (.ref f12) = true)
    {oc13 kV13 dc13 pm13 cd13 ct13 : Value} {od13 an13 : Option Addr} {sl13 : Array (Option Value)} {f13 : Addr}
    (a13 : PySem.W.nsIn K mainGlobals "check_log" = some (some (.ref f13)))
    (l13 : K.lookup f13 = some ⟨oc13, od13, .func (PySem.W.fnOf "check_log" "check_log" (defArgs s_check_log) (defBody s_check_log) (defScope s_check_log) .none kV13 dc13 pm13 an13 cd13 ct13), sl13⟩)
    (c13 : PySem.W.codeIn K cd13 "check_log" = true) (k13 : PySem.W.keepIn K (.ref f13) = true)
    {oc14 kV14 dc14 pm14 cd14 ct14 : Value} {od14 an14 : Option Addr} {sl14 : Array (Option Value)} {f14 : Addr}
    (a14 : PySem.W.nsIn K mainGlobals "ends" = some (some (.ref f14)))
    (l14 : K.lookup f14 = some ⟨oc14, od14, .func (PySem.W.fnOf "ends" "ends" (defArgs s_ends) (defBody s_ends) (defScope s_ends) .none kV14 dc14 pm14 an14 cd14 ct14), sl14⟩)
    (c14 : PySem.W.codeIn K cd14 "ends" = true) (k14 : PySem.W.keepIn K (.ref f14) = true)
    {oc15 kV15 dc15 pm15 cd15 ct15 : Value} {od15 an15 : Option Addr} {sl15 : Array (Option Value)} {f15 : Addr}
    (a15 : PySem.W.nsIn K mainGlobals "turns" = some (some (.ref f15)))
    (l15 : K.lookup f15 = some ⟨oc15, od15, .func (PySem.W.fnOf "turns" "turns" (defArgs s_turns) (defBody s_turns) (defScope s_turns) .none kV15 dc15 pm15 an15 cd15 ct15), sl15⟩)
    (c15 : PySem.W.codeIn K cd15 "turns" = true) (k15 : PySem.W.keepIn K (.ref f15) = true)
    {oc16 kV16 dc16 pm16 cd16 ct16 : Value} {od16 an16 : Option Addr} {sl16 : Array (Option Value)} {f16 : Addr}
    (a16 : PySem.W.nsIn K mainGlobals "are_one_kind" = some (some (.ref f16)))
    (l16 : K.lookup f16 = some ⟨oc16, od16, .func (PySem.W.fnOf "are_one_kind" "are_one_kind" (defArgs s_are_one_kind) (defBody s_are_one_kind) (defScope s_are_one_kind) .none kV16 dc16 pm16 an16 cd16 ct16), sl16⟩)
    (c16 : PySem.W.codeIn K cd16 "are_one_kind" = true) (k16 : PySem.W.keepIn K (.ref f16) = true)
    {oc17 kV17 dc17 pm17 cd17 ct17 : Value} {od17 an17 : Option Addr} {sl17 : Array (Option Value)} {f17 : Addr}
    (a17 : PySem.W.nsIn K mainGlobals "_law_right" = some (some (.ref f17)))
    (l17 : K.lookup f17 = some ⟨oc17, od17, .func (PySem.W.fnOf "_law_right" "_law_right" (defArgs s__law_right) (defBody s__law_right) (defScope s__law_right) .none kV17 dc17 pm17 an17 cd17 ct17), sl17⟩)
    (c17 : PySem.W.codeIn K cd17 "_law_right" = true) (k17 : PySem.W.keepIn K (.ref f17) = true)
    {oc18 kV18 dc18 pm18 cd18 ct18 : Value} {od18 an18 : Option Addr} {sl18 : Array (Option Value)} {f18 : Addr}
    (a18 : PySem.W.nsIn K mainGlobals "law" = some (some (.ref f18)))
    (l18 : K.lookup f18 = some ⟨oc18, od18, .func (PySem.W.fnOf "law" "law" (defArgs s_law) (defBody s_law) (defScope s_law) .none kV18 dc18 pm18 an18 cd18 ct18), sl18⟩)
    (c18 : PySem.W.codeIn K cd18 "law" = true) (k18 : PySem.W.keepIn K (.ref f18) = true)
    (z_bool : PySem.W.nsIn K mainGlobals "bool" = some none)
    (z_enumerate : PySem.W.nsIn K mainGlobals "enumerate" = some none)
    (z_int : PySem.W.nsIn K mainGlobals "int" = some none)
    (z_isinstance : PySem.W.nsIn K mainGlobals "isinstance" = some none)
    (z_len : PySem.W.nsIn K mainGlobals "len" = some none)
    (z_list : PySem.W.nsIn K mainGlobals "list" = some none)
    (z_max : PySem.W.nsIn K mainGlobals "max" = some none)
    (z_min : PySem.W.nsIn K mainGlobals "min" = some none)
    (z_range : PySem.W.nsIn K mainGlobals "range" = some none)
    (z_repr : PySem.W.nsIn K mainGlobals "repr" = some none)
    (z_set : PySem.W.nsIn K mainGlobals "set" = some none)
    (z_sorted : PySem.W.nsIn K mainGlobals "sorted" = some none)
    (z_sum : PySem.W.nsIn K mainGlobals "sum" = some none)
    (z_tuple : PySem.W.nsIn K mainGlobals "tuple" = some none)
    (z_zip : PySem.W.nsIn K mainGlobals "zip" = some none)
    {tg_MOST_CELLS : Nat} (g_MOST_CELLS : PySem.W.nsIn K mainGlobals "MOST_CELLS" = some (some (.int 16 tg_MOST_CELLS)))
    : ∃ fd : FuncData, (∀ (s : Shared) (u : Value), BindsTo s fd ⟨[u], []⟩ [("_law_script", u)]) ∧ ∀ base : Heap, K.In base → base.Ns mainGlobals mg → FG l.prog w K mg base CX0 6 fa fd ["_law_script"] (sp_law K) := by
  have e := hfa.symm.trans (PySem.W.mg_of X G a18)
  cases e
  have F1 := fun_mk (st := s_is_whole) l1 c1 k1
  have F2 := fun_mk (st := s_ways_after) l2 c2 k2
  have F3 := fun_mk (st := s_orders_of) l3 c3 k3
  have F4 := fun_mk (st := s__law_draws) l4 c4 k4
  have F5 := fun_mk (st := s__law_next) l5 c5 k5
  have F6 := fun_mk (st := s__law_turns) l6 c6 k6
  have F7 := fun_mk (st := s_check_cells) l7 c7 k7
  have F8 := fun_mk (st := s_is_exchange) l8 c8 k8
  have F9 := fun_mk (st := s_ends_after) l9 c9 k9
  have F10 := fun_mk (st := s__law_web) l10 c10 k10
  have F11 := fun_mk (st := s__law_log) l11 c11 k11
  have F12 := fun_mk (st := s__law_sorted) l12 c12 k12
  have F13 := fun_mk (st := s_check_log) l13 c13 k13
  have F14 := fun_mk (st := s_ends) l14 c14 k14
  have F15 := fun_mk (st := s_turns) l15 c15 k15
  have F16 := fun_mk (st := s_are_one_kind) l16 c16 k16
  have F17 := fun_mk (st := s__law_right) l17 c17 k17
  have F18 := fun_mk (st := s_law) l18 c18 k18
  have z_bool' := PySem.W.mg_none_of X G z_bool
  have z_enumerate' := PySem.W.mg_none_of X G z_enumerate
  have z_int' := PySem.W.mg_none_of X G z_int
  have z_isinstance' := PySem.W.mg_none_of X G z_isinstance
  have z_len' := PySem.W.mg_none_of X G z_len
  have z_list' := PySem.W.mg_none_of X G z_list
  have z_max' := PySem.W.mg_none_of X G z_max
  have z_min' := PySem.W.mg_none_of X G z_min
  have z_range' := PySem.W.mg_none_of X G z_range
  have z_repr' := PySem.W.mg_none_of X G z_repr
  have z_set' := PySem.W.mg_none_of X G z_set
  have z_sorted' := PySem.W.mg_none_of X G z_sorted
  have z_sum' := PySem.W.mg_none_of X G z_sum
  have z_tuple' := PySem.W.mg_none_of X G z_tuple
  have z_zip' := PySem.W.mg_none_of X G z_zip
  have g_MOST_CELLS' := PySem.W.mg_of X G g_MOST_CELLS
  have k_turns_log_cells : KwOk "turns" s_turns ["cells", "log"] ["log", "cells"] turn2 turn2 := ⟨fun _ _ _ _ _ _ ws hl => match ws, hl with | [_, _], _ => rfl, fun h => turn2_vals h⟩
  refine ⟨PySem.W.fnOf "law" "law" (defArgs s_law) (defBody s_law) (defScope s_law) .none kV18 dc18 pm18 an18 cd18 ct18, fun s v => .of_eq rfl, fun base _ _ => ?_⟩
  have C1 : CalG l.prog w K mg base 1 "is_whole" s_is_whole ["thing"] (sp_is_whole K) := ⟨⟨f1, _, ok_is_whole (P := l.prog) (w := w) (K := K) (mg := mg) (base := base) (k := 0) F1 z_int' z_isinstance' z_bool', PySem.W.mg_of X G a1, F1⟩, fun _ _ _ _ _ _ us hl => match us, hl with | [_], _ => rfl⟩
  have C2 : CalG l.prog w K mg base 1 "ways_after" s_ways_after ["cells", "log"] (sp_ways_after K) := ⟨⟨f2, _, ok_ways_after (P := l.prog) (w := w) (K := K) (mg := mg) (base := base) (k := 0) F2 z_range' z_list', PySem.W.mg_of X G a2, F2⟩, fun _ _ _ _ _ _ us hl => match us, hl with | [_, _], _ => rfl⟩
  have C3 : CalG l.prog w K mg base 1 "orders_of" s_orders_of ["cells", "log"] (sp_orders_of K) := ⟨⟨f3, _, ok_orders_of (P := l.prog) (w := w) (K := K) (mg := mg) (base := base) (k := 0) F3 z_range', PySem.W.mg_of X G a3, F3⟩, fun _ _ _ _ _ _ us hl => match us, hl with | [_, _], _ => rfl⟩
  have C4 : CalG l.prog w K mg base 1 "_law_draws" s__law_draws ["_law_cell"] sp__law_draws := ⟨⟨f4, _, ok__law_draws (P := l.prog) (w := w) (K := K) (mg := mg) (base := base) (k := 0) F4 z_int', PySem.W.mg_of X G a4, F4⟩, fun _ _ _ _ _ _ us hl => match us, hl with | [_], _ => rfl⟩
  have C5 : CalG l.prog w K mg base 1 "_law_next" s__law_next ["_law_draws_here"] sp__law_next := ⟨⟨f5, _, ok__law_next (P := l.prog) (w := w) (K := K) (mg := mg) (base := base) (k := 0) F5 z_int', PySem.W.mg_of X G a5, F5⟩, fun _ _ _ _ _ _ us hl => match us, hl with | [_], _ => rfl⟩
  have C6 : CalG l.prog w K mg base 1 "_law_turns" s__law_turns ["_law_made"] (sp__law_turns K) := ⟨⟨f6, _, ok__law_turns (P := l.prog) (w := w) (K := K) (mg := mg) (base := base) (k := 0) F6 z_enumerate' z_range' z_max', PySem.W.mg_of X G a6, F6⟩, fun _ _ _ _ _ _ us hl => match us, hl with | [_], _ => rfl⟩
  have C7 : CalG l.prog w K mg base 2 "check_cells" s_check_cells ["cells"] sp_check_cells := ⟨⟨f7, _, ok_check_cells (P := l.prog) (w := w) (K := K) (mg := mg) (base := base) (k := 1) F7 (C1.mono (by decide)) ⟨_, g_MOST_CELLS'⟩, PySem.W.mg_of X G a7, F7⟩, fun _ _ _ _ _ _ us hl => match us, hl with | [_], _ => rfl⟩
  have C8 : CalG l.prog w K mg base 2 "is_exchange" s_is_exchange ["thing", "cells"] (sp_is_exchange K) := ⟨⟨f8, _, ok_is_exchange (P := l.prog) (w := w) (K := K) (mg := mg) (base := base) (k := 1) F8 z_tuple' z_isinstance' z_len' (C1.mono (by decide)), PySem.W.mg_of X G a8, F8⟩, fun _ _ _ _ _ _ us hl => match us, hl with | [_, _], _ => rfl⟩
  have C9 : CalG l.prog w K mg base 2 "ends_after" s_ends_after ["cells", "log"] (sp_ends_after K) := ⟨⟨f9, _, ok_ends_after (P := l.prog) (w := w) (K := K) (mg := mg) (base := base) (k := 1) F9 (C2.mono (by decide)), PySem.W.mg_of X G a9, F9⟩, fun _ _ _ _ _ _ us hl => match us, hl with | [_, _], _ => rfl⟩
  have C10 : CalG l.prog w K mg base 2 "_law_web" s__law_web ["_law_draws_here", "_law_most", "_law_many"] (sp__law_web K) := ⟨⟨f10, _, ok__law_web (P := l.prog) (w := w) (K := K) (mg := mg) (base := base) (k := 1) F10 z_int' z_range' z_min' z_max' z_set' z_sorted' (C5.mono (by decide)), PySem.W.mg_of X G a10, F10⟩, fun _ _ _ _ _ _ us hl => match us, hl with | [_, _, _], _ => rfl⟩
  have C11 : CalG l.prog w K mg base 2 "_law_log" s__law_log ["_law_draws_here", "_law_some"] (sp__law_log K) := ⟨⟨f11, _, ok__law_log (P := l.prog) (w := w) (K := K) (mg := mg) (base := base) (k := 1) F11 z_list' z_int' z_len' (C5.mono (by decide)), PySem.W.mg_of X G a11, F11⟩, fun _ _ _ _ _ _ us hl => match us, hl with | [_, _], _ => rfl⟩
  have C12 : CalG l.prog w K mg base 2 "_law_sorted" s__law_sorted ["_law_draws_here", "_law_made", "_law_numbers"] (sp__law_sorted K) := ⟨⟨f12, _, ok__law_sorted (P := l.prog) (w := w) (K := K) (mg := mg) (base := base) (k := 1) F12 z_enumerate' z_int' z_sorted' (C5.mono (by decide)), PySem.W.mg_of X G a12, F12⟩, fun _ _ _ _ _ _ us hl => match us, hl with | [_, _, _], _ => rfl⟩
  have C13 : CalG l.prog w K mg base 3 "check_log" s_check_log ["cells", "log"] (sp_check_log K) := ⟨⟨f13, _, ok_check_log (P := l.prog) (w := w) (K := K) (mg := mg) (base := base) (k := 2) F13 z_list' z_isinstance' z_enumerate' (C7.mono (by decide)) (C8.mono (by decide)), PySem.W.mg_of X G a13, F13⟩, fun _ _ _ _ _ _ us hl => match us, hl with | [_, _], _ => rfl⟩
  have C14 : CalG l.prog w K mg base 4 "ends" s_ends ["cells", "log"] (sp_ends K) := ⟨⟨f14, _, ok_ends (P := l.prog) (w := w) (K := K) (mg := mg) (base := base) (k := 3) F14 (C13.mono (by decide)) (C9.mono (by decide)), PySem.W.mg_of X G a14, F14⟩, fun _ _ _ _ _ _ us hl => match us, hl with | [_, _], _ => rfl⟩
  have C15 : CalG l.prog w K mg base 4 "turns" s_turns ["cells", "log"] (sp_turns K) := ⟨⟨f15, _, ok_turns (P := l.prog) (w := w) (K := K) (mg := mg) (base := base) (k := 3) F15 z_range' z_max' (C13.mono (by decide)), PySem.W.mg_of X G a15, F15⟩, fun _ _ _ _ _ _ us hl => match us, hl with | [_, _], _ => rfl⟩
  have C16 : CalG l.prog w K mg base 4 "are_one_kind" s_are_one_kind ["cells", "log", "other"] (sp_are_one_kind K) := ⟨⟨f16, _, ok_are_one_kind (P := l.prog) (w := w) (K := K) (mg := mg) (base := base) (k := 3) F16 (C13.mono (by decide)) (C3.mono (by decide)), PySem.W.mg_of X G a16, F16⟩, fun _ _ _ _ _ _ us hl => match us, hl with | [_, _, _], _ => rfl⟩
  have C17 : CalG l.prog w K mg base 5 "_law_right" s__law_right ["_law_draws_here", "_law_size", "_law_made"] (sp__law_right K) := ⟨⟨f17, _, ok__law_right (P := l.prog) (w := w) (K := K) (mg := mg) (base := base) (k := 4) F17 z_repr' z_max' z_range' z_zip' z_list' z_sum' z_len' z_set' z_sorted' (C6.mono (by decide)) (C15.mono (by decide)) (C12.mono (by decide)) (C16.mono (by decide)) (C14.mono (by decide)) k_turns_log_cells, PySem.W.mg_of X G a17, F17⟩, fun _ _ _ _ _ _ us hl => match us, hl with | [_, _, _], _ => rfl⟩
  exact ok_law (P := l.prog) (w := w) (K := K) (mg := mg) (base := base) (k := 5) F18 z_range' (C4.mono (by decide)) (C10.mono (by decide)) (C11.mono (by decide)) (C17.mono (by decide)) (C15.mono (by decide))
end UN
open PySem PySem.W PyProof.Rows
set_option maxHeartbeats 0 in
theorem PySem.Challenge.cw_unnoted_k15_whole_turns_holds : PySem.Challenge.rw_unnoted_k15_whole_turns.Holds := by
  w_on; o_law; k_head; (case hw => w_witness2)
  k_fill
  refine UN.walk_G (l := PySem.Challenge.rw_unnoted_k15_whole_turns) (n := 63) (k := 6) (x := "_law_script") (sp := fun w => UN.sp_law _) rfl (by decide) rfl ⟨rfl, by decide, by decide⟩ (fun w h Y => PySem.W.kIn_of Y) ?F (fun _ _ a ns hl _ hS => ⟨a, ns, rfl, hl, hS, fun _ => rfl⟩)
  case F =>
    intro w mg fa h KX G hmg
    refine' UN.all_mk KX G hmg ?a1 ?l1 ?c1 ?k1 ?a2 ?l2 ?c2 ?k2 ?a3 ?l3 ?c3 ?k3 ?a4 ?l4 ?c4 ?k4 ?a5 ?l5 ?c5 ?k5 ?a6 ?l6 ?c6 ?k6 ?a7 ?l7 ?c7 ?k7 ?a8 ?l8 ?c8 ?k8 ?a9 ?l9 ?c9 ?k9 ?a10 ?l10 ?c10 ?k10 ?a11 ?l11 ?c11 ?k11 ?a12 ?l12 ?c12 ?k12 ?a13 ?l13 ?c13 ?k13 ?a14 ?l14 ?c14 ?k14 ?a15 ?l15 ?c15 ?k15 ?a16 ?l16 ?c16 ?k16 ?a17 ?l17 ?c17 ?k17 ?a18 ?l18 ?c18 ?k18 ?z_bool ?z_enumerate ?z_int ?z_isinstance ?z_len ?z_list ?z_max ?z_min ?z_range ?z_repr ?z_set ?z_sorted ?z_sum ?z_tuple ?z_zip ?g_MOST_CELLS
    (case a1 => k_is)
    (case l1 => k_is)
    (case c1 => k_is)
    (case k1 => k_is)
    (case a2 => k_is)
    (case l2 => k_is)
    (case c2 => k_is)
    (case k2 => k_is)
    (case a3 => k_is)
    (case l3 => k_is)
    (case c3 => k_is)
    (case k3 => k_is)
    (case a4 => k_is)
    (case l4 => k_is)
    (case c4 => k_is)
    (case k4 => k_is)
    (case a5 => k_is)
    (case l5 => k_is)
    (case c5 => k_is)
    (case k5 => k_is)
    (case a6 => k_is)
    (case l6 => k_is)
    (case c6 => k_is)
    (case k6 => k_is)
    (case a7 => k_is)
    (case l7 => k_is)
    (case c7 => k_is)
    (case k7 => k_is)
    (case a8 => k_is)
    (case l8 => k_is)
    (case c8 => k_is)
    (case k8 => k_is)
    (case a9 => k_is)
    (case l9 => k_is)
    (case c9 => k_is)
    (case k9 => k_is)
    (case a10 => k_is)
    (case l10 => k_is)
    (case c10 => k_is)
    (case k10 => k_is)
    (case a11 => k_is)
    (case l11 => k_is)
    (case c11 => k_is)
    (case k11 => k_is)
    (case a12 => k_is)
    (case l12 => k_is)
    (case c12 => k_is)
    (case k12 => k_is)
    (case a13 => k_is)
    (case l13 => k_is)
    (case c13 => k_is)
    (case k13 => k_is)
    (case a14 => k_is)
    (case l14 => k_is)
    (case c14 => k_is)
    (case k14 => k_is)
    (case a15 => k_is)
    (case l15 => k_is)
    (case c15 => k_is)
    (case k15 => k_is)
    (case a16 => k_is)
    (case l16 => k_is)
    (case c16 => k_is)
    (case k16 => k_is)
    (case a17 => k_is)
    (case l17 => k_is)
    (case c17 => k_is)
    (case k17 => k_is)
    (case a18 => k_is)
    (case l18 => k_is)
    (case c18 => k_is)
    (case k18 => k_is)
    (case z_bool => k_is)
    (case z_enumerate => k_is)
    (case z_int => k_is)
    (case z_isinstance => k_is)
    (case z_len => k_is)
    (case z_list => k_is)
    (case z_max => k_is)
    (case z_min => k_is)
    (case z_range => k_is)
    (case z_repr => k_is)
    (case z_set => k_is)
    (case z_sorted => k_is)
    (case z_sum => k_is)
    (case z_tuple => k_is)
    (case z_zip => k_is)
    (case g_MOST_CELLS => k_is)
