import PyProof.Rows.All
import Wide.All
import OpenK.AllK
import Wide.FinOn
import HandS.ForMost
import HandS.Style
import HandS.Deep
import HandS.IsInst
import HandS.SortInts
import HandS.SortRule
import HandS.TupSets
import HandS.Wide
import HandS.Conv
import HandS.TupLe
import HandS.RaiseMore
import HandS.Flow
import HandS.ExcValue
import HandS.ClsMeth
import HandS.SlotsOwn
import HandS.Property
import KE.KOpsOwn
import KE.KCallOwn
import PySem.Challenge.RW_unnoted_k20_arrangements
set_option Elab.async false
set_option autoImplicit false
set_option linter.all false
set_option maxRecDepth 100000
set_option maxHeartbeats 4000000
/-! Own prelude, part 0: promises of defs where no repr is under way (G), calls by them, the law's end by them -/
namespace UN
open PySem PySem.Spec PyProof.Rows L2

/-- a def's promise; asked only where the guards are known to be none (repr, str of data) -/
structure FG (P : Program) (w : World) (K : PySem.W.Frag) (mg : Str → Option Value) (base : Heap) (C : CXT) (k : Nat) (f : Addr) (fd : FuncData) (ps : List Str) (sp : Sp) : Prop where
  many : ∀ xs H Q E, sp xs H Q E → xs.length = ps.length
  go : ∀ (A : Around) (out : List Env) (s : Shared) (H : Hp) (args : Args) (us : List Value) (xs : List V) (Q : VK) (E : XK),
    Room k A → A.guards = some [] → Env0 P w K mg base A out s H → BindsTo s fd args (ps.zip us) → Vals xs us → sp xs H Q E →
    codeAny (model P w) A (.call (.ref f) args) (CR C out P w H s Q E) s

section
variable {P : Program} {w : World} {K : PySem.W.Frag} {mg : Str → Option Value} {base : Heap} {C : CXT} {k : Nat} {f : Addr} {fd : FuncData} {ps : List Str} {sp : Sp}
theorem FG.of (F : FnOk P w K mg base C k f fd ps sp) : FG P w K mg base C k f fd ps sp :=
  ⟨F.len, fun A out s H args us xs Q E hr _ e0 hb hv hs => F.run A out s H args us xs Q E hr e0 hb hv hs⟩
theorem FG.mono {j : Nat} (F : FG P w K mg base C j f fd ps sp) (h : j ≤ k) : FG P w K mg base C k f fd ps sp :=
  ⟨F.many, fun A out s H args us xs Q E hr => F.go A out s H args us xs Q E (hr.mono h)⟩

/-- by the def's body -/
theorem fg_body {name qual : Str} {params : Arguments} {body : List Stmt} {scope : Scope} {dV kV doc pm cdv ct oc : Value} {an od : Option Addr} {osl : Array (Option Value)} {N : List Str}
    (at_f : K.lookup f = some ⟨oc, od, .func (PySem.W.fnOf name qual params body scope dV kV doc pm an cdv ct), osl⟩) (code : PySem.W.codeIn K cdv qual = true) (S : FnScope N ps scope)
    (many : ∀ xs H Q E, sp xs H Q E → xs.length = ps.length)
    (bd : ∀ (A : Around) (out : List Env) (s : Shared) (H : Hp) (xs : List V) (Q : VK) (E : XK), Room k (A.deeper (envOfC qual scope s.heap.objs.size f cdv)) → A.guards = some [] → sp xs H Q E →
      ∃ t, PSs (cxOf C P w K mg base N qual scope f cdv A out s H E) body t ∧ t { nx := fun _ H' => Q .non H', rt := Q } (start N xs) H) :
    FG P w K mg base C (k + 1) f (PySem.W.fnOf name qual params body scope dV kV doc pm an cdv ct) ps sp := by
  constructor
  · exact many
  intro A out s H args us xs Q E room hg e0 hb rel hs
  have nl := many _ _ _ _ hs
  have kin : K.In s.heap := e0.mod.kin.keeps (fun b o q => (e0.bs b o q).1)
  have nolim : s.heap.NoLimit := e0.mod.nolimit.keeps (fun b o q => (e0.bs b o q).1)
  have kinds : ∀ y ∈ ps.zip us, scope.names.lookup y.1 = some .local ∨ (scope.names.lookup y.1 = some .cell ∧ ((cellsFrom (s.heap.objs.size + 1) scope.names []).lookup y.1).isSome = true) := by
    rintro ⟨n, v⟩ hy
    cases S.par n (List.of_mem_zip hy).1 with
    | inl q => exact Or.inl q
    | inr q => exact Or.inr ⟨q, PySem.W.cellsFrom_some _ _ _ (Or.inl q)⟩
  apply codeAny_call_function room.depth (kin _ _ at_f) rfl S.co S.gen rfl (PySem.W.codeRec_of kin code)
  apply hb
  apply wpAny_newFunctionEnv_cells S.kind kinds
  intro env he s1 x
  cases he
  refine And.intro (nolim.keeps x.toInCall.keep) (codeAny_func ?_)
  obtain ⟨t, pt, ht⟩ := bd A out s H xs Q E (room.deeper _) hg hs
  have J := inv_start (CX := C) (P := P) (w := w) (K := K) (mg := mg) (base := base) (f := f) (cd := cdv) (E := E) S room.hd e0 nl rel x
  apply wpAny_mono (pt.run [] s1 (start N xs) H _ J ht) ?_ (fun _ _ q => q)
  intro fl s' q
  cases fl with
  | next => obtain ⟨_, _, J', q'⟩ := q; exact ⟨V.non, _, J'.os, J'.bare, J'.base, J'.hok, rfl, q'⟩
  | ret u => obtain ⟨_, _, _, J', r', q'⟩ := q; exact ⟨_, _, J'.os, J'.bare, J'.base, J'.hok, r', q'⟩
  | brk => obtain ⟨_, _, _, z⟩ := q; exact z.elim
  | cont => obtain ⟨_, _, _, z⟩ := q; exact z.elim

/-- the same of a def of the text, nothing raised -/
theorem fg_fun {x qual : Str} {st : Stmt} {N : List Str} (F : Fun K x qual st f fd) (S : FnScope N ps (defScope st))
    (many : ∀ xs H Q E, sp xs H Q E → xs.length = ps.length)
    (bd : ∀ (cdv : Value) (A : Around) (out : List Env) (s : Shared) (H : Hp) (xs : List V) (Q : VK) (E : XK),
      Room k (A.deeper (envOfC qual (defScope st) s.heap.objs.size f cdv)) → A.guards = some [] → sp xs H Q E →
      ∃ t, PSs (cxOf CX0 P w K mg base N qual (defScope st) f cdv A out s H E).nox (defBody st) t ∧ t { nx := fun _ H' => Q .non H', rt := Q } (start N xs) H) :
    FG P w K mg base CX0 (k + 1) f fd ps sp := by
  obtain ⟨oc, od, kV, doc, pm, an, cdv, ct, osl, e, lk, hc⟩ := F.ex
  cases e
  refine fg_body lk hc S many ?_
  intro A out s H xs Q E hr hg hs
  obtain ⟨t, h, q⟩ := bd cdv A out s H xs Q E hr hg hs
  exact ⟨t, h.nox, q⟩
end

/-- a def that may be called by its name -/
structure CalG (P : Program) (w : World) (K : PySem.W.Frag) (mg : Str → Option Value) (base : Heap) (k : Nat) (x : Str) (st : Stmt) (ps : List Str) (sp : Sp) : Prop where
  ex : ∃ f fd, FG P w K mg base CX0 k f fd ps sp ∧ mg x = some (.ref f) ∧ Fun K x x st f fd
  bd : ∀ (kV doc pm : Value) (an : Option Addr) (cdv ct : Value) (us : List Value), us.length = ps.length →
    bindArgs (PySem.W.fnOf x x (defArgs st) (defBody st) (defScope st) .none kV doc pm an cdv ct) ⟨us, []⟩ = pure (ps.zip us)
/-- a call by keywords alone: g puts the keywords' values into the parameters' order -/
def KwOk (x : Str) (st : Stmt) (ps ks : List Str) (g : List Value → List Value) (gV : List V → List V) : Prop :=
  (∀ (kV doc pm : Value) (an : Option Addr) (cdv ct : Value) (ws : List Value), ws.length = ks.length →
    bindArgs (PySem.W.fnOf x x (defArgs st) (defBody st) (defScope st) .none kV doc pm an cdv ct) ⟨[], ks.zip ws⟩ = pure (ps.zip (g ws))) ∧
  ∀ {zs : List V} {ws : List Value}, Vals zs ws → Vals (gV zs) (g ws)

def tG (sp : Sp) (t : TA) : TE := fun σ H Q => t σ H fun vs H1 => sp vs H1 Q E0
def tGK (sp : Sp) (n : Nat) (gV : List V → List V) (t : TA) : TE := fun σ H Q => t σ H fun vs H1 => vs.length = n ∧ sp (gV vs) H1 Q E0

section
variable {X : Cx} {k j : Nat} {x : Str} {st : Stmt} {ps ks : List Str} {sp : Sp} {p pos : Pos} {e : Expr} {es : List Expr} {t : TA}
theorem fg_end {pins : List (Addr × Obj)} {σ : L2.St} {H : Hp} {s : Shared} {Q : VK} (J : Inv X pins σ H s) (r : Result) (s' : Shared) : CR CX0 X.stack X.prog X.w H s Q E0 r s' →
    (match r with | .ok (.ret u) => EP X pins σ Q u s' | .ok _ => False | .error e => X.xe e s') := by
  intro h
  cases r with
  | error _ => exact False.elim h
  | ok fl =>
    cases fl with
    | ret _ => exact J.after h
    | next => exact h
    | brk => exact h
    | cont => exact h
theorem pe_cG (c : CalG X.prog X.w X.K X.mg X.base k x st ps sp) (hr : Room j X.A) (hk : k ≤ j) (hg : X.A.guards = some []) (gl : Gl X x) (ha : PA X (e :: es) t)
    (hdb : (x == ("__debug__" : Str)) = false := by decide) (he : starEach (e :: es) X.env = (false, eval e X.env) :: starEach es X.env := by rfl) (hpl : (backTo pos (starEach es X.env)).any (·.1) = false := by rfl) :
    PE X (.Call (.Name x p) (e :: es) [] pos) (tG sp t) := by
  constructor
  intro pins s σ H Q J h
  obtain ⟨f, fd, F, hm, fn⟩ := c.ex
  apply wpAny_Call_Name_kw
  apply ld_glob J gl hm _ hdb
  refine PySem.W.callWith_K (h₀ := X.base) J.ok.mod.kin fn.kp (thn (ha.run pos pins s σ H _ J h) ?_) he hpl
  rintro us s1 ⟨vs, H1, J1, r1, q1⟩
  refine And.intro J1.kIn ?_
  have nl : us.length = ps.length := by rw [← r1.length]; exact F.many _ _ _ _ q1
  have hb : BindsTo s1 fd ⟨us, []⟩ (ps.zip us) := by
    obtain ⟨_, _, kV, doc, pm, an, cdv, ct, _, e, _, _⟩ := fn.ex
    cases e
    exact .of_eq (c.bd kV doc pm an cdv ct us nl)
  apply wpAny_call
  refine codeAny_mono (F.go X.A X.stack s1 H1 ⟨us, []⟩ us vs Q E0 (hr.mono hk) hg J1.env0 hb r1 q1) ?_
  exact fg_end J1
theorem pe_cG0 (c : CalG X.prog X.w X.K X.mg X.base k x st [] sp) (hr : Room j X.A) (hk : k ≤ j) (hg : X.A.guards = some []) (gl : Gl X x)
    (hdb : (x == ("__debug__" : Str)) = false := by decide) : PE X (.Call (.Name x p) [] [] pos) (tG sp tNil) := by
  constructor
  intro pins s σ H Q J h
  obtain ⟨f, fd, F, hm, fn⟩ := c.ex
  apply wpAny_Call_Name_kw
  apply ld_glob J gl hm _ hdb
  refine PySem.W.callWith_K0 J.kIn fn.kp ?_
  have hb : BindsTo s fd ⟨[], []⟩ (([] : List Str).zip []) := by
    obtain ⟨_, _, kV, doc, pm, an, cdv, ct, _, e, _, _⟩ := fn.ex
    cases e
    exact .of_eq (c.bd kV doc pm an cdv ct [] rfl)
  apply wpAny_call
  refine codeAny_mono (F.go X.A X.stack s H ⟨[], []⟩ [] [] Q E0 (hr.mono hk) hg J.env0 hb .nil h) ?_
  exact fg_end J
theorem pe_ckG {kws : List Keyword} {g : List Value → List Value} {gV : List V → List V} (c : CalG X.prog X.w X.K X.mg X.base k x st ps sp) (kb : KwOk x st ps ks g gV) (hr : Room j X.A) (hk : k ≤ j) (hg : X.A.guards = some []) (gl : Gl X x)
    (hkw : PK X kws t) (hall : (backToKw pos (keywordEach kws X.env)).all (·.1.isSome) = true := by rfl) (hks : (backToKw pos (keywordEach kws X.env)).filterMap (·.1) = ks := by rfl)
    (hdb : (x == ("__debug__" : Str)) = false := by decide) (hpl : ((backTo pos (starEach [] X.env)).any (·.1) || (backToKw pos (keywordEach kws X.env)).any (·.1.isNone)) = false := by rfl) :
    PE X (.Call (.Name x p) [] kws pos) (tGK sp ks.length gV t) := by
  constructor
  intro pins s σ H Q J h
  obtain ⟨f, fd, F, hm, fn⟩ := c.ex
  apply wpAny_Call_Name_kw
  apply ld_glob J gl hm _ hdb
  refine PySem.W.callWith_KW0 (h₀ := X.base) J.ok.mod.kin fn.kp hall (thn (hkw.run pos pins s σ H _ J h) ?_) hpl
  rintro ws s1 ⟨zs, H1, J1, r1, ln, q1⟩
  refine And.intro J1.kIn ?_
  rw [hks]
  have r2 := kb.2 r1
  have hb : BindsTo s1 fd ⟨[], ks.zip ws⟩ (ps.zip (g ws)) := by
    obtain ⟨_, _, kV, doc, pm, an, cdv, ct, _, e, _, _⟩ := fn.ex
    cases e
    exact .of_eq (kb.1 kV doc pm an cdv ct ws (by rw [← r1.length]; exact ln))
  apply wpAny_call
  refine codeAny_mono (F.go X.A X.stack s1 H1 ⟨[], ks.zip ws⟩ (g ws) (gV zs) Q E0 (hr.mono hk) hg J1.env0 hb r2 q1) ?_
  exact fg_end J1
end
end UN

namespace UN
open PySem PySem.Spec PyProof.Rows L2

/-! the law's end, by a promise that asks no guards -/
section
variable {P : Program} {w : World} {K : PySem.W.Frag} {mg mb : Str → Option Value} {C : CXT} {k : Nat} {fa a : Addr} {fd : FuncData} {x : Str} {sp : Sp} {s1 : Shared} {vs : List Value} {ns : List Int}
/-- from one abstract heap that holds nothing but (perhaps) the script -/
theorem end_core (kin : K.In s1.heap) (gl : s1.heap.Ns mainGlobals mg) (bl : s1.heap.Ns builtinsNs mb) (bb : ∀ y : Str, y ≠ "__name__" → mb y = bootBuiltins y) (nl : s1.heap.NoLimit) (ng : s1.gens = #[])
    (obj : s1.heap.get? a = some { cls := .type "list", data := .seq vs.toArray }) (room : Room k callerA)
    (F : ∀ base : Heap, K.In base → base.Ns mainGlobals mg → FG P w K mg base C k fa fd [x] sp) (bnd : ∀ (s : Shared) (u : Value), BindsTo s fd ⟨[u], []⟩ [(x, u)])
    (H : Hp) (only : Only H) (hok : HOk P w H s1.heap) (alone : ∀ b u, H b = some u → b = a ∧ K.lookup a = none)
    (ask : sp [.ref a] H (fun v _ => v = .bl true) fun _ _ _ => False) (noX : ∀ G e s', C [] G s1 (fun _ _ _ => False) e s' → False) :
    codeAny (model P w) callerA (.call (.ref fa) ⟨[.ref a], []⟩) (fun r s' => r = .ok (.ret (.bool true)) ∧ PySem.OldK s1.heap s'.heap ∧ s'.os = s1.os ∧ AllBare s'.gens) s1 := by
  have free : ∀ b, b ≠ a → H b = none := by
    intro b hb
    cases q : H b with
    | none => rfl
    | some u => exact absurd (alone b u q).1 hb
  have dict_ne : ∀ {b : Addr} {m : Str → Option Value}, s1.heap.Ns b m → b ≠ a := by
    rintro b m ⟨o, es, ep, e, d, _⟩ z
    rw [z, obj] at e
    cases e
    have d2 : Data.seq vs.toArray _ = Data.dict es ep := d
    cases d2
  have hide : ∀ {b : Addr} {m : Str → Option Value}, s1.heap.Ns b m → (hidT s1.heap H).Ns b m := by
    intro b m n
    have nb := free b (dict_ne n)
    obtain ⟨o, es, ep, e, r⟩ := n
    exact ⟨o, es, ep, hidT_get e nb, r⟩
  have kinH : K.In (hidT s1.heap H) := by
    intro b o e
    apply hidT_get (kin b o e)
    cases q : H b with
    | none => rfl
    | some u =>
      obtain ⟨z, z2⟩ := alone b u q
      rw [z, z2] at e
      cases e
  obtain ⟨ml, l1, l2⟩ := nl
  have M : Mod K mg (hidT s1.heap H) := { kin := kinH, glob := hide gl, blt := ⟨mb, hide bl, bb⟩, nolimit := ⟨ml, hide l1, l2⟩ }
  have E0' : Env0 P w K mg (hidT s1.heap H) callerA [] s1 H :=
    { frames := rfl, mod := M, bs := fun b o e => of_hidT e, bsz := Nat.le_of_eq (hidT_size _ _), funs := trivial, frf := fun b hb => absurd (show b ∈ ([] : List Addr) from hb) (by simp), hok := hok, bare := .of_eq ng }
  have run := (F _ kinH (hide gl)).go callerA [] s1 H ⟨[.ref a], []⟩ [.ref a] [.ref a] _ _ room rfl E0' (bnd s1 (.ref a)) (.cons rfl .nil) ask
  refine codeAny_mono run ?_
  intro r s' q
  cases r with
  | error e => exact (noX H e s' q).elim
  | ok fl =>
    cases fl with
    | next => exact False.elim q
    | brk => exact False.elim q
    | cont => exact False.elim q
    | ret u =>
      obtain ⟨v, G, os, bare, un, okG, rel, tr⟩ := q
      cases (show v = .bl true from tr)
      cases (show u = Value.bool true from rel)
      refine ⟨rfl, PySem.OldK.of_keep ?_, os, bare⟩
      intro b o e
      cases q : H b with
      | none => exact un.keep b o e q (fun z => absurd (show b ∈ ([] : List Addr) from z) (by simp)) (by simp)
      | some u =>
        cases only b with
        | inl z => rw [q] at z; cases z
        | inr z =>
          obtain ⟨ob, xs, z⟩ := z
          have e1 := (hok b _ z).1
          rw [e] at e1
          cases e1
          exact (okG b _ (un.frzs b _ _ z)).1
/-- the script alone -/
def scriptH (a : Addr) (vs : List Value) (ns : List Int) : Hp := fun b => if b = a then some (.frz { cls := .type "list", data := .seq vs.toArray } (.lst (ns.map V.int))) else none
theorem end_call (kin : K.In s1.heap) (gl : s1.heap.Ns mainGlobals mg) (bl : s1.heap.Ns builtinsNs mb) (bb : ∀ y : Str, y ≠ "__name__" → mb y = bootBuiltins y) (nl : s1.heap.NoLimit) (ng : s1.gens = #[])
    (obj : s1.heap.get? a = some { cls := .type "list", data := .seq vs.toArray }) (inx : IntsAre vs ns) (few : ns.length ≤ sizeLine) (room : Room k callerA)
    (F : ∀ base : Heap, K.In base → base.Ns mainGlobals mg → FG P w K mg base C k fa fd [x] sp) (bnd : ∀ (s : Shared) (u : Value), BindsTo s fd ⟨[u], []⟩ [(x, u)])
    (ask : ∀ H : Hp, Only H → SqL K H a (ns.map V.int) → sp [.ref a] H (fun v _ => v = .bl true) fun _ _ _ => False) (noX : ∀ G e s', C [] G s1 (fun _ _ _ => False) e s' → False) :
    codeAny (model P w) callerA (.call (.ref fa) ⟨[.ref a], []⟩) (fun r s' => r = .ok (.ret (.bool true)) ∧ PySem.OldK s1.heap s'.heap ∧ s'.os = s1.os ∧ AllBare s'.gens) s1 := by
  have rv := vals_ints inx
  have ln := inx.length
  cases q : K.lookup a with
  | some o =>
    have e := kin a o q
    rw [obj] at e
    cases e
    have on : Only (fun _ => none) := fun _ => .inl rfl
    refine end_core kin gl bl bb nl ng obj room F bnd (fun _ => none) on (fun b u z => nomatch z) (fun b u z => nomatch z) (ask _ on ?_) noX
    exact .inr ⟨_, vs.toArray, _, q, rfl, rfl, rfl, by rw [List.size_toArray, ln]; exact few, by simpa using rv⟩
  | none =>
    have at_a : scriptH a vs ns a = some (.frz { cls := .type "list", data := .seq vs.toArray } (.lst (ns.map V.int))) := if_pos rfl
    have other : ∀ b, b ≠ a → scriptH a vs ns b = none := fun b hb => if_neg hb
    have on : Only (scriptH a vs ns) := by
      intro b
      by_cases hb : b = a
      · rw [hb]; exact .inr ⟨_, _, at_a⟩
      · exact .inl (other b hb)
    refine end_core kin gl bl bb nl ng obj room F bnd (scriptH a vs ns) on ?_ ?_ (ask _ on (.inl (.inr ⟨_, at_a⟩))) noX
    · intro b u z
      by_cases hb : b = a
      · subst hb
        rw [at_a] at z
        cases z
        exact ⟨obj, by rw [List.length_map]; exact few, vs, _, rv, obj⟩
      · rw [other b hb] at z
        cases z
    · intro b u z
      by_cases hb : b = a
      · exact ⟨hb, q⟩
      · rw [other b hb] at z
        cases z
end

theorem walk_G {l : PySem.W.OpenLaw} {n k : Nat} {q : Program} {loose : List Str} {XP : (Str → Option Value) → Heap → Prop} {YP : World → Heap → Prop} {d : DefRec} {K : Params → PySem.W.Frag} {sp : World → Sp} {x : Str}
    (hn : l.most = some n) (hn2 : n ≤ sizeLine) (hdf : d.params.defaults = []) (hr : Room k callerA)
    (hY : ∀ (w : World) (h : Heap), YP w h → (K w.params).In h)
    (F : ∀ (w : World) (mg : Str → Option Value) (fa : Addr) (h : Heap), (K w.params).In h → h.Ns mainGlobals mg → mg d.name = some (.ref fa) →
      ∃ fd : FuncData, (∀ (s : Shared) (u : Value), BindsTo s fd ⟨[u], []⟩ [(x, u)]) ∧
        ∀ base : Heap, (K w.params).In base → base.Ns mainGlobals mg → FG l.prog w (K w.params) mg base CX0 k fa fd [x] (sp w))
    (hsp : ∀ (w : World) (H : Hp) (a : Addr) (ns : List Int), ns.length ≤ n → Only H → SqL (K w.params) H a (ns.map V.int) → sp w [.ref a] H (fun v _ => v = .bl true) fun _ _ _ => False) :
    PySem.W.WalkO q loose XP YP l.row.toRowW d [] (fun f vs => PySem.call f vs) := by
  apply Att.attach_call hn hdf
  intro w s0 s1 mg mb fa o pm cd doc a vs ns G Y ho hd hcd hmg hobj hints hlen hg
  have kin := hY w _ Y
  obtain ⟨fd, hb, hF⟩ := F w mg fa _ kin G.T.g hmg
  exact end_call kin G.T.g G.T.b G.T.builtins G.T.nolimit hg hobj hints (Nat.le_trans hlen hn2) hr hF hb (fun H hO hS => hsp w H a ns hlen hO hS) (fun _ _ _ z => z)
end UN

namespace UN
open PySem PySem.Spec PyProof.Rows L2

/-! rules that the layer lacks -/
section
variable {X : Cx}
/-- repr of data -/
def rRepr (K : PySem.W.Frag) : List V → Hp → VK → Prop := fun vs H Q => ∃ x d, vs = [x] ∧ Dp K H x d ∧ d.showable = true ∧ d.hasDict = false ∧ d.depth ≤ 60 ∧ d.shown.length ≤ sizeLine ∧ Q (.str d.shown) H
theorem call_reprD (hu : X.A.units + 64 < cLine) (hg : X.A.guards = some []) : CallR X (.builtin "repr") (rRepr X.K) := by
  intro pins s σ H vs us Q J r h
  obtain ⟨x, d, e, dp, sh, nd, dep, sz, q⟩ := h
  subst e
  obtain ⟨u, e, ru⟩ := vals1 r
  subst e
  obtain ⟨as, rd⟩ := Dp.reads J d x u dp ru
  cases dp with
  | non => cases ru; exact PySem.P.repr_of_none ⟨.str _, H, J.tok _, ⟨_, rfl⟩, q⟩
  | bl b => cases ru; cases b <;> exact PySem.P.repr_of_bool ⟨.str _, H, J.tok _, ⟨_, rfl⟩, q⟩
  | int i =>
    obtain ⟨t, rfl⟩ := ru
    exact PySem.P.repr_of_int (of_decide_eq_true sh) ⟨.str _, H, J.tok _, ⟨_, rfl⟩, q⟩
  | str z =>
    obtain ⟨t, rfl⟩ := ru
    exact PySem.P.repr_of_str ⟨.str _, H, J.tok _, ⟨_, rfl⟩, q⟩ sz
  | lst _ _ => cases ru; exact repr_of_reads' rd sh (PyData.noDict_hsm nd) hg (by omega) (fun _ _ z => z) (fun h2 u tk k => ⟨.str _, H, J.kept (t' := tk) k, ⟨_, rfl⟩, q⟩) sz
  | tup _ _ => cases ru; exact repr_of_reads' rd sh (PyData.noDict_hsm nd) hg (by omega) (fun _ _ z => z) (fun h2 u tk k => ⟨.str _, H, J.kept (t' := tk) k, ⟨_, rfl⟩, q⟩) sz

/-- powers of greater numbers -/
def CPowW (i j : Int) : Prop := 0 < j ∧ j ≤ 1000 ∧ 1 < i ∧ i.natAbs.log2 < 100000
theorem op_powW : OpR X (binaryOp .Pow) (rI CPowW fun i j => .int (i ^ j.toNat)) := opI fun i j t u s Q E hc q => by
  obtain ⟨h1, h2, h3, h4⟩ := hc
  refine AutoIntOps.pow_4 (by omega) (by simp; omega) (by simp; omega) (by simp; omega) ?_ q
  unfold Builtin.Int.intTooBig
  have hb : Builtin.Int.intBits i ≤ i.natAbs.log2 + 1 := by
    unfold Builtin.Int.intBits
    split <;> omega
  have e : bitsLine = 134217728 := by decide
  have m : ((Builtin.Int.intBits i : Nat) : Int) * j ≤ 100000 * 1000 := by
    have a : ((Builtin.Int.intBits i : Nat) : Int) ≤ 100000 := by omega
    exact Int.mul_le_mul a h2 (by omega) (by omega)
  rw [e]
  simp
  omega

/-- xs += ys -/
theorem ip_ext : PIp X .Add rExt2 := fun pins s σ H x y v u Q J r1 r2 h => iop_ext pins s σ H x y v u Q J r1 r2 h

/-- a < b < c < d -/
def tChain3 (r r' r'' : R2) (ta tb tc td : TE) : TE := fun σ H Q => ta σ H fun x H1 => tb σ H1 fun y H2 => r x y H2 fun z H3 => ∃ k, z = .bl k ∧
  (if k = true then tc σ H3 fun w H4 => r' y w H4 fun z2 H5 => ∃ k2, z2 = .bl k2 ∧ (if k2 = true then td σ H5 fun v H6 => r'' w v H6 Q else Q (.bl false) H5) else Q (.bl false) H3)
variable {a b c d : Expr} {ta tb tc td : TE} {pos : Pos}
theorem pe_chain3 {o1 o2 o3 : CmpOp} {r r' r'' : R2} (h1 : OpR X (compareOp o1) r) (h2 : OpR X (compareOp o2) r') (h3 : OpR X (compareOp o3) r'') (ha : PE X a ta) (hb : PE X b tb) (hc : PE X c tc) (hd : PE X d td)
    (hm : lastMarks [o1, o2, o3] [b, c, d] = false := by with_unfolding_all rfl) : PE X (.Compare a [o1, o2, o3] [b, c, d] pos) (tChain3 r r' r'' ta tb tc td) := by
  constructor
  intro pins s σ H Q J h
  refine Compare_chain (thn (ha.run pins s σ H _ J h) ?_) hm
  rintro v s1 ⟨x, H1, J1, r1, q1⟩
  refine chain_link (thn (hb.run pins s1 σ H1 _ J1 q1) ?_)
  rintro u s2 ⟨y, H2, J2, r2, q2⟩
  refine thn (h1 pins s2 σ H2 x y v u _ J2 r1 r2 q2) ?_
  rintro d1 s3 ⟨z, H3, J3, r3, k, e, q3⟩
  subst e
  cases r3
  refine wpAny_truthy_bool ?_
  cases k with
  | false => exact ite_ff ⟨.bl false, H3, J3, rfl, q3⟩
  | true =>
    refine ite_tt (chain_link (thn (hc.run pins s3 σ H3 _ J3 q3) ?_))
    rintro w s4 ⟨y2, H4, J4, r4, q4⟩
    refine thn (h2 pins s4 σ H4 y y2 u w _ J4 r2 r4 q4) ?_
    rintro d2 s5 ⟨z2, H5, J5, r5, k2, e2, q5⟩
    subst e2
    cases r5
    refine wpAny_truthy_bool ?_
    cases k2 with
    | false => exact ite_ff ⟨.bl false, H5, J5, rfl, q5⟩
    | true =>
      refine ite_tt (chain_last (thn (hd.run pins s5 σ H5 _ J5 q5) ?_))
      rintro w3 s6 ⟨y3, H6, J6, r6, q6⟩
      exact h3 pins s6 σ H6 y2 y3 w w3 Q J6 r4 r6 q6
end
end UN

namespace UN
open PySem PySem.Spec PyProof.Rows L2

/-! what a def owns: H is H0 with the new objects of L -/
abbrev Led := List (Addr × HO)
structure Loc (H0 H : Hp) (L : Led) : Prop where
  same : Same H0 H
  here : ∀ p ∈ L, H p.1 = some p.2
  new : ∀ p ∈ L, H0 p.1 = none
  nd : (L.map Prod.fst).Nodup
section
variable {H0 H H1 : Hp} {L M A B : Led} {a p : Addr} {o o' : HO}
theorem Loc.refl (H : Hp) : Loc H H [] := ⟨Same.refl H, (fun _ z => nomatch z), (fun _ z => nomatch z), List.Pairwise.nil⟩
theorem Loc.of (h : Same H0 H) : Loc H0 H [] := ⟨h, (fun _ z => nomatch z), (fun _ z => nomatch z), List.Pairwise.nil⟩
theorem Loc.ne (l : Loc H0 H L) (hp : H p = none) : ∀ q ∈ L, q.1 ≠ p := fun q hq => ne_of_none (l.here q hq) hp
theorem Loc.alloc (l : Loc H0 H L) (hp : H p = none) : Loc H0 (upd H p o) ((p, o) :: L) := by
  have n0 : H0 p = none := l.same.free hp
  refine ⟨fun b u e => ?_, ?_, ?_, ?_⟩
  · rw [upd_ne (ne_of_none e n0)]; exact l.same b u e
  · intro q hq
    rcases List.mem_cons.mp hq with rfl | hq
    · exact upd_same
    · rw [upd_ne (l.ne hp q hq)]; exact l.here q hq
  · intro q hq
    rcases List.mem_cons.mp hq with rfl | hq
    · exact n0
    · exact l.new q hq
  · refine List.nodup_cons.mpr ⟨fun z => ?_, l.nd⟩
    obtain ⟨q, hq, e⟩ := List.mem_map.mp z
    exact l.ne hp q hq e
theorem Loc.setIx (l : Loc H0 H L) {i : Nat} (h : L[i]? = some (a, o)) : Loc H0 (upd H a o') (L.set i (a, o')) := by
  have mem : (a, o) ∈ L := List.mem_of_getElem? h
  have n0 : H0 a = none := l.new _ mem
  obtain ⟨hi, e⟩ := List.getElem?_eq_some_iff.mp h
  have fst : (L.set i (a, o')).map Prod.fst = L.map Prod.fst := by
    rw [List.map_set]
    refine List.ext_getElem? fun j => ?_
    rw [List.getElem?_set]
    by_cases hj : i = j
    · subst hj
      rw [if_pos rfl, List.getElem?_map, h, if_pos (by rw [List.length_map]; exact hi)]
      rfl
    · rw [if_neg hj]
  refine ⟨fun b u q => ?_, ?_, ?_, ?_⟩
  · rw [upd_ne (ne_of_none q n0)]; exact l.same b u q
  · intro q hq
    obtain ⟨j, hj⟩ := List.getElem?_of_mem hq
    rw [List.getElem?_set] at hj
    by_cases e1 : i = j
    · subst e1
      rw [if_pos rfl, if_pos hi] at hj
      cases hj
      exact upd_same
    · rw [if_neg e1] at hj
      have mq : q ∈ L := List.mem_of_getElem? hj
      have ne : q.1 ≠ a := by
        intro z
        have j1 : (L.map Prod.fst)[i]? = some a := by rw [List.getElem?_map, h]; rfl
        have j2 : (L.map Prod.fst)[j]? = some a := by rw [List.getElem?_map, hj, ← z]; rfl
        exact e1 (nd_ix l.nd j1 j2)
      rw [upd_ne ne]
      exact l.here q mq
  · intro q hq
    have z : q.1 ∈ (L.set i (a, o')).map Prod.fst := List.mem_map.mpr ⟨q, hq, rfl⟩
    rw [fst] at z
    obtain ⟨r, hr, e2⟩ := List.mem_map.mp z
    rw [← e2]
    exact l.new r hr
  · rw [fst]; exact l.nd
theorem Loc.call (l : Loc H0 H L) (m : Loc H H1 M) : Loc H0 H1 (M ++ L) := by
  refine ⟨l.same.trans m.same, ?_, ?_, ?_⟩
  · intro q hq
    rcases List.mem_append.mp hq with hq | hq
    · exact m.here q hq
    · exact m.same _ _ (l.here q hq)
  · intro q hq
    rcases List.mem_append.mp hq with hq | hq
    · exact l.same.free (m.new q hq)
    · exact l.new q hq
  · rw [List.map_append, List.nodup_append]
    refine ⟨m.nd, l.nd, fun x hx y hy e => ?_⟩
    obtain ⟨q, hq, rfl⟩ := List.mem_map.mp hx
    obtain ⟨r, hr, rfl⟩ := List.mem_map.mp hy
    have e1 := m.new q hq
    rw [e, l.here r hr] at e1
    cases e1
theorem Loc.ext (l : Loc H0 H L) (s : Same H H1) : Loc H0 H1 L := l.call (Loc.of s)
theorem Loc.keep (l : Loc H0 H L) (s : M.Sublist L) : Loc H0 H M :=
  ⟨l.same, fun q hq => l.here q (s.subset hq), fun q hq => l.new q (s.subset hq), l.nd.sublist (s.map _)⟩
theorem Loc.perm (l : Loc H0 H L) (s : M.Perm L) : Loc H0 H M :=
  ⟨l.same, fun q hq => l.here q (s.mem_iff.mp hq), fun q hq => l.new q (s.mem_iff.mp hq), (s.map Prod.fst).nodup_iff.mpr l.nd⟩
theorem Loc.drop1 (l : Loc H0 H ((a, o) :: L)) : Loc H0 H L := l.keep (List.sublist_cons_self _ _)
theorem Loc.put0 (l : Loc H0 H ((a, o) :: L)) : Loc H0 (upd H a o') ((a, o') :: L) := l.setIx (i := 0) rfl
theorem Loc.at0 (l : Loc H0 H ((a, o) :: L)) : H a = some o := l.here _ List.mem_cons_self
theorem Loc.atIx (l : Loc H0 H L) {i : Nat} (h : L[i]? = some (a, o)) : H a = some o := l.here _ (List.mem_of_getElem? h)
/-- the base itself is written at a place that is none of ours -/
theorem Loc.bump (l : Loc (upd H0 a o) H L) : Loc (upd H0 a o') (upd H a o') L := by
  have ne : ∀ q ∈ L, q.1 ≠ a := fun q hq z => by
    have e := l.new q hq
    rw [z, upd_same] at e
    cases e
  refine ⟨fun b u e => ?_, fun q hq => ?_, fun q hq => ?_, l.nd⟩
  · by_cases hb : b = a
    · subst hb; rw [upd_same] at e ⊢; exact e
    · rw [upd_ne hb] at e ⊢
      exact l.same b u (by rw [upd_ne hb]; exact e)
  · rw [upd_ne (ne q hq)]; exact l.here q hq
  · have e := l.new q hq
    rw [upd_ne (ne q hq)] at e ⊢
    exact e
theorem Loc.start (h : H a = some o) : Loc (upd H a o) H [] := by
  have e : upd H a o = H := by
    funext b
    by_cases hb : b = a
    · subst hb; rw [upd_same, h]
    · rw [upd_ne hb]
  rw [e]
  exact Loc.refl H
theorem Loc.own (l : Loc (upd H0 a o) H L) : H a = some o := l.same _ _ upd_same
end

/-! reading: what stays where all that was tracked stays -/
section
variable {K : PySem.W.Frag} {H H1 : Hp} {a : Addr} {xs : List V}
theorem Same.sqT (s : Same H H1) (h : SqT K H a xs) : SqT K H1 a xs := by
  rcases h with (h | ⟨o, h⟩) | h
  · exact .inl (.inl (s _ _ h))
  · exact .inl (.inr ⟨o, s _ _ h⟩)
  · exact .inr h
mutual
theorem Dp.grow (s : Same H H1) : ∀ (d : PyData) (v : V), Dp K H v d → Dp K H1 v d
  | .none, _, h => by cases h; exact .non
  | .bool _, _, h => by cases h; exact .bl _
  | .int _, _, h => by cases h; exact .int _
  | .str _, _, h => by cases h; exact .str _
  | .list ds, _, h => by
    cases h with
    | lst hs ha => exact .lst (s.seq hs) (DpAll.grow s ds _ ha)
  | .tuple ds, _, h => by
    cases h with
    | tup hs ha => exact .tup (Same.sqT s hs) (DpAll.grow s ds _ ha)
  | .dict _, _, h => nomatch h
theorem DpAll.grow (s : Same H H1) : ∀ (ds : List PyData) (vs : List V), DpAll K H vs ds → DpAll K H1 vs ds
  | [], _, h => by cases h; exact .nil
  | d :: ds, _, h => by
    cases h with
    | cons h1 h2 => exact .cons (Dp.grow s d _ h1) (DpAll.grow s ds _ h2)
end
end

/-! lists of lists, of pairs -/
def refs {α : Type} (rs : List (Addr × α)) : List V := rs.map fun p => .ref p.1
def iv (ns : List Int) : List V := ns.map V.int
def rowL (rs : List (Addr × List Int)) : Led := rs.map fun p => (p.1, .lst (iv p.2))
def pairL (rs : List (Addr × Int × Int)) : Led := rs.map fun p => (p.1, .tup [.int p.2.1, .int p.2.2])
def vals {α : Type} (rs : List (Addr × α)) : List α := rs.map Prod.snd
section
variable {K : PySem.W.Frag} {H H1 : Hp} {a : Addr}
def IsInts (K : PySem.W.Frag) (H : Hp) (a : Addr) (ns : List Int) : Prop := SqL K H a (iv ns)
def IsRows (K : PySem.W.Frag) (H : Hp) (a : Addr) (rows : List (List Int)) : Prop := ∃ rs : List (Addr × List Int), vals rs = rows ∧ SqL K H a (refs rs) ∧ ∀ r ∈ rs, SqL K H r.1 (iv r.2)
def IsPairs (K : PySem.W.Frag) (H : Hp) (a : Addr) (ps : List (Int × Int)) : Prop := ∃ ts : List (Addr × Int × Int), vals ts = ps ∧ SqL K H a (refs ts) ∧ ∀ t ∈ ts, SqT K H t.1 [.int t.2.1, .int t.2.2]
theorem IsInts.grow {ns : List Int} (s : Same H H1) (h : IsInts K H a ns) : IsInts K H1 a ns := s.seq h
theorem IsRows.grow {rows : List (List Int)} (s : Same H H1) (h : IsRows K H a rows) : IsRows K H1 a rows := by
  obtain ⟨rs, e, h1, h2⟩ := h
  exact ⟨rs, e, s.seq h1, fun r hr => s.seq (h2 r hr)⟩
theorem IsPairs.grow {ps : List (Int × Int)} (s : Same H H1) (h : IsPairs K H a ps) : IsPairs K H1 a ps := by
  obtain ⟨rs, e, h1, h2⟩ := h
  exact ⟨rs, e, s.seq h1, fun r hr => Same.sqT s (h2 r hr)⟩
theorem refs_set {α : Type} {rs : List (Addr × α)} {i : Nat} {x y : α} (h : rs[i]? = some (a, x)) : refs (rs.set i (a, y)) = refs rs := by
  unfold refs
  rw [List.map_set]
  refine List.ext_getElem? fun j => ?_
  rw [List.getElem?_set]
  by_cases hj : i = j
  · subst hj
    rw [if_pos rfl, List.getElem?_map, h, if_pos (by rw [List.length_map]; exact (List.getElem?_eq_some_iff.mp h).1)]
    rfl
  · rw [if_neg hj]
theorem rowL_set (rs : List (Addr × List Int)) (i : Nat) (r : List Int) : rowL (rs.set i (a, r)) = (rowL rs).set i (a, .lst (iv r)) := by
  unfold rowL
  rw [List.map_set]
theorem vals_set {α : Type} (rs : List (Addr × α)) (i : Nat) (r : α) : vals (rs.set i (a, r)) = (vals rs).set i r := by
  unfold vals
  rw [List.map_set]
theorem vals_get {α : Type} {rs : List (Addr × α)} {i : Nat} {r : α} (h : (vals rs)[i]? = some r) : ∃ a, rs[i]? = some (a, r) := by
  unfold vals at h
  rw [List.getElem?_map] at h
  cases e : rs[i]? with
  | none => rw [e] at h; cases h
  | some q => obtain ⟨b, s⟩ := q; rw [e] at h; cases h; exact ⟨b, rfl⟩
theorem refs_get {α : Type} {rs : List (Addr × α)} {i : Nat} {r : α} (h : rs[i]? = some (a, r)) : (refs rs)[i]? = some (.ref a) := by
  unfold refs
  rw [List.getElem?_map, h]
  rfl
theorem rowL_get {rs : List (Addr × List Int)} {i : Nat} {r : List Int} (h : rs[i]? = some (a, r)) : (rowL rs)[i]? = some (a, .lst (iv r)) := by
  unfold rowL
  rw [List.getElem?_map, h]
  rfl
theorem refs_len {α : Type} (rs : List (Addr × α)) : (refs rs).length = rs.length := List.length_map _
theorem vals_len {α : Type} (rs : List (Addr × α)) : (vals rs).length = rs.length := List.length_map _
theorem iv_len (ns : List Int) : (iv ns).length = ns.length := List.length_map _
theorem iv_get {ns : List Int} {i : Nat} {n : Int} (h : ns[i]? = some n) : (iv ns)[i]? = some (.int n) := by
  unfold iv
  rw [List.getElem?_map, h]
  rfl
theorem iv_snoc (ns : List Int) (n : Int) : iv (ns ++ [n]) = iv ns ++ [.int n] := List.map_append ..
theorem refs_snoc {α : Type} (rs : List (Addr × α)) (q : Addr × α) : refs (rs ++ [q]) = refs rs ++ [.ref q.1] := List.map_append ..
end

/-! sorting whole numbers -/
def srt (l : List Int) : List Int := l.mergeSort (fun a b => decide (a ≤ b))
theorem srt_perm (l : List Int) : (srt l).Perm l := List.mergeSort_perm ..
theorem srt_asc (l : List Int) : (srt l).Pairwise (· ≤ ·) := by
  have h := List.pairwise_mergeSort (le := fun a b : Int => decide (a ≤ b)) (fun a b c h1 h2 => by simp at *; omega) (fun a b => by simp; omega) l
  exact h.imp fun h => of_decide_eq_true h
theorem asc_unique : ∀ {l m : List Int}, l.Perm m → l.Pairwise (· ≤ ·) → m.Pairwise (· ≤ ·) → l = m
  | [], m, p, _, _ => p.nil_eq
  | x :: l, [], p, _, _ => by have := p.length_eq; simp at this
  | x :: l, y :: m, p, h1, h2 => by
    have h1' := List.pairwise_cons.mp h1
    have h2' := List.pairwise_cons.mp h2
    have e : x = y := by
      have a : x ∈ y :: m := p.subset List.mem_cons_self
      have b : y ∈ x :: l := p.symm.subset List.mem_cons_self
      rcases List.mem_cons.mp a with a | a
      · exact a
      · rcases List.mem_cons.mp b with b | b
        · exact b.symm
        · have := h2'.1 x a
          have := h1'.1 y b
          omega
    subst e
    rw [asc_unique (List.Perm.cons_inv p) h1'.2 h2'.2]
theorem srt_of {l m : List Int} (p : m.Perm l) (h : m.Pairwise (· ≤ ·)) : m = srt l := asc_unique (p.trans (srt_perm l).symm) h (srt_asc l)
end UN
namespace UN
open PySem PySem.Spec PyProof.Rows L2
section
variable {H0 H : Hp} {L : Led} {x y : Addr × HO} {t r : Addr} {o : HO}
theorem Loc.rot (l : Loc H0 H (x :: y :: L)) : Loc H0 H (y :: (L ++ [x])) :=
  l.perm ((List.Perm.cons y (List.perm_append_singleton x L)).trans (List.Perm.swap x y L))
theorem refs_inv {α : Type} {ts : List (Addr × α)} {i : Nat} {x : V} (h : (refs ts)[i]? = some x) : ∃ q, ts[i]? = some q ∧ x = .ref q.1 := by
  unfold refs at h
  rw [List.getElem?_map] at h
  cases e : ts[i]? with
  | none => rw [e] at h; cases h
  | some q => rw [e] at h; cases h; exact ⟨q, rfl, rfl⟩
theorem iv_inv {ns : List Int} {i : Nat} {x : V} (h : (iv ns)[i]? = some x) : ∃ n, ns[i]? = some n ∧ x = .int n := by
  unfold iv at h
  rw [List.getElem?_map] at h
  cases e : ns[i]? with
  | none => rw [e] at h; cases h
  | some q => rw [e] at h; cases h; exact ⟨q, rfl, rfl⟩
/-- a row of a new list of new rows grows -/
theorem Loc.rowGrow {rs : List (Addr × List Int)} {k : Nat} {row : List Int} {z : Int} (l : Loc H0 H ((t, .lst (refs rs)) :: rowL rs)) (h : rs[k]? = some (r, row)) :
    Loc H0 (upd H r (.lst (iv row ++ [.int z]))) ((t, .lst (refs (rs.set k (r, row ++ [z])))) :: rowL (rs.set k (r, row ++ [z]))) := by
  have l2 := l.setIx (i := k + 1) (a := r) (o := .lst (iv row)) (o' := .lst (iv row ++ [.int z])) (by rw [List.getElem?_cons_succ]; exact rowL_get h)
  rw [List.set_cons_succ, ← iv_snoc, ← rowL_set] at l2
  rw [refs_set h, ← iv_snoc]
  exact l2
/-- one more new row at the end of a new list of new rows -/
theorem Loc.rowNew {rs : List (Addr × List Int)} {row : List Int} (l : Loc H0 H ((t, .lst (refs rs)) :: rowL rs)) (hr : H r = none) :
    Loc H0 (upd (upd H r (.lst (iv row))) t (.lst (refs rs ++ [.ref r]))) ((t, .lst (refs (rs ++ [(r, row)]))) :: rowL (rs ++ [(r, row)])) := by
  have l2 := ((l.alloc (o := .lst (iv row)) hr).setIx (i := 1) (o' := .lst (refs rs ++ [.ref r])) rfl).rot
  rw [refs_snoc]
  have e : rowL (rs ++ [(r, row)]) = rowL rs ++ [(r, .lst (iv row))] := List.map_append ..
  rw [e]
  exact l2
/-- .. where the row was made by a call -/
theorem Loc.rowAdd {H1 : Hp} {rs : List (Addr × List Int)} {row : List Int} (l : Loc H0 H ((t, .lst (refs rs)) :: rowL rs)) (m : Loc H H1 [(r, .lst (iv row))]) :
    Loc H0 (upd H1 t (.lst (refs rs ++ [.ref r]))) ((t, .lst (refs (rs ++ [(r, row)]))) :: rowL (rs ++ [(r, row)])) := by
  have l2 := ((l.call m).setIx (i := 1) (o' := .lst (refs rs ++ [.ref r])) rfl).rot
  rw [refs_snoc]
  have e : rowL (rs ++ [(r, row)]) = rowL rs ++ [(r, .lst (iv row))] := List.map_append ..
  rw [e]
  exact l2
theorem Loc.isRows {K : PySem.W.Frag} {rs : List (Addr × List Int)} (l : Loc H0 H ((t, .lst (refs rs)) :: rowL rs)) : IsRows K H t (vals rs) :=
  ⟨rs, rfl, SqL.of l.at0, fun q hq => SqL.of (l.here (q.1, .lst (iv q.2)) (List.mem_cons_of_mem _ (List.mem_map.mpr ⟨q, hq, rfl⟩)))⟩
theorem sl_line {n : Nat} (h : n ≤ 100000) : n ≤ sizeLine := Nat.le_trans h (by decide)
theorem sl_line' {n : Nat} (h : n < 100000) : n < sizeLine := Nat.lt_of_lt_of_le h (by decide)
end
end UN

namespace UN
open PySem PySem.Spec PyProof.Rows L2

/-! the layer's rules with the written part told (within a comprehension's block it is the def's) -/
section
variable {X : Cx} (K : PySem.W.Frag) (hK : X.K = K)
include hK
theorem ix_listK : IxR X (rIxL K) := hK ▸ ix_list
theorem ix_tupK : IxR X (rIxT K) := hK ▸ ix_tup
theorem sl_listK : SlR X (rSlL K) := hK ▸ sl_list
theorem op_in_seqK : OpR X (compareOp .In) (rIn K false) := hK ▸ op_in_seq
theorem op_notIn_seqK : OpR X (compareOp .NotIn) (rIn K true) := hK ▸ op_notIn_seq
theorem op_eqDK (hu : X.A.units + 64 < cLine) : OpR X (compareOp .Eq) (rEqD K) := hK ▸ op_eqD hu
theorem op_neDK (hu : X.A.units + 64 < cLine) : OpR X (compareOp .NotEq) (rNeD K) := hK ▸ op_neD hu
theorem op_inDK (hu : X.A.units + 65 < cLine) : OpR X (compareOp .In) (rInD K) := hK ▸ op_inD hu
theorem op_notInDK (hu : X.A.units + 65 < cLine) : OpR X (compareOp .NotIn) (rNotInD K) := hK ▸ op_notInD hu
theorem op_ltTK (hu : X.A.units < cLine) : OpR X (compareOp .Lt) (rLtT K) := hK ▸ op_ltT hu
theorem op_leTK (hu : X.A.units < cLine) : OpR X (compareOp .LtE) (rLeT K) := hK ▸ op_leT hu
theorem op_catTK : OpR X (binaryOp .Add) (rCatT K) := hK ▸ op_catT
def rLenS (K : PySem.W.Frag) : List V → Hp → VK → Prop := fun xs H Q => ∃ p ys, xs = [.ref p] ∧ (SqL K H p ys ∨ SqT K H p ys) ∧ Q (.int ys.length) H
theorem call_len_seqK : CallR X (.builtin "len") (rLenS K) := hK ▸ call_len_seq
def rListOf (K : PySem.W.Frag) : List V → Hp → VK → Prop := fun xs H Q => ∃ p ys, xs = [.ref p] ∧ (SqL K H p ys ∨ SqT K H p ys) ∧ ∀ l, H l = none → Q (.ref l) (upd H l (.lst ys))
theorem call_list_ofK : CallR X (.type "list") (rListOf K) := hK ▸ call_list_of
theorem cr_sumK (hc : X.calm = true) : CallR X (.builtin "sum") (rSum K) := hK ▸ cr_sum hc
theorem cr_maxK (hc : X.calm = true) : CallR X (.builtin "max") (rMax K) := hK ▸ cr_max hc
theorem cr_minK (hc : X.calm = true) : CallR X (.builtin "min") (rMin K) := hK ▸ cr_min hc
theorem cr_anyK (hc : X.calm = true) : CallR X (.builtin "any") (rAny K) := hK ▸ cr_any hc
theorem cr_allK (hc : X.calm = true) : CallR X (.builtin "all") (rAll K) := hK ▸ cr_all hc
theorem cr_sortedIK : CallR X (.builtin "sorted") (rSortedI K) := hK ▸ cr_sortedI
theorem cr_sortedPOK : CallR X (.builtin "sorted") (rSortedPO K) := hK ▸ cr_sortedPO
theorem call_isiK2 : CallR X (.builtin "isinstance") (rIsi K) := hK ▸ call_isi
theorem call_reprDK (hu : X.A.units + 64 < cLine) (hg : X.A.guards = some []) : CallR X (.builtin "repr") (rRepr K) := hK ▸ call_reprD hu hg
theorem pi_listK {tg l : Expr} {tl : TE} (hl : PE X l tl) : PI X tg l (iList K tl) := hK ▸ pi_list hl
theorem pi_tupK {tg l : Expr} {tl : TE} (hl : PE X l tl) : PI X tg l (iTup K tl) := hK ▸ pi_tup hl
theorem pi_enumK {e : Expr} {ta : TA} {p pos tpos : Pos} {elts : List Expr} {kk : Nat} (hg : Gl X "enumerate") (hm : X.mg "enumerate" = none) (ha : PA X [e] ta) (hs : starEach [e] X.env = [(false, eval e X.env)] := by rfl) :
    PI X (.Tuple elts kk tpos) (.Call (.Name "enumerate" p) [e] [] pos) (iEnum K ta) := hK ▸ pi_enum hg hm ha hs
theorem pg_tupK {es : List Expr} {k : Nat} {t : TGs} {n : Nat} {pos : Pos} (hc : X.calm = true) (h : PGs X es t)
    (hn : (assignEach es X.env).length = n := by rfl) (hst : (assignEach es X.env).findIdx? (·.1) = none := by rfl) : PG X (.Tuple es k pos) (gTup K n t) := hK ▸ pg_tup hc h hn hst
theorem pe_revLK {e : Expr} {te : TE} {k : Nat} {p1 p2 p3 pos : Pos} (he : PE X e te) : PE X (.Subscript e (.Slice none none (some (.UnaryOp .USub (.Constant (.int 1) k p1) p2)) p3) pos) (tRevL K te) := hK ▸ pe_revL he
def tTruK (K : PySem.W.Frag) (ta : TE) : TT := fun σ H Q => ta σ H fun x H' => ∃ k, TruV K x H' k ∧ Q k H'
theorem pt_truthK {a : Expr} {ta : TE} (ha : PE X a ta) (he : ∀ whole, isTrue a X.env whole = (do let v ← whole; standAt a.pos; holding [v] (truthy v))) : PT X a (tTruK K ta) := hK ▸ pt_truth ha he
theorem mt_indexK : MtR X "list.index" (rIndex K) := hK ▸ mt_index
theorem mt_lcountK : MtR X "list.count" (fun x xs H Q => ∃ (p : Addr) (ns : List Int) (k : Int), x = .ref p ∧ xs = [.int k] ∧ SqL K H p (ns.map V.int) ∧ Q (.int (ns.count k : Nat)) H) := by
  cases hK
  exact mt_lcount
variable {T : String} {name : Str} {id : String} {r : V → List V → Hp → VK → Prop} {o e : Expr} {es : List Expr} {to : TE} {t : TA} {apos cpos : Pos}
theorem pe_bm0K (pa : PlainAttrs T) (slot : Slot T name id) (hty : typeOf (.builtin id) = pure (.type "method_descriptor")) (hm : MtR X id r) (ho : PE X o to)
    (hbase : attributeBase o name X.env (eval o X.env) = eval o X.env := by rfl) (hline : (apos.endLine == cpos.line) = true := by rfl) : PE X (.Call (.Attribute o name apos) [] [] cpos) (tBM0 K T r to) :=
  hK ▸ pe_bm0 pa slot hty hm ho hbase hline
theorem pe_bmK (pa : PlainAttrs T) (slot : Slot T name id) (hty : typeOf (.builtin id) = pure (.type "method_descriptor")) (hm : MtR X id r) (ho : PE X o to) (ha : PA X (e :: es) t)
    (h1 : attributeBase o name X.env (eval o X.env) = eval o X.env := by rfl)
    (h2 : ((backTo cpos (starEach (e :: es) X.env)).all (fun x => !x.1) && (backToKw cpos (keywordEach [] X.env)).all (fun x => x.1.isSome) && decide ((e :: es).length + ([] : List Keyword).length + (if ([] : List Keyword).isEmpty then 0 else 1) < 30)) = true := by rfl)
    (h3 : (apos.endLine == cpos.line) = true := by rfl) (h4 : starEach (e :: es) X.env = (false, eval e X.env) :: starEach es X.env := by rfl) (h5 : (backTo cpos (starEach es X.env)).any (·.1) = false := by rfl) :
    PE X (.Call (.Attribute o name apos) (e :: es) [] cpos) (tBM K T r to t) := hK ▸ pe_bm pa slot hty hm ho ha h1 h2 h3 h4 h5
end
section
variable {X : Cx} (P : Program) (w : World) (K : PySem.W.Frag)
theorem cr_setOfTK (hP : X.prog = P) (hw : X.w = w) (hK : X.K = K) (hc : X.calm = true) (hu : X.A.units + 64 < cLine) : CallR X (.type "set") (rSetOfT K P w) := by
  cases hP; cases hw; cases hK
  exact cr_setOfT hc hu
theorem cr_sortedTK (hP : X.prog = P) (hw : X.w = w) (hK : X.K = K) (hc : X.calm = true) : CallR X (.builtin "sorted") (rSortedT K P w) := by
  cases hP; cases hw; cases hK
  exact cr_sortedT hc
end

/-! the built-ins by their names -/
theorem bt_len : bootBuiltins "len" = some (.builtin "len") := by first | exact PySem.boot_len | exact PyProof.Rows.boot_len | decide +kernel
theorem bt_range : bootBuiltins "range" = some (.type "range") := by first | exact PySem.boot_range | exact PyProof.Rows.boot_range | decide +kernel
theorem bt_sorted : bootBuiltins "sorted" = some (.builtin "sorted") := by first | exact PySem.boot_sorted | exact PyProof.Rows.boot_sorted | decide +kernel
theorem bt_repr : bootBuiltins "repr" = some (.builtin "repr") := by first | exact PySem.boot_repr | exact PyProof.Rows.boot_repr | decide +kernel
theorem bt_isinstance : bootBuiltins "isinstance" = some (.builtin "isinstance") := by first | exact PySem.boot_isinstance | exact PyProof.Rows.boot_isinstance | decide +kernel
theorem bt_min : bootBuiltins "min" = some (.builtin "min") := by first | exact PySem.boot_min | exact PyProof.Rows.boot_min | decide +kernel
theorem bt_max : bootBuiltins "max" = some (.builtin "max") := by first | exact PySem.boot_max | exact PyProof.Rows.boot_max | decide +kernel
theorem bt_sum : bootBuiltins "sum" = some (.builtin "sum") := by first | exact PySem.boot_sum | exact PyProof.Rows.boot_sum | decide +kernel
theorem bt_any : bootBuiltins "any" = some (.builtin "any") := by first | exact PySem.boot_any | exact PyProof.Rows.boot_any | decide +kernel
theorem bt_all : bootBuiltins "all" = some (.builtin "all") := by first | exact PySem.boot_all | exact PyProof.Rows.boot_all | decide +kernel
theorem bt_abs : bootBuiltins "abs" = some (.builtin "abs") := by first | exact PySem.boot_abs | exact PyProof.Rows.boot_abs | decide +kernel
theorem bt_int : bootBuiltins "int" = some (.type "int") := by first | exact PySem.boot_int | exact PyProof.Rows.boot_int | decide +kernel
theorem bt_bool : bootBuiltins "bool" = some (.type "bool") := by first | exact PySem.boot_bool | exact PyProof.Rows.boot_bool | decide +kernel
theorem bt_str : bootBuiltins "str" = some (.type "str") := by first | exact PySem.boot_str | exact PyProof.Rows.boot_str | decide +kernel
theorem bt_list : bootBuiltins "list" = some (.type "list") := by first | exact PySem.boot_list | exact PyProof.Rows.boot_list | decide +kernel
theorem bt_tuple : bootBuiltins "tuple" = some (.type "tuple") := by first | exact PySem.boot_tuple | exact PyProof.Rows.boot_tuple | decide +kernel
theorem bt_set : bootBuiltins "set" = some (.type "set") := by first | exact PySem.boot_set | exact PyProof.Rows.boot_set | decide +kernel
theorem bt_dict : bootBuiltins "dict" = some (.type "dict") := by first | exact PySem.boot_dict | exact PyProof.Rows.boot_dict | decide +kernel
end UN

namespace UN
open PySem PySem.Spec PyProof.Rows L2
/-! types of values; tests that are known -/
section
variable {K : PySem.W.Frag} {H : Hp} {a : Addr} {xs : List V}
theorem tyx_int (i : Int) : TyX K H (.int i) (.type "int") := .base (.int i)
theorem tyx_bl (b : Bool) : TyX K H (.bl b) (.type "bool") := .base (.bl b)
theorem tyx_list (h : SqL K H a xs) : TyX K H (.ref a) (.type "list") := by
  rcases h with (h | ⟨o, h⟩) | ⟨o, its, n, h, c, _⟩
  · exact .base (.lst h)
  · exact .base (.frz h)
  · exact .kList h c
theorem tyx_tup (h : SqT K H a xs) : TyX K H (.ref a) (.type "tuple") := by
  rcases h with (h | ⟨o, h⟩) | ⟨o, its, n, h, c, _⟩
  · exact .base (.tup h)
  · exact .fTuple h
  · exact .kTuple h c
end
theorem kb_ii : kitB "int" "int" = some true := by decide +kernel
theorem kb_ib : kitB "int" "bool" = some false := by decide +kernel
theorem kb_bi : kitB "bool" "int" = some true := by decide +kernel
theorem kb_bb : kitB "bool" "bool" = some true := by decide +kernel
theorem kb_tt : kitB "tuple" "tuple" = some true := by decide +kernel
theorem kb_ll : kitB "list" "list" = some true := by decide +kernel
theorem iteTr {c A B : Prop} [Decidable c] (h : c) (a : A) : if c then A else B := by rw [if_pos h]; exact a
theorem iteFa {c A B : Prop} [Decidable c] (h : ¬ c) (b : B) : if c then A else B := by rw [if_neg h]; exact b
theorem iteTT {k : Bool} {A B : Prop} (h : k = true) (a : A) : if k = true then A else B := iteTr h a
theorem iteFF {k : Bool} {A B : Prop} (h : k = false) (b : B) : if k = true then A else B := iteFa (by rw [h]; decide) b
/-- isinstance of a built-in class -/
theorem isiA {K : PySem.W.Frag} {x : V} {T U : String} {b : Bool} {H : Hp} {Q : VK} (t : TyX K H x (.type T)) (k : kitB T U = some b) (q : Q (.bl b) H) : rIsi K [x, .ty U] H Q :=
  ⟨x, .ty U, .type T, .type U, b, rfl, .ty U, t, kit_ty k, q⟩
/-- an element of a list, of a tuple at a known place -/
theorem ixLA {K : PySem.W.Frag} {p : Addr} {xs : List V} {i : Int} {j : Nat} {v : V} {H : Hp} {Q : VK} (h : SqL K H p xs) (e : i = (j : Int)) (g : xs[j]? = some v) (q : Q v H) : rIxL K (.ref p) (.int i) H Q :=
  ⟨p, xs, i, v, rfl, rfl, h, at_of e g, q⟩
theorem ixTA {K : PySem.W.Frag} {p : Addr} {xs : List V} {i : Int} {j : Nat} {v : V} {H : Hp} {Q : VK} (h : SqT K H p xs) (e : i = (j : Int)) (g : xs[j]? = some v) (q : Q v H) : rIxT K (.ref p) (.int i) H Q :=
  ⟨p, xs, i, v, rfl, rfl, h, at_of e g, q⟩
theorem lenLA {K : PySem.W.Frag} {p : Addr} {xs : List V} {H : Hp} {Q : VK} (h : SqL K H p xs) (q : Q (.int xs.length) H) : rLenS K [.ref p] H Q := ⟨p, xs, rfl, .inl h, q⟩
theorem lenTA {K : PySem.W.Frag} {p : Addr} {xs : List V} {H : Hp} {Q : VK} (h : SqT K H p xs) (q : Q (.int xs.length) H) : rLenS K [.ref p] H Q := ⟨p, xs, rfl, .inr h, q⟩
end UN
namespace UN
open PySem PySem.Spec PyProof.Rows L2
theorem CalG.mono {P : Program} {w : World} {K : PySem.W.Frag} {mg : Str → Option Value} {base : Heap} {j k : Nat} {x : Str} {st : Stmt} {ps : List Str} {sp : Sp} (c : CalG P w K mg base j x st ps sp) (h : j ≤ k) : CalG P w K mg base k x st ps sp := by
  obtain ⟨f, fd, F, hm, fn⟩ := c.ex
  exact ⟨⟨f, fd, F.mono h, hm, fn⟩, c.bd⟩
end UN
namespace UN
open PySem PySem.Spec PyProof.Rows L2
/-- a loop of n turns over any iterator -/
theorem for_n {J : It} {g : TG} {tb : TS} {D : Ends} {σ : L2.St} {H : Hp} (n : Nat) (Pv : Nat → L2.St → Hp → Prop) (h0 : Pv 0 σ H)
    (go : ∀ i σ H, i < n → Pv i σ H → J.go i H ∧ ∀ x H', J.yld i H x H' → g x σ H' fun σ2 H2 => tb { D with nx := Pv (i + 1), ct := Pv (i + 1), bk := D.nx } σ2 H2)
    (fin : ∀ σ H, Pv n σ H → J.stop n H ∧ D.nx σ H) :
    ∃ W : Nat → Nat → L2.St → Hp → Prop, (∃ m, W 0 m σ H) ∧ ∀ i m σ H, W i m σ H →
      (J.stop i H ∧ D.nx σ H) ∨ (J.go i H ∧ ∃ N : L2.St → Hp → Prop, (∀ σ' H', N σ' H' → ∃ m', m' < m ∧ W (i + 1) m' σ' H') ∧ ∀ x H', J.yld i H x H' → g x σ H' fun σ2 H2 => tb { D with nx := N, ct := N, bk := D.nx } σ2 H2) := by
  refine ⟨fun i m σ H => i + m = n ∧ Pv i σ H, ⟨n, by omega, h0⟩, ?_⟩
  rintro i m σ H ⟨e, p⟩
  by_cases hi : i < n
  · obtain ⟨a, b⟩ := go i σ H hi p
    exact .inr ⟨a, Pv (i + 1), fun σ' H' q => ⟨m - 1, by omega, by omega, q⟩, b⟩
  · have e2 : i = n := by omega
    subst e2
    exact .inl (fin σ H p)
theorem lc_n {J : It} {g : TG} {tt : TT} {te : TE} {vs : List Nat} {σ : L2.St} {H1 : Hp} {D : Addr} {Qd : Hp → Prop} (n : Nat) (Pv : Nat → Hp → Prop) (h0 : Pv 0 (upd H1 D (.lst [])))
    (go : ∀ i H, i < n → Pv i H → J.go i H ∧ ∀ x H', J.yld i H x H' → g x (wipe σ vs) H' fun σ2 H2 => wipe σ2 vs = wipe σ vs ∧ tt σ2 H2 fun b H3 =>
      if b = true then te σ2 H3 fun y H4 => ∃ acc, H4 D = some (.lst acc) ∧ acc.length < sizeLine ∧ Pv (i + 1) (upd H4 D (.lst (acc ++ [y]))) else Pv (i + 1) H3)
    (fin : ∀ H, Pv n H → J.stop n H ∧ Qd H) :
    ∃ W : Nat → Nat → Hp → Prop, (∃ m, W 0 m (upd H1 D (.lst []))) ∧ ∀ i m H, W i m H →
      (J.stop i H ∧ Qd H) ∨ (J.go i H ∧ ∃ Nx : Hp → Prop, (∀ H', Nx H' → ∃ m', m' < m ∧ W (i + 1) m' H') ∧ ∀ x H', J.yld i H x H' → g x (wipe σ vs) H' fun σ2 H2 => wipe σ2 vs = wipe σ vs ∧ tt σ2 H2 fun b H3 =>
        if b = true then te σ2 H3 fun y H4 => ∃ acc, H4 D = some (.lst acc) ∧ acc.length < sizeLine ∧ Nx (upd H4 D (.lst (acc ++ [y]))) else Nx H3) := by
  refine ⟨fun i m H => i + m = n ∧ Pv i H, ⟨n, by omega, h0⟩, ?_⟩
  rintro i m H ⟨e, p⟩
  by_cases hi : i < n
  · obtain ⟨a, b⟩ := go i H hi p
    exact .inr ⟨a, Pv (i + 1), fun H' q => ⟨m - 1, by omega, by omega, q⟩, b⟩
  · have e2 : i = n := by omega
    subst e2
    exact .inl (fin H p)
/-- enumerate over a list that stays -/
theorem for_enum {K : PySem.W.Frag} {a : Addr} {xs : List V} {g : TG} {tb : TS} {D : Ends} {σ : L2.St} {H : Hp} (Pv : Nat → L2.St → Hp → Prop) (h0 : Pv 0 σ H) (hl : ∀ i σ H, Pv i σ H → SqL K H a xs)
    (hs : ∀ i x σ H T, xs[i]? = some x → Pv i σ H → H T = none → g (.ref T) σ (upd H T (.tup [.int (i : Nat), x])) fun σ2 H2 => tb { D with nx := Pv (i + 1), ct := Pv (i + 1), bk := D.nx } σ2 H2) (hd : ∀ σ H, Pv xs.length σ H → D.nx σ H) :
    ∃ W : Nat → Nat → L2.St → Hp → Prop, (∃ m, W 0 m σ H) ∧ ∀ i m σ H, W i m σ H →
      ((Ite K a).stop i H ∧ D.nx σ H) ∨ ((Ite K a).go i H ∧ ∃ N : L2.St → Hp → Prop, (∀ σ' H', N σ' H' → ∃ m', m' < m ∧ W (i + 1) m' σ' H') ∧ ∀ x H', (Ite K a).yld i H x H' → g x σ H' fun σ2 H2 => tb { D with nx := N, ct := N, bk := D.nx } σ2 H2) := by
  refine for_n xs.length Pv h0 (fun i σ H hi p => ?_) fun σ H p => ⟨⟨xs, hl _ _ _ p, Nat.le_refl _⟩, hd _ _ p⟩
  have q := hl _ _ _ p
  refine ⟨⟨xs, xs[i], q, by simp [hi]⟩, ?_⟩
  rintro x H' ⟨T, y, rfl, nT, rfl, f⟩
  exact hs i y σ H T (f xs q) p nT
end UN

namespace UN
open PySem PySem.Spec PyProof.Rows L2
/-! small data -/
structure Sm (b dep : Nat) (d : PyData) : Prop where
  lay : d.canLay0 = true
  sh : d.showable = true
  ls : d.leavesShort 13 = true
  dp : d.depth ≤ dep
  bk : d.bulk ≤ b
section
variable {b c dep e : Nat} {d : PyData} {ds : List PyData}
theorem Sm.mono (h : Sm b dep d) (h1 : b ≤ c) (h2 : dep ≤ e) : Sm c e d := ⟨h.lay, h.sh, h.ls, Nat.le_trans h.dp h2, Nat.le_trans h.bk h1⟩
theorem sm_int {i : Int} (h : i.natAbs < 10 ^ 12) : Sm 0 0 (.int i) := by
  refine ⟨rfl, decide_eq_true ?_, decide_eq_true (PyData.shown_int_le h), Nat.le_refl _, Nat.le_refl _⟩
  by_cases z : i.natAbs = 0
  · rw [z]; decide
  · exact Nat.lt_trans ((Nat.log2_lt z).mpr (Nat.lt_trans h (by decide))) (by decide : 41 < 1920)
theorem sm_bl (x : Bool) : Sm 0 0 (.bool x) := ⟨rfl, rfl, rfl, Nat.le_refl _, Nat.le_refl _⟩
theorem sm_non : Sm 0 0 .none := ⟨rfl, rfl, rfl, Nat.le_refl _, Nat.le_refl _⟩
theorem sm_all (h : ∀ d ∈ ds, Sm b dep d) : PyData.canLayAll0 ds = true ∧ PyData.showableAll ds = true ∧ PyData.leavesShortAll 13 ds = true ∧ PyData.depthAll ds ≤ dep ∧ PyData.bulkAll ds ≤ ds.length * (b + 1) := by
  induction ds with
  | nil => exact ⟨rfl, rfl, rfl, Nat.zero_le _, Nat.zero_le _⟩
  | cons x r ih =>
    obtain ⟨a1, a2, a3, a4, a5⟩ := ih fun d hd => h d (List.mem_cons_of_mem _ hd)
    obtain ⟨b1, b2, b3, b4, b5⟩ := h x List.mem_cons_self
    refine ⟨by simp [PyData.canLayAll0, a1, b1], by simp [PyData.showableAll, a2, b2], by simp [PyData.leavesShortAll, a3, b3], by simp only [PyData.depthAll]; omega, ?_⟩
    simp only [PyData.bulkAll, List.length_cons, Nat.succ_mul]
    omega
theorem sm_lst (h : ∀ d ∈ ds, Sm b dep d) : Sm (ds.length * (b + 1)) (dep + 1) (.list ds) := by
  obtain ⟨a1, a2, a3, a4, a5⟩ := sm_all h
  exact ⟨by simpa only [PyData.canLay0] using a1, by simpa only [PyData.showable] using a2, by simpa only [PyData.leavesShort] using a3, by simp only [PyData.depth]; omega, by simpa only [PyData.bulk] using a5⟩
theorem sm_tup (h : ∀ d ∈ ds, Sm b dep d) : Sm (ds.length * (b + 1)) (dep + 1) (.tuple ds) := by
  obtain ⟨a1, a2, a3, a4, a5⟩ := sm_all h
  exact ⟨by simpa only [PyData.canLay0] using a1, by simpa only [PyData.showable] using a2, by simpa only [PyData.leavesShort] using a3, by simp only [PyData.depth]; omega, by simpa only [PyData.bulk] using a5⟩
theorem Sm.list {n : Nat} (h : ∀ d ∈ ds, Sm b dep d) (l : ds.length ≤ n) : Sm (n * (b + 1)) (dep + 1) (.list ds) := (sm_lst h).mono (Nat.mul_le_mul_right _ l) (Nat.le_refl _)
theorem Sm.tuple {n : Nat} (h : ∀ d ∈ ds, Sm b dep d) (l : ds.length ≤ n) : Sm (n * (b + 1)) (dep + 1) (.tuple ds) := (sm_tup h).mono (Nat.mul_le_mul_right _ l) (Nat.le_refl _)
theorem Sm.shaped (h : Sm b dep d) (hd : dep ≤ 64) : SeqAt.shaped d = true := by
  unfold SeqAt.shaped
  rw [h.lay, decide_eq_true (Nat.le_trans h.dp hd)]
  rfl
theorem Sm.fits (h : Sm b dep d) (hb : b ≤ 2 ^ 20) : d.shown.length ≤ sizeLine := PyData.shown_fits_bulk (by decide) (by decide) h.ls (Nat.le_trans h.bk hb)
variable {K : PySem.W.Frag} {H : Hp} {x y : V} {Q : VK}
theorem reprA (r : Dp K H x d) (h : Sm b dep d) (hd : dep ≤ 60 := by decide) (hb : b ≤ 2 ^ 20 := by decide) (q : Q (.str d.shown) H) : rRepr K [x] H Q :=
  ⟨x, d, rfl, r, h.sh, PyData.hasDict_of_canLay d h.lay, Nat.le_trans h.dp hd, h.fits hb, q⟩
end
/-! data of lists -/
def dI (ns : List Int) : PyData := .list (ns.map PyData.int)
def dR (rows : List (List Int)) : PyData := .list (rows.map dI)
def dE (e : Int × Int) : PyData := .tuple [.int e.1, .int e.2]
def dP (ps : List (Int × Int)) : PyData := .list (ps.map dE)
section
variable {K : PySem.W.Frag} {H : Hp} {a : Addr}
theorem dpAll_ints : ∀ ns : List Int, DpAll K H (iv ns) (ns.map PyData.int)
  | [] => .nil
  | n :: r => .cons (.int n) (dpAll_ints r)
theorem IsInts.dp {ns : List Int} (h : IsInts K H a ns) : Dp K H (.ref a) (dI ns) := .lst h (dpAll_ints ns)
theorem dpAll_refs {α : Type} (f : α → PyData) : ∀ rs : List (Addr × α), (∀ r ∈ rs, Dp K H (.ref r.1) (f r.2)) → DpAll K H (refs rs) ((vals rs).map f)
  | [], _ => .nil
  | r :: t, h => .cons (h r List.mem_cons_self) (dpAll_refs f t fun q hq => h q (List.mem_cons_of_mem _ hq))
theorem IsRows.dp {rows : List (List Int)} (h : IsRows K H a rows) : Dp K H (.ref a) (dR rows) := by
  obtain ⟨rs, rfl, h1, h2⟩ := h
  exact .lst h1 (dpAll_refs dI rs fun r hr => IsInts.dp (h2 r hr))
theorem IsPairs.dp {ps : List (Int × Int)} (h : IsPairs K H a ps) : Dp K H (.ref a) (dP ps) := by
  obtain ⟨ts, rfl, h1, h2⟩ := h
  exact .lst h1 (dpAll_refs dE ts fun r hr => .tup (h2 r hr) (.cons (.int _) (.cons (.int _) .nil)))
theorem sm_dI {ns : List Int} {n : Nat} (h : ∀ i ∈ ns, i.natAbs < 10 ^ 12) (l : ns.length ≤ n) : Sm n 1 (dI ns) :=
  (Sm.list (b := 0) (dep := 0) (n := n) (fun d hd => by obtain ⟨i, hi, rfl⟩ := List.mem_map.mp hd; exact sm_int (h i hi)) (by rw [List.length_map]; exact l)).mono (by omega) (Nat.le_refl _)
theorem sm_dR {rows : List (List Int)} {n m : Nat} (h : ∀ r ∈ rows, r.length ≤ n ∧ ∀ i ∈ r, i.natAbs < 10 ^ 12) (l : rows.length ≤ m) : Sm (m * (n + 1)) 2 (dR rows) :=
  Sm.list (fun d hd => by obtain ⟨r, hr, rfl⟩ := List.mem_map.mp hd; exact sm_dI (h r hr).2 (h r hr).1) (by rw [List.length_map]; exact l)
theorem sm_dE {e : Int × Int} (h1 : e.1.natAbs < 10 ^ 12) (h2 : e.2.natAbs < 10 ^ 12) : Sm 2 1 (dE e) :=
  Sm.tuple (b := 0) (dep := 0) (n := 2) (fun d hd => by
    rcases List.mem_cons.mp hd with rfl | hd
    · exact sm_int h1
    · rcases List.mem_cons.mp hd with rfl | hd
      · exact sm_int h2
      · cases hd) (Nat.le_refl _)
theorem sm_dP {ps : List (Int × Int)} {m : Nat} (h : ∀ e ∈ ps, e.1.natAbs < 10 ^ 12 ∧ e.2.natAbs < 10 ^ 12) (l : ps.length ≤ m) : Sm (m * 3) 2 (dP ps) :=
  Sm.list (fun d hd => by obtain ⟨r, hr, rfl⟩ := List.mem_map.mp hd; exact sm_dE (h r hr).1 (h r hr).2) (by rw [List.length_map]; exact l)
end
/-! membership -/
theorem inV_iv (x : Int) (ns : List Int) : inV (.int x) (iv ns) = decide (x ∈ ns) := by
  unfold inV iv
  rw [List.any_map]
  induction ns with
  | nil => simp
  | cons n r ih =>
    rw [List.any_cons, ih]
    have : ((fun y => eqV y (V.int x)) ∘ V.int) n = decide (n = x) := rfl
    rw [this]
    by_cases h : x = n
    · simp [h]
    · simp [h, Ne.symm h]
theorem iv_flat (ns : List Int) : (iv ns).all flatV = true := by
  unfold iv
  rw [List.all_map, List.all_eq_true]
  intro _ _
  rfl
end UN
namespace UN
open PySem PySem.Spec PyProof.Rows L2
theorem sl1 {x : V} : [x].length ≤ sizeLine := Nat.le_of_lt (sl_line' (by simp))
theorem sl2 {x y : V} : [x, y].length ≤ sizeLine := Nat.le_of_lt (sl_line' (by simp))
theorem sl3 {x y z : V} : [x, y, z].length ≤ sizeLine := Nat.le_of_lt (sl_line' (by simp))
end UN
namespace UN
open PySem PySem.Spec PyProof.Rows L2
theorem dVI (i j : Int) : decide (V.int i = V.int j) = decide (i = j) := by simp
theorem dVS (i j : Str) : decide (V.str i = V.str j) = decide (i = j) := by simp
theorem dVB (i j : Bool) : decide (V.bl i = V.bl j) = decide (i = j) := by simp
end UN

namespace UN
open PySem PySem.Spec PyProof.Rows L2
/-! lists that are written at the end, whatever they hold -/
structure OwnR (H0 H : Hp) (L : Led) (as : List Addr) (b : Nat) : Prop where
  loc : Loc H0 H L
  rows : ∀ a ∈ as, (∀ q ∈ L, q.1 ≠ a) ∧ H0 a = none ∧ ∃ ys, H a = some (.lst ys) ∧ ys.length ≤ b
section
variable {H0 H H1 : Hp} {L : Led} {as : List Addr} {b b' : Nat} {a p : Addr} {o o' : HO}
theorem OwnR.of {rs : List (Addr × List Int)} (l : Loc H0 H (L ++ rowL rs)) (h : ∀ r ∈ rs, r.2.length ≤ b) : OwnR H0 H L (rs.map Prod.fst) b := by
  refine ⟨l.keep (List.sublist_append_left _ _), fun a ha => ?_⟩
  obtain ⟨r, hr, rfl⟩ := List.mem_map.mp ha
  have mem : ((r.1, .lst (iv r.2)) : Addr × HO) ∈ rowL rs := List.mem_map.mpr ⟨r, hr, rfl⟩
  refine ⟨fun q hq e => ?_, l.new _ (List.mem_append_right _ mem), iv r.2, l.here _ (List.mem_append_right _ mem), by rw [iv_len]; exact h r hr⟩
  have nd := l.nd
  rw [List.map_append, List.nodup_append] at nd
  exact nd.2.2 _ (List.mem_map.mpr ⟨q, hq, rfl⟩) _ (List.mem_map.mpr ⟨_, mem, rfl⟩) e
theorem OwnR.app (h : OwnR H0 H L as b) (ha : a ∈ as) {ys : List V} {x : V} (hy : H a = some (.lst ys)) (hl : ys.length ≤ b) : OwnR H0 (upd H a (.lst (ys ++ [x]))) L as (b + 1) := by
  obtain ⟨h1, h2, _⟩ := h.rows a ha
  refine ⟨⟨fun c u e => ?_, fun q hq => ?_, h.loc.new, h.loc.nd⟩, fun c hc => ?_⟩
  · rw [upd_ne (ne_of_none e h2)]; exact h.loc.same c u e
  · rw [upd_ne (h1 q hq)]; exact h.loc.here q hq
  · obtain ⟨g1, g2, ys', g3, g4⟩ := h.rows c hc
    refine ⟨g1, g2, ?_⟩
    by_cases e : c = a
    · subst e
      exact ⟨_, upd_same, by rw [List.length_append]; simp; omega⟩
    · exact ⟨ys', by rw [upd_ne e]; exact g3, by omega⟩
end
/-- two turned -/
def turn2 {α : Type} : List α → List α
  | [a, b] => [b, a]
  | l => l
theorem turn2_vals {zs : List V} {ws : List Value} (h : Vals zs ws) : Vals (turn2 zs) (turn2 ws) := by
  cases h with
  | nil => exact .nil
  | cons h1 h2 =>
    cases h2 with
    | nil => exact .cons h1 .nil
    | cons h3 h4 =>
      cases h4 with
      | nil => exact .cons h3 (.cons h1 .nil)
      | cons h5 h6 => exact .cons h1 (.cons h3 (.cons h5 h6))
theorem two_of {α : Type} {l : List α} (h : l.length = 2) : ∃ a b, l = [a, b] := by
  match l, h with
  | [a, b], _ => exact ⟨a, b, rfl⟩
section
variable {K : PySem.W.Frag} {H : Hp} {a e : Addr} {x y : V} {d d' : PyData} {b c dep dep' : Nat}
theorem dp_two (h : SqL K H e [x, y]) (hx : Dp K H x d) (hy : Dp K H y d') : Dp K H (.ref e) (.list [d, d']) := .lst h (.cons hx (.cons hy .nil))
theorem sm_two (h : Sm b dep d) (h' : Sm b dep d') : Sm (2 * (b + 1)) (dep + 1) (.list [d, d']) := Sm.list (fun z hz => by
  rcases List.mem_cons.mp hz with rfl | hz
  · exact h
  · rcases List.mem_cons.mp hz with rfl | hz
    · exact h'
    · cases hz) (Nat.le_refl _)
end
/-- what repr asks of small data, and what goes on -/
theorem smQ {b dep : Nat} {d : PyData} {R : Prop} (h : Sm b dep d) (hd : dep ≤ 60) (hb : b ≤ 2 ^ 20) (q : R) : d.showable = true ∧ d.hasDict = false ∧ d.depth ≤ 60 ∧ d.shown.length ≤ sizeLine ∧ R :=
  ⟨h.sh, PyData.hasDict_of_canLay d h.lay, Nat.le_trans h.dp hd, h.fits hb, q⟩
theorem cut_to {xs : List V} {k : Nat} : cutV xs none (some (k : Int)) = xs.take k := by
  have e1 : HT.sIx xs.length 0 none = 0 := rfl
  have e2 : HT.sIx xs.length xs.length (some (k : Int)) = min k xs.length := HT.sIx_nat _ _ _
  unfold cutV
  rw [e1, e2, List.drop_zero, Nat.sub_zero]
  by_cases h : k ≤ xs.length
  · rw [Nat.min_eq_left h]
  · rw [Nat.min_eq_right (by omega), List.take_length, List.take_of_length_le (by omega)]
/-! list.count of flat values -/
theorem cnt_eqU {x : V} : ∀ {xs : List V} {us : List Value}, Vals xs us → xs.all flatV = true → us.countP (eqU x) = xs.countP fun y => eqV y x
  | _, _, .nil, _ => rfl
  | y :: xs, u :: us, .cons r t, f => by
    rw [List.all_cons, Bool.and_eq_true] at f
    rw [List.countP_cons, List.countP_cons, eqU_of r f.1, cnt_eqU t f.2]
def rCntV (K : PySem.W.Frag) : V → List V → Hp → VK → Prop := fun x xs H Q => ∃ (p : Addr) (y : V) (ys : List V), x = .ref p ∧ xs = [y] ∧ SqL K H p ys ∧ flatV y = true ∧ ys.all flatV = true ∧ Q (.int (ys.countP fun z => eqV z y : Nat)) H
theorem mt_lcountV {X : Cx} (K : PySem.W.Frag) (hK : X.K = K) : MtR X "list.count" (rCntV K) := by
  cases hK
  intro pins s σ H x xs v us Q J rx rxs h
  obtain ⟨p, y, ys, rfl, rfl, hs, fy, fys, q⟩ := h
  cases rx
  obtain ⟨u, rfl, ru⟩ := rxs.one
  obtain ⟨its, rv, ⟨⟨cls, dd, data, sl⟩, n, ho, hc, hdn, hd⟩, hlen⟩ := J.list hs
  simp only at hc hd
  subst hc hd
  refine call_meets PySem.F.slot_list_count ⟨_, ho, rfl⟩ PySem.F.entry_list_count (PySem.F.args_list_count_2 _ _)
    (SeqAt.list_countAt p its.toArray n dd sl u (eqU y)) ⟨ho, fun z hz => mem_eqAt ru fy rv fys z (by simpa using hz), ?_⟩
  have ec : its.toArray.toList.countP (eqU y) = ys.countP fun z => eqV z y := cnt_eqU rv fys
  refine ⟨.int (ys.countP fun z => eqV z y : Nat), H, J.tok _, ⟨s.toks, ?_⟩, q⟩
  show Value.int ((its.toArray.toList.countP (eqU y) : Nat) : Int) s.toks = _
  rw [ec]
end UN

namespace UN
open PySem PySem.Spec PyProof.Rows L2
section
variable {H0 H : Hp} {A B : Led} {a : Addr} {o o' : HO}
theorem Loc.mid (l : Loc H0 H (A ++ (a, o) :: B)) : Loc H0 (upd H a o') (A ++ (a, o') :: B) :=
  ((l.perm (M := (a, o) :: (A ++ B)) List.perm_middle.symm).put0 (o' := o')).perm List.perm_middle
/-- a row in a ledger's tail grows -/
theorem Loc.rowGrowP {rs : List (Addr × List Int)} {k : Nat} {row : List Int} {z : Int} {r : Addr} (l : Loc H0 H (A ++ rowL rs)) (h : rs[k]? = some (r, row)) :
    Loc H0 (upd H r (.lst (iv row ++ [.int z]))) (A ++ rowL (rs.set k (r, row ++ [z]))) := by
  have hk : k < (rowL rs).length := by unfold rowL; rw [List.length_map]; exact (List.getElem?_eq_some_iff.mp h).1
  have l2 := l.setIx (i := A.length + k) (a := r) (o := .lst (iv row)) (o' := .lst (iv row ++ [.int z])) (by
    rw [List.getElem?_append_right (by omega), Nat.add_sub_cancel_left]; exact rowL_get h)
  rw [List.set_append_right _ _ (by omega), Nat.add_sub_cancel_left, ← iv_snoc, ← rowL_set] at l2
  rw [← iv_snoc]
  exact l2
theorem Loc.rowAt {rs : List (Addr × List Int)} {k : Nat} {row : List Int} {r : Addr} (l : Loc H0 H (A ++ rowL rs)) (h : rs[k]? = some (r, row)) : H r = some (.lst (iv row)) :=
  l.here (r, .lst (iv row)) (List.mem_append_right _ (List.mem_of_getElem? (rowL_get h)))
end
theorem at_lastI {w : List Int} (h : w ≠ []) : atI (iv w) (-1) = some (.int (w.getLastD 0)) := by
  have e : iv w = iv w.dropLast ++ [.int (w.getLastD 0)] := by
    have e1 : w = w.dropLast ++ [w.getLastD 0] := by
      rw [List.getLastD_eq_getLast?, List.getLast?_eq_getLast h]
      exact (List.dropLast_concat_getLast h).symm
    calc iv w = iv (w.dropLast ++ [w.getLastD 0]) := by rw [← e1]
      _ = _ := iv_snoc _ _
  rw [e]
  exact atI_last _ _
theorem ixI {n : Nat} {k : Int} (h0 : 0 ≤ k) (h : k.toNat < n) : ixN n k = some k.toNat := by
  unfold ixN
  rw [if_pos h0, if_pos (by omega)]
/-- rows with a None behind, up to the place i -/
def rowN (i : Nat) (rs : List (Addr × List Int)) : Led := (rs.take i).map (fun q => (q.1, HO.lst (iv q.2 ++ [.non]))) ++ rowL (rs.drop i)
theorem rowN_zero (rs : List (Addr × List Int)) : rowN 0 rs = rowL rs := rfl
theorem Loc.rowNon {H0 H : Hp} {A : Led} {rs : List (Addr × List Int)} {i : Nat} {r : Addr} {row : List Int} (l : Loc H0 H (A ++ rowN i rs)) (h : rs[i]? = some (r, row)) :
    H r = some (.lst (iv row)) ∧ Loc H0 (upd H r (.lst (iv row ++ [.non]))) (A ++ rowN (i + 1) rs) := by
  obtain ⟨hi, e⟩ := List.getElem?_eq_some_iff.mp h
  have ed : rs.drop i = (r, row) :: rs.drop (i + 1) := by rw [List.drop_eq_getElem_cons hi, e]
  have et : rs.take (i + 1) = rs.take i ++ [(r, row)] := by rw [List.take_add_one, h]; rfl
  have e1 : A ++ rowN i rs = (A ++ (rs.take i).map (fun q => (q.1, HO.lst (iv q.2 ++ [.non])))) ++ (r, .lst (iv row)) :: rowL (rs.drop (i + 1)) := by
    unfold rowN
    rw [ed, List.append_assoc]
    rfl
  have e2 : A ++ rowN (i + 1) rs = (A ++ (rs.take i).map (fun q => (q.1, HO.lst (iv q.2 ++ [.non])))) ++ (r, .lst (iv row ++ [.non])) :: rowL (rs.drop (i + 1)) := by
    unfold rowN
    rw [et, List.map_append, List.append_assoc, List.append_assoc]
    rfl
  rw [e1] at l
  refine ⟨l.here (r, .lst (iv row)) (List.mem_append_right _ List.mem_cons_self), ?_⟩
  rw [e2]
  exact l.mid
theorem rowN_at {H0 H : Hp} {A : Led} {rs : List (Addr × List Int)} {q : Addr × List Int} (l : Loc H0 H (A ++ rowN rs.length rs)) (h : q ∈ rs) : H q.1 = some (.lst (iv q.2 ++ [.non])) := by
  refine l.here (q.1, .lst (iv q.2 ++ [.non])) (List.mem_append_right _ (List.mem_append_left _ (List.mem_map.mpr ⟨q, ?_, rfl⟩)))
  rw [List.take_length]
  exact h
theorem cnt_non (ns : List Int) : (iv ns ++ [V.non]).countP (fun z => eqV z .non) = 1 := by
  rw [List.countP_append]
  have : (iv ns).countP (fun z => eqV z .non) = 0 := by
    unfold iv
    rw [List.countP_map, List.countP_eq_zero]
    intro n _
    simp [Function.comp, eqV]
  rw [this]
  rfl
theorem flat_non (ns : List Int) : (iv ns ++ [V.non]).all flatV = true := by
  rw [List.all_append, iv_flat]
  rfl
/-! data of pairs -/
theorem shaped_dP (ps : List (Int × Int)) : SeqAt.shaped (dP ps) = true := by
  have h1 : ∀ ns : List (Int × Int), PyData.canLayAll0 (ns.map dE) = true := fun ns => by
    induction ns with
    | nil => rfl
    | cons n r ih => simp [PyData.canLayAll0, PyData.canLay0, dE, ih]
  have h2 : ∀ ns : List (Int × Int), PyData.depthAll (ns.map dE) ≤ 1 := fun ns => by
    induction ns with
    | nil => exact Nat.zero_le _
    | cons n r ih => simp [PyData.depthAll, PyData.depth, dE]; omega
  unfold SeqAt.shaped dP
  have := h2 ps
  simp [PyData.canLay0, PyData.depth, h1]
  omega
theorem shaped_dE (e : Int × Int) : SeqAt.shaped (dE e) = true := by
  unfold SeqAt.shaped dE
  simp [PyData.canLay0, PyData.canLayAll0, PyData.depth, PyData.depthAll]
theorem eqv_dE (e f : Int × Int) : PyData.eqv (dE e) (dE f) = decide (e = f) := by
  obtain ⟨a, b⟩ := e
  obtain ⟨c, d⟩ := f
  simp [dE, PyData.eqv, PyData.eqvAll, Prod.ext_iff]
  rfl
theorem eqv_dP_nil (ps : List (Int × Int)) : PyData.eqv (dP ps) (dP []) = decide (ps = []) := by
  cases ps with
  | nil => simp [dP, PyData.eqv, PyData.eqvAll]
  | cons n r => simp [dP, PyData.eqv, PyData.eqvAll]
theorem any_dE (e : Int × Int) (ps : List (Int × Int)) : ((ps.map dE).any fun z => PyData.eqv z (dE e)) = decide (e ∈ ps) := by
  rw [List.any_map]
  induction ps with
  | nil => simp
  | cons f r ih =>
    rw [List.any_cons, ih]
    have : ((fun z => PyData.eqv z (dE e)) ∘ dE) f = decide (f = e) := eqv_dE f e
    rw [this]
    by_cases h : e = f
    · simp [h]
    · simp [h, Ne.symm h]
theorem IsPairs.cut {K : PySem.W.Frag} {H : Hp} {a p : Addr} {ps : List (Int × Int)} (h : IsPairs K H a ps) (i : Nat) : ∃ xs, SqL K H a xs ∧ xs.length = ps.length ∧ ∀ H', Same H H' → SqL K H' p (xs.take i) → IsPairs K H' p (ps.take i) := by
  obtain ⟨ts, rfl, h1, h2⟩ := h
  refine ⟨refs ts, h1, by rw [refs_len, vals_len], fun H' sm hs => ⟨ts.take i, List.map_take, ?_, fun t ht => Same.sqT sm (h2 t (List.mem_of_mem_take ht))⟩⟩
  have e : (refs ts).take i = refs (ts.take i) := List.map_take.symm
  rw [← e]
  exact hs
theorem shaped_dI (ns : List Int) : SeqAt.shaped (dI ns) = true := by
  have h1 : ∀ ns : List Int, PyData.canLayAll0 (ns.map PyData.int) = true := fun ns => by
    induction ns with
    | nil => rfl
    | cons n r ih => simp [PyData.canLayAll0, PyData.canLay0, ih]
  have h2 : ∀ ns : List Int, PyData.depthAll (ns.map PyData.int) = 0 := fun ns => by
    induction ns with
    | nil => rfl
    | cons n r ih => simp [PyData.depthAll, PyData.depth, ih]
  unfold SeqAt.shaped dI
  simp [PyData.canLay0, PyData.depth, h1, h2]
theorem eqv_dI_nil (ns : List Int) : PyData.eqv (dI ns) (dI []) = decide (ns = []) := by
  cases ns with
  | nil => simp [dI, PyData.eqv, PyData.eqvAll]
  | cons n r => simp [dI, PyData.eqv, PyData.eqvAll]
section
variable {K : PySem.W.Frag} {H : Hp} {e : Addr} {x y z : V} {d d' d'' : PyData} {b dep : Nat}
theorem dp_three (h : SqL K H e [x, y, z]) (hx : Dp K H x d) (hy : Dp K H y d') (hz : Dp K H z d'') : Dp K H (.ref e) (.list [d, d', d'']) := .lst h (.cons hx (.cons hy (.cons hz .nil)))
theorem sm_three (h : Sm b dep d) (h' : Sm b dep d') (h'' : Sm b dep d'') : Sm (3 * (b + 1)) (dep + 1) (.list [d, d', d'']) := Sm.list (fun z hz => by
  rcases List.mem_cons.mp hz with rfl | hz
  · exact h
  · rcases List.mem_cons.mp hz with rfl | hz
    · exact h'
    · rcases List.mem_cons.mp hz with rfl | hz
      · exact h''
      · cases hz) (Nat.le_refl _)
end
theorem refs_app {α : Type} (a b : List (Addr × α)) : refs (a ++ b) = refs a ++ refs b := List.map_append ..
theorem rowL_app (a b : List (Addr × List Int)) : rowL (a ++ b) = rowL a ++ rowL b := List.map_append ..
end UN

namespace UN
open PySem PySem.Spec PyProof.Rows L2
theorem lay_dI (ns : List Int) : (dI ns).canLay0 = true ∧ (dI ns).depth ≤ 1 := by
  have h := shaped_dI ns
  unfold SeqAt.shaped at h
  rw [Bool.and_eq_true] at h
  refine ⟨h.1, ?_⟩
  have h2 : ∀ ns : List Int, PyData.depthAll (ns.map PyData.int) = 0 := fun ns => by
    induction ns with
    | nil => rfl
    | cons n r ih => simp [PyData.depthAll, PyData.depth, ih]
  unfold dI
  simp only [PyData.depth, h2]
  omega
theorem shaped_dR (rs : List (List Int)) : SeqAt.shaped (dR rs) = true := by
  have h1 : ∀ ns : List (List Int), PyData.canLayAll0 (ns.map dI) = true := fun ns => by
    induction ns with
    | nil => rfl
    | cons n r ih => simp [PyData.canLayAll0, (lay_dI n).1, ih]
  have h2 : ∀ ns : List (List Int), PyData.depthAll (ns.map dI) ≤ 1 := fun ns => by
    induction ns with
    | nil => exact Nat.zero_le _
    | cons n r ih =>
      have := (lay_dI n).2
      simp only [List.map_cons, PyData.depthAll]
      omega
  unfold SeqAt.shaped dR
  have := h2 rs
  simp [PyData.canLay0, PyData.depth, h1]
  omega
theorem eqvAll_ints : ∀ a b : List Int, PyData.eqvAll (a.map PyData.int) (b.map PyData.int) = decide (a = b)
  | [], [] => by simp [PyData.eqvAll]
  | [], _ :: _ => by simp [PyData.eqvAll]
  | _ :: _, [] => by simp [PyData.eqvAll]
  | x :: a, y :: b => by
    have ih := eqvAll_ints a b
    have e : PyData.eqvAll ((x :: a).map PyData.int) ((y :: b).map PyData.int) = (PyData.eqv (.int x) (.int y) && PyData.eqvAll (a.map PyData.int) (b.map PyData.int)) := by simp [PyData.eqvAll]
    have e2 : PyData.eqv (.int x) (.int y) = decide (x = y) := by simp [PyData.eqv]; rfl
    rw [e, e2, ih]
    simp [List.cons.injEq]
theorem eqv_dI (a b : List Int) : PyData.eqv (dI a) (dI b) = decide (a = b) := by
  have : PyData.eqv (dI a) (dI b) = PyData.eqvAll (a.map PyData.int) (b.map PyData.int) := by simp [dI, PyData.eqv]
  rw [this, eqvAll_ints]
theorem eqvAll_rows : ∀ a b : List (List Int), PyData.eqvAll (a.map dI) (b.map dI) = decide (a = b)
  | [], [] => by simp [PyData.eqvAll]
  | [], _ :: _ => by simp [PyData.eqvAll]
  | _ :: _, [] => by simp [PyData.eqvAll]
  | x :: a, y :: b => by
    have ih := eqvAll_rows a b
    have e : PyData.eqvAll ((x :: a).map dI) ((y :: b).map dI) = (PyData.eqv (dI x) (dI y) && PyData.eqvAll (a.map dI) (b.map dI)) := by simp [PyData.eqvAll]
    rw [e, eqv_dI, ih]
    simp [List.cons.injEq]
theorem eqv_dR (a b : List (List Int)) : PyData.eqv (dR a) (dR b) = decide (a = b) := by
  have : PyData.eqv (dR a) (dR b) = PyData.eqvAll (a.map dI) (b.map dI) := by simp [dR, PyData.eqv]
  rw [this, eqvAll_rows]
theorem cut_from {xs : List V} {k : Nat} : cutV xs (some (k : Int)) none = xs.drop k := by
  have e1 : HT.sIx xs.length xs.length none = xs.length := rfl
  have e2 : HT.sIx xs.length 0 (some (k : Int)) = min k xs.length := HT.sIx_nat _ _ _
  unfold cutV
  rw [e1, e2]
  by_cases h : k ≤ xs.length
  · rw [Nat.min_eq_left h, List.take_of_length_le (by rw [List.length_drop]; omega)]
  · rw [Nat.min_eq_right (by omega), List.drop_of_length_le (Nat.le_refl _), List.drop_of_length_le (by omega), List.take_nil]
theorem cut_last {xs : List V} : cutV xs none (some (-1)) = xs.dropLast := by
  have e1 : HT.sIx xs.length 0 none = 0 := rfl
  have e2 : HT.sIx xs.length xs.length (some (-1)) = xs.length - 1 := by
    show (if (-1 : Int) < 0 then ((-1 : Int) + (xs.length : Int)).toNat else min (-1 : Int).toNat xs.length) = _
    rw [if_pos (by decide)]
    omega
  unfold cutV
  rw [e1, e2, List.drop_zero, Nat.sub_zero, List.dropLast_eq_take]
/-- three turned -/
def turn3 {α : Type} : List α → List α
  | [a, b, c] => [c, b, a]
  | l => l
theorem turn3_vals {zs : List V} {ws : List Value} (h : Vals zs ws) : Vals (turn3 zs) (turn3 ws) := by
  cases h with
  | nil => exact .nil
  | cons h1 h2 =>
    cases h2 with
    | nil => exact .cons h1 .nil
    | cons h3 h4 =>
      cases h4 with
      | nil => exact .cons h1 (.cons h3 .nil)
      | cons h5 h6 =>
        cases h6 with
        | nil => exact .cons h5 (.cons h3 (.cons h1 .nil))
        | cons h7 h8 => exact .cons h1 (.cons h3 (.cons h5 (.cons h7 h8)))
end UN

namespace UN
open PySem PySem.Spec PyProof.Rows L2
/-! sorted lists of tuples of ints (any number of ints, fewer than 64 tuples) -/
theorem perm_lift {α β : Type} (f : α → β) : ∀ {ks : List α} {l : List β}, l.Perm (ks.map f) → ∃ ks' : List α, ks'.Perm ks ∧ ks'.map f = l
  | [], l, h => ⟨[], List.Perm.refl _, by rw [List.map_nil] at h; rw [h.eq_nil]; rfl⟩
  | k :: ks, l, h => by
    have hm : f k ∈ l := h.mem_iff.mpr (by simp)
    obtain ⟨l1, l2, rfl⟩ := List.append_of_mem hm
    have h2 : (l1 ++ l2).Perm (ks.map f) := by
      have h3 : (f k :: (l1 ++ l2)).Perm (f k :: ks.map f) := (List.perm_middle.symm).trans h
      exact h3.cons_inv
    obtain ⟨ks', p, e⟩ := perm_lift f h2
    obtain ⟨a, b, rfl, e1, e2⟩ := List.map_eq_append_iff.mp e
    refine ⟨a ++ k :: b, List.perm_middle.trans (p.cons k), ?_⟩
    rw [List.map_append, List.map_cons, e1, e2]
def rSortedTL (K : PySem.W.Frag) : List V → Hp → VK → Prop := fun vs H Q => ∃ (a : Addr) (ks : List (Addr × List Int)) (d : Nat) (B : Int), vs = [V.ref a] ∧ SqL K H a (refs ks) ∧ (∀ p ∈ ks, SqT K H p.1 (iv p.2)) ∧ ks.length < 64 ∧ 1 ≤ d ∧ (∀ p ∈ ks, p.2.length = d ∧ TS.Bd B p.2) ∧
  ∀ (ks' : List (Addr × List Int)) (p : Addr), ks'.Perm ks → ks'.Pairwise (fun q r => TS.code B q.2 ≤ TS.code B r.2) → H p = none → Q (.ref p) (upd H p (.lst (refs ks')))
theorem vals_refs' {α : Type} : ∀ (ks : List (Addr × α)) {us : List Value}, Vals (refs ks) us → us = ks.map fun q => Value.ref q.1
  | [], _, h => by cases h; rfl
  | k :: r, _, h => by
    cases h with
    | cons h1 h2 =>
      cases h1
      rw [vals_refs' r h2]
      rfl
theorem refs_vals {α : Type} : ∀ ks : List (Addr × α), Vals (refs ks) (ks.map fun q => Value.ref q.1)
  | [] => .nil
  | _ :: r => .cons rfl (refs_vals r)
theorem cr_sortedTLK {X : Cx} (K : PySem.W.Frag) (hK : X.K = K) : CallR X (.builtin "sorted") (rSortedTL K) := by
  cases hK
  intro pins s σ H vs us Q J r h
  obtain ⟨a, ks, d, B, rfl, hs, hk, hf, hd, hB, q⟩ := h
  obtain ⟨its, rv, hl, hz⟩ := J.list hs
  obtain ⟨u, rfl, ru⟩ := vals1 r
  obtain rfl : u = Value.ref a := ru
  have e1 := vals_refs' ks rv
  subst e1
  have ti : ∀ p ∈ ks, TS.TupInts s.heap (.ref p.1) p.2 := fun p hp => tupInts_of (J.isT (hk p hp))
  refine TS.sorted_tups (d := d) (B := B) (vs := ks.map fun q => Value.ref q.1) hl.isList (by rw [List.length_map]; exact hf) hd (fun v hv => ?_) fun out h1 h2 => ?_
  · obtain ⟨p, hp, rfl⟩ := List.mem_map.mp hv
    exact ⟨p.2, ti p hp, (hB p hp).1, (hB p hp).2⟩
  · obtain ⟨ks', pm, e⟩ := perm_lift (fun q : Addr × List Int => Value.ref q.1) h1
    have pw : ks'.Pairwise (fun q r => TS.code B q.2 ≤ TS.code B r.2) := by
      rw [← e] at h2
      refine List.Pairwise.imp_of_mem (fun {x y} hx hy hle => ?_) (List.pairwise_map.mp h2)
      have f1 := (ti x (pm.mem_iff.mp hx)).ints
      have f2 := (ti y (pm.mem_iff.mp hy)).ints
      rw [← f1, ← f2]
      exact hle
    have hn : H (s.heap.objs.size + 1) = none := J.hok.fresh (Nat.le_succ _)
    have ho : out = (ks'.map fun q => Value.ref q.1).toArray := by rw [e]
    refine ⟨.ref (s.heap.objs.size + 1), upd H (s.heap.objs.size + 1) (.lst (refs ks')), J.laid (t' := s.toks) (fun b o e => sortedAll_old e) (Nat.le_succ _) ⟨?_, ks'.map fun q => Value.ref q.1, ?_⟩, rfl, q ks' _ pm pw hn⟩
    · rw [refs_len, pm.length_eq]
      exact Nat.le_of_lt (sl_line' (by omega))
    · obtain ⟨n, hn2⟩ := sortedAll_at s.heap (ks.map fun q => Value.ref q.1) out
      refine ⟨n, refs_vals ks', ?_⟩
      rw [← ho]
      exact hn2
/-- a comprehension over enumerate of a list that stays -/
theorem lc_enum {K : PySem.W.Frag} {a : Addr} {xs : List V} {g : TG} {tt : TT} {te : TE} {vs : List Nat} {σ : L2.St} {H1 : Hp} {D : Addr} {Qd : Hp → Prop} (Pv : Nat → Hp → Prop) (h0 : Pv 0 (upd H1 D (.lst []))) (hl : ∀ i H, Pv i H → SqL K H a xs)
    (hs : ∀ i x H T, xs[i]? = some x → Pv i H → H T = none → g (.ref T) (wipe σ vs) (upd H T (.tup [.int (i : Nat), x])) fun σ2 H2 => wipe σ2 vs = wipe σ vs ∧ tt σ2 H2 fun b H3 =>
      if b = true then te σ2 H3 fun y H4 => ∃ acc, H4 D = some (.lst acc) ∧ acc.length < sizeLine ∧ Pv (i + 1) (upd H4 D (.lst (acc ++ [y]))) else Pv (i + 1) H3) (hd : ∀ H, Pv xs.length H → Qd H) :
    ∃ W : Nat → Nat → Hp → Prop, (∃ m, W 0 m (upd H1 D (.lst []))) ∧ ∀ i m H, W i m H →
      ((Ite K a).stop i H ∧ Qd H) ∨ ((Ite K a).go i H ∧ ∃ Nx : Hp → Prop, (∀ H', Nx H' → ∃ m', m' < m ∧ W (i + 1) m' H') ∧ ∀ x H', (Ite K a).yld i H x H' → g x (wipe σ vs) H' fun σ2 H2 => wipe σ2 vs = wipe σ vs ∧ tt σ2 H2 fun b H3 =>
        if b = true then te σ2 H3 fun y H4 => ∃ acc, H4 D = some (.lst acc) ∧ acc.length < sizeLine ∧ Nx (upd H4 D (.lst (acc ++ [y]))) else Nx H3) := by
  refine lc_n xs.length Pv h0 (fun i H hi p => ?_) fun H p => ⟨⟨xs, hl _ _ p, Nat.le_refl _⟩, hd _ p⟩
  have q := hl _ _ p
  refine ⟨⟨xs, xs[i], q, by simp [hi]⟩, ?_⟩
  rintro x H' ⟨T, y, rfl, nT, rfl, f⟩
  exact hs i y H T (f xs q) p nT
end UN

namespace UN
open PySem PySem.Spec PyProof.Rows L2
/-! sum of a list of lists, from an empty list -/
theorem args_sum2U (a b : Value) : argsOk "sum" ⟨[a, b], []⟩ := by unfold argsOk; kernel_rfl
theorem sub_lsU : isSubtype (.type "list") (.type "str") = pure false := by rw [isSubtype_type]; kernel_rfl
theorem sub_lbU : isSubtype (.type "list") (.type "bytes") = pure false := by rw [isSubtype_type]; kernel_rfl
theorem sub_lyU : isSubtype (.type "list") (.type "bytearray") = pure false := by rw [isSubtype_type]; kernel_rfl
def flatK {α : Type} (rv : Nat → List α) (i : Nat) : Nat → List α
  | 0 => []
  | k + 1 => rv i ++ flatK rv (i + 1) k
section
variable {prog : Program} {w : World} {A : Around} {R : Result → Shared → Prop} {I ax S : Addr} {items : Array Value}
theorem sum_loopL (hh : A.in1.handled = none) (hne : ax ≠ I) (ra : Nat → Addr) (rv : Nat → List Value) (hval : ∀ (i : Nat) (v : Value), items[i]? = some v → v = .ref (ra i)) (hSI : S ≠ I) (hSa : S ≠ ax) :
    ∀ (k i : Nat) (s : Shared) (T : Addr) (cur : List Value) (m c : Nat), items.size - i = k → i ≤ items.size → s.heap.IsListIter I ax i → s.heap.IsList ax items →
      s.heap.get? S = some { cls := .type "list", dict := none, data := .seq #[.ref T] c, slots := #[] } →
      s.heap.get? T = some { cls := .type "list", data := .seq cur.toArray m } → T ≠ I → T ≠ S →
      (∀ j, i ≤ j → j < items.size → ra j ≠ I ∧ ra j ≠ S ∧ ∃ m, s.heap.get? (ra j) = some { cls := .type "list", data := .seq (rv j).toArray m }) →
      cur.length + (flatK rv i k).length ≤ sizeLine →
      (∀ h' tk T' m', (∀ b o, b ≠ I → b ≠ S → s.heap.get? b = some o → h'.get? b = some o) → T' ≠ I → T' ≠ S → ((i = items.size ∧ T' = T) ∨ (i < items.size ∧ s.heap.get? T' = none)) →
        h'.get? T' = some { cls := .type "list", data := .seq (cur ++ flatK rv i k).toArray m' } → R (.ok (.ret (.ref T'))) { s with heap := h', toks := tk }) →
      codeAny (model prog w) A (.builtin "sum.loop" ⟨[.ref I, .ref S, rawInt 2, rawInt 0], []⟩) R s := by
  have W := Walks.list (prog := prog) (w := w) (A := A.in1) hh I ax hne items
  intro k
  induction k with
  | zero =>
    intro i s T cur m c hk hi hit hax hS hT hTI hTS hrow hz hR
    have hin : i = items.size := by omega
    subst hin
    refine codeAny_builtin F.entry_sum_loop ?_
    rw [Around.under_plainId F.plain_sum_loop _]
    show wpAny _ A.in1 (seqItems? (.ref S) >>= _) _ _ s
    refine wpAny_bind (wpAny_seqItems hS rfl ?_)
    show wpAny _ A.in1 (tryCatch (pyNext (.ref I)) _ >>= _) _ _ s
    refine wpAny_bind (wpAny_tryCatch (W.done s _ _ ⟨hit, hax⟩ fun h' tk hk' => ?_))
    refine wpAny_pure (hR h' tk T m (fun b o hb1 _ e => hk' b o (by simp [hb1]) e) hTI hTS (.inl ⟨rfl, rfl⟩) ?_)
    have e := hk' T _ (by simp [hTI]) hT
    simpa [flatK] using e
  | succ k ih =>
    intro i s T cur m c hk hi hit hax hS hT hTI hTS hrow hz hR
    have hlt : i < items.size := by omega
    refine codeAny_builtin F.entry_sum_loop ?_
    rw [Around.under_plainId F.plain_sum_loop _]
    show wpAny _ A.in1 (seqItems? (.ref S) >>= _) _ _ s
    refine wpAny_bind (wpAny_seqItems hS rfl ?_)
    show wpAny _ A.in1 (tryCatch (pyNext (.ref I)) _ >>= _) _ _ s
    refine wpAny_bind (wpAny_tryCatch (W.item i s _ _ hlt ⟨hit, hax⟩ fun v h' tk hP hst' hk' => ?_))
    have ev := hval i v hP
    subst ev
    obtain ⟨hrI, hrS, m2, hr⟩ := hrow i (Nat.le_refl _) hlt
    have kept : ∀ b o, b ≠ I → s.heap.get? b = some o → h'.get? b = some o := fun b o hb e => hk' b o (by simp [hb]) e
    have hS' := kept S _ hSI hS
    have hT' := kept T _ hTI hT
    have hr' := kept (ra i) _ hrI hr
    simp only [flatK, List.length_append] at hz
    show wpAny _ A.in1 ((holding [Value.ref (ra i)] (binaryOp .Add (.ref T) (.ref (ra i)))).attempt >>= _) _ _ _
    refine wpAny_bind (wpAny_attempt (wpAny_holding (PySem.P.add_list hT' hr' ?_ (by rw [List.size_toArray, List.size_toArray]; omega))))
    have np : h'.get? h'.objs.size = none := by
      cases q : h'.get? h'.objs.size with
      | none => rfl
      | some o => exact absurd (Heap.lt_size q) (Nat.lt_irrefl _)
    obtain ⟨hit', hax'⟩ := hst'
    have npI : h'.objs.size ≠ I := fun e => by
      obtain ⟨o, ho, _⟩ := hit'
      rw [← e, np] at ho
      cases ho
    have npS : h'.objs.size ≠ S := fun e => by rw [← e, np] at hS'; cases hS'
    have hS1 := Heap.get?_push_of_some { cls := .type "list", data := .seq (cur.toArray ++ (rv i).toArray) } hS'
    show wpAny _ A.in1 (updateSeq S (fun _ => #[.ref h'.objs.size]) >>= _) _ _ _
    refine wpAny_bind ?_
    refine wpAny_updateSeq hS1 rfl ?_
    have hS2 := Heap.get?_update_self (Obj.mapSeq fun _ => #[Value.ref h'.objs.size]) hS1 rfl
    refine wpAny_bind (wpAny_letGo ?_)
    refine wpAny_bind ?_
    refine wpAny_updateSeq hS2 rfl (wpAny_pure ⟨plainId_quiet F.plain_sum_loop _, ?_⟩)
    have up : ∀ b o, b ≠ S → h'.get? b = some o → (((h'.push { cls := .type "list", data := .seq (cur.toArray ++ (rv i).toArray) }).update S (Obj.mapSeq fun _ => #[Value.ref h'.objs.size])).update S (Obj.mapSeq fun _ => #[Value.ref h'.objs.size])).get? b = some o := fun b o hb e =>
      (Heap.get?_update_other _ _ (Ne.symm hb)).trans ((Heap.get?_update_other _ _ (Ne.symm hb)).trans (Heap.get?_push_of_some _ e))
    refine ih (i + 1) _ h'.objs.size (cur ++ rv i) 0 _ (by omega) hlt ?_ ?_ (Heap.get?_update_self _ hS2 rfl) ?_ npI npS ?_ ?_ ?_
    · exact hit'.at fun o e => up I o hSI.symm e
    · exact hax'.at fun o e => up ax o hSa.symm e
    · refine ((Heap.get?_update_other _ _ (Ne.symm npS)).trans ((Heap.get?_update_other _ _ (Ne.symm npS)).trans (Heap.get?_push_size _ rfl))).trans ?_
      simp
    · intro j hj hj2
      obtain ⟨a1, a2, m3, a3⟩ := hrow j (by omega) hj2
      exact ⟨a1, a2, m3, up _ _ a2 (kept _ _ a1 a3)⟩
    · rw [List.length_append]; omega
    · intro h'' tk'' T' m' hk'' tI tS hfr hg
      refine hR h'' tk'' T' m' (fun b o hb1 hb2 e => hk'' b o hb1 hb2 (up b o hb2 (kept b o hb1 e))) tI tS (.inr ⟨hlt, ?_⟩) (by simpa [flatK] using hg)
      cases q : s.heap.get? T' with
      | none => rfl
      | some o =>
        have q1 := kept T' o tI q
        have q2 := up T' o tS q1
        rcases hfr with ⟨_, e⟩ | ⟨_, e⟩
        · rw [e, np] at q1; cases q1
        · rw [e] at q2; cases q2
end
section
variable {prog : Program} {w : World} {A : Around} {E : Value → Shared → Prop} {s : Shared} {l e : Addr} {items : Array Value}
theorem call_sumL {Q : Value → Shared → Prop} {m0 : Nat} (hh : A.handled = none) (hl : s.heap.IsList l items) (he : s.heap.get? e = some { cls := .type "list", data := .seq #[] m0 })
    (ra : Nat → Addr) (rv : Nat → List Value) (hval : ∀ (i : Nat) (v : Value), items[i]? = some v → v = .ref (ra i)) (hrow : ∀ j, j < items.size → ∃ m, s.heap.get? (ra j) = some { cls := .type "list", data := .seq (rv j).toArray m })
    (hz : (flatK rv 0 items.size).length ≤ sizeLine)
    (h : ∀ h' tk T' m', (∀ b o, s.heap.get? b = some o → h'.get? b = some o) → ((items.size = 0 ∧ T' = e) ∨ (0 < items.size ∧ s.heap.get? T' = none)) →
      h'.get? T' = some { cls := .type "list", data := .seq (flatK rv 0 items.size).toArray m' } → Q (.ref T') { s with heap := h', toks := tk }) :
    wpAny (model prog w) A (call (.builtin "sum") [.ref l, .ref e]) Q E s := by
  refine call_function_tree F.kind_sum F.plain_sum F.entry_sum (args_sum2U _ _) ?_
  unfold Builtin.«sum»
  simp only [List.length_cons, List.length_nil]
  rw [if_neg (by decide)]
  refine wpAny_bind (wpAny_of_eq (show Builtin.Builtins.bindParams "sum" ["start"] 0 ⟨[.ref e], []⟩ = pure [some (.ref e)] from rfl) ?_)
  have hlt : l < s.heap.objs.size := by obtain ⟨_, q, _⟩ := hl; exact Heap.lt_size q
  have elt : e < s.heap.objs.size := Heap.lt_size he
  refine wpAny_bind (wpAny_pyIter_list hl ?_)
  refine wpAny_bind (wpAny_pure ?_)
  simp only [List.forIn_cons, List.forIn_nil]
  have he1 := Heap.get?_push_of_some { cls := .type "list_iterator", data := .fields #[.ref l, .int 0 0] } he
  have ty : ({ s with heap := s.heap.push { cls := .type "list_iterator", data := .fields #[.ref l, .int 0 0] } } : Shared).TypeIs (.ref e) "list" := ⟨_, he1, rfl⟩
  refine wpAny_bind (wpAny_bind (wpAny_bind (wpAny_isInstance (T := "list") (b := false) ty sub_lsU ?_)))
  simp only [Bool.false_eq_true, if_false]
  refine wpAny_pure (wpAny_bind (wpAny_bind (wpAny_isInstance (T := "list") (b := false) ty sub_lbU ?_)))
  simp only [Bool.false_eq_true, if_false]
  refine wpAny_pure (wpAny_bind (wpAny_bind (wpAny_isInstance (T := "list") (b := false) ty sub_lyU ?_)))
  simp only [Bool.false_eq_true, if_false]
  refine wpAny_pure (wpAny_pure ?_)
  refine wpAny_bind (wpAny_newObj_type ?_)
  have sz : (s.heap.push { cls := .type "list_iterator", data := .fields #[.ref l, .int 0 0] }).objs.size = s.heap.objs.size + 1 := Heap.size_push ..
  have up : ∀ b o, s.heap.get? b = some o → ((s.heap.push { cls := .type "list_iterator", data := .fields #[.ref l, .int 0 0] }).push { cls := .type "list", data := .seq #[.ref e] }).get? b = some o := fun b o q => Heap.get?_push_of_some _ (Heap.get?_push_of_some _ q)
  have nI : s.heap.get? s.heap.objs.size = none := by
    cases q : s.heap.get? s.heap.objs.size with
    | none => rfl
    | some o => exact absurd (Heap.lt_size q) (Nat.lt_irrefl _)
  have nS : s.heap.get? (s.heap.push { cls := .type "list_iterator", data := .fields #[.ref l, .int 0 0] }).objs.size = none := by
    cases q : s.heap.get? (s.heap.push { cls := .type "list_iterator", data := .fields #[.ref l, .int 0 0] }).objs.size with
    | none => rfl
    | some o => exact absurd (Nat.lt_of_lt_of_le (Nat.lt_succ_self _) (Nat.le_of_lt (sz ▸ Heap.lt_size q))) (Nat.lt_irrefl _)
  have neI : ∀ b o, s.heap.get? b = some o → b ≠ s.heap.objs.size := fun b o q z => by rw [z, nI] at q; cases q
  have neS : ∀ b o, s.heap.get? b = some o → b ≠ (s.heap.push { cls := .type "list_iterator", data := .fields #[.ref l, .int 0 0] }).objs.size := fun b o q z => by rw [z, nS] at q; cases q
  refine wpAny_pure ⟨plainId_quiet F.plain_sum_loop _, sum_loopL (I := s.heap.objs.size) (ax := l) (items := items) hh (Nat.ne_of_lt hlt) ra rv hval (fun z => Nat.succ_ne_self _ (sz.symm.trans z)) (fun z => by obtain ⟨_, q, _⟩ := hl; exact neS _ _ q z.symm) items.size 0 _ e [] m0 0 rfl (Nat.zero_le _)
    ⟨_, Heap.get?_push_of_some _ (Heap.get?_push_size _ rfl), rfl, rfl⟩ ?_ (Heap.get?_push_size _ rfl) (up e _ he) (neI e _ he) (neS e _ he) ?_ (by simpa using hz) ?_⟩
  · exact hl.at fun o q => up l o q
  · intro j _ hj
    obtain ⟨m, q⟩ := hrow j hj
    exact ⟨neI _ _ q, neS _ _ q, m, up _ _ q⟩
  · intro h' tk T' m' hk tI tS hfr hg
    refine h h' tk T' m' (fun b o q => hk b o (neI b o q) (neS b o q) (up b o q)) ?_ (by simpa using hg)
    rcases hfr with ⟨a, b⟩ | ⟨a, b⟩
    · exact .inl ⟨a.symm, b⟩
    · refine .inr ⟨a, ?_⟩
      cases q : s.heap.get? T' with
      | none => rfl
      | some o => rw [up T' o q] at b; cases b
end
theorem flatK_eq {α : Type} (rs : List (List α)) : ∀ (i : Nat) (k : Nat), i + k = rs.length → flatK (fun j => rs.getD j []) i k = (rs.drop i).flatten
  | i, 0, h => by rw [List.drop_of_length_le (by omega)]; rfl
  | i, k + 1, h => by
    have hi : i < rs.length := by omega
    rw [List.drop_eq_getElem_cons hi, List.flatten_cons]
    show rs.getD i [] ++ flatK _ (i + 1) k = _
    rw [flatK_eq rs (i + 1) k (by omega)]
    simp [List.getD_eq_getElem?_getD, List.getElem?_eq_getElem hi]
/-- sum(rows, []): the rows' own lists stand in the heap -/
def rSumL (K : PySem.W.Frag) : List V → Hp → VK → Prop := fun vs H Q => ∃ (a e : Addr) (rs : List (Addr × List V)), vs = [.ref a, .ref e] ∧ SqL K H a (refs rs) ∧ (∀ r ∈ rs, H r.1 = some (.lst r.2)) ∧ H e = some (.lst []) ∧ (vals rs).flatten.length ≤ sizeLine ∧
  (rs = [] → Q (.ref e) H) ∧ (rs ≠ [] → ∀ p, H p = none → Q (.ref p) (upd H p (.lst (vals rs).flatten)))
theorem cr_sumLK {X : Cx} (K : PySem.W.Frag) (hK : X.K = K) (hc : X.calm = true) : CallR X (.builtin "sum") (rSumL K) := by
  cases hK
  intro pins s σ H vs us Q J r h
  obtain ⟨a, e, rs, rfl, hs, hr, he, hz, q0, q1⟩ := h
  obtain ⟨its, rv, hl, hlen⟩ := J.list hs
  obtain rfl : us = [.ref a, .ref e] := by
    cases r with
    | cons h1 h2 =>
      cases h1
      cases h2 with
      | cons h3 h4 => cases h3; cases h4; rfl
  have e1 := vals_refs' rs rv
  subst e1
  obtain ⟨_, ite, ne, re, eln, ge⟩ := J.lstM he
  obtain rfl : ite = [] := List.eq_nil_of_length_eq_zero (by rw [← eln]; rfl)
  have rows : ∀ r ∈ rs, ∃ (its : List Value) (n : Nat), Vals r.2 its ∧ s.heap.get? r.1 = some { cls := .type "list", data := .seq its.toArray n } := fun r hr' => by
    obtain ⟨_, its, n, h1, _, h2⟩ := J.lstM (hr r hr')
    exact ⟨its, n, h1, h2⟩
  -- the rows' values, one by one
  have ch : ∃ vv : List (List Value), vv.length = rs.length ∧ ∀ (j : Nat) (q : Addr × List V), rs[j]? = some q → ∃ (its : List Value) (n : Nat), vv[j]? = some its ∧ Vals q.2 its ∧ s.heap.get? q.1 = some { cls := .type "list", data := .seq its.toArray n } := by
    clear hs hl rv hz q0 q1 hlen
    induction rs with
    | nil => exact ⟨[], rfl, fun j q h => by simp at h⟩
    | cons r t ih =>
      obtain ⟨vv, h1, h2⟩ := ih (fun x hx => hr x (List.mem_cons_of_mem _ hx)) (fun x hx => rows x (List.mem_cons_of_mem _ hx))
      obtain ⟨its, n, g1, g2⟩ := rows r List.mem_cons_self
      refine ⟨its :: vv, by simp [h1], fun j q hj => ?_⟩
      cases j with
      | zero => cases hj; exact ⟨its, n, rfl, g1, g2⟩
      | succ j => exact h2 j q hj
  obtain ⟨vv, vl, vq⟩ := ch
  have fl : Vals (vals rs).flatten vv.flatten := by
    clear hs hl rv hz q0 q1 hlen hr rows
    induction rs generalizing vv with
    | nil => cases vv with
      | nil => exact .nil
      | cons x y => cases vl
    | cons r t ih =>
      cases vv with
      | nil => cases vl
      | cons x y =>
        obtain ⟨its, n, a1, a2, _⟩ := vq 0 r rfl
        cases a1
        exact a2.append (ih y (by simpa using vl) fun j q hj => vq (j + 1) q hj)
  have isz : ((rs.map fun q => Value.ref q.1).toArray).size = rs.length := by simp
  have fK : flatK (fun j => vv.getD j []) 0 ((rs.map fun q => Value.ref q.1).toArray).size = vv.flatten := by
    rw [isz, flatK_eq vv 0 rs.length (by omega)]; rfl
  refine call_sumL (J.ok.hd hc) hl.isList ge (fun j => (rs.getD j (0, [])).1) (fun j => vv.getD j []) (fun i v hv => ?_) (fun j hj => ?_) (by rw [fK, ← fl.length]; exact hz) fun h' tk T' m' hk hfr hg => ?_
  · simp only [List.getElem?_toArray, List.getElem?_map, Option.map_eq_some_iff] at hv
    obtain ⟨q, hq, rfl⟩ := hv
    simp [List.getD_eq_getElem?_getD, hq]
  · rw [isz] at hj
    obtain ⟨its, n, b1, _, b2⟩ := vq j _ (List.getElem?_eq_getElem hj)
    refine ⟨n, ?_⟩
    simp only [List.getD_eq_getElem?_getD, List.getElem?_eq_getElem hj, b1, Option.getD_some]
    exact b2
  · rw [isz] at hfr
    rw [fK] at hg
    rcases hfr with ⟨z, rfl⟩ | ⟨z, hn⟩
    · obtain rfl : rs = [] := List.eq_nil_of_length_eq_zero z
      exact ⟨.ref _, H, J.kept (t' := tk) hk, rfl, q0 rfl⟩
    · have hn2 : H T' = none := J.hok.gone hn
      refine ⟨.ref T', upd H T' (.lst (vals rs).flatten), J.laidN (t' := tk) hk hn hn2 ⟨hz, vv.flatten, m', fl, hg⟩, rfl, q1 (fun e => by subst e; cases z) T' hn2⟩
theorem pi_zipK {X : Cx} (K : PySem.W.Frag) (hK : X.K = K) {e e2 : Expr} {ta : TA} {p pos tpos : Pos} {elts : List Expr} {kk : Nat} (hg : Gl X "zip") (hm : X.mg "zip" = none) (ha : PA X [e, e2] ta)
    (hs : starEach [e, e2] X.env = (false, eval e X.env) :: starEach [e2] X.env := by rfl) (hpl : (backTo pos (starEach [e2] X.env)).any (·.1) = false := by rfl) :
    PI X (.Tuple elts kk tpos) (.Call (.Name "zip" p) [e, e2] [] pos) (iZip K ta) := hK ▸ pi_zip hg hm ha hs hpl
theorem mt_indexDK {X : Cx} (K : PySem.W.Frag) (hK : X.K = K) (hu : X.A.units + 65 < cLine) : MtR X "list.index" (rIndexD K) := hK ▸ mt_indexD hu
theorem pe_lenSetIK {X : Cx} (K : PySem.W.Frag) (hK : X.K = K) {a : Expr} {ta : TE} {p p2 q pos : Pos} (hc : X.calm = true) (hg : Gl X "len") (hm : X.mg "len" = none) (hg2 : Gl X "set") (hm2 : X.mg "set" = none) (ha : PE X a ta)
    (na : starEach [a] X.env = (false, eval a X.env) :: starEach [] X.env := by rfl) : PE X (.Call (.Name "len" p) [.Call (.Name "set" p2) [a] [] q] [] pos) (tLenSetI K ta) := hK ▸ pe_lenSetI hc hg hm hg2 hm2 ha na
/-- what stood stands beside a new object -/
theorem sA {H : Hp} {p : Addr} {o : HO} (hp : H p = none) : Same H (upd H p o) := ((Loc.refl H).alloc hp).same
end UN

namespace UN
open PySem PySem.Spec PyProof.Rows L2
/-! own classes: objects made, their properties, signs, methods, classmethods; promises that ask no guards -/
/-- a def at an address, how it binds what is handed to it -/
structure FnG (P : Program) (w : World) (K : PySem.W.Frag) (mg : Str → Option Value) (base : Heap) (k : Nat) (f : Addr) (ps : List Str) (sp : Sp) : Prop where
  ex : ∃ fd : FuncData, FG P w K mg base CX0 k f fd ps sp ∧ ∀ (s : Shared) (us : List Value), us.length = ps.length → BindsTo s fd ⟨us, []⟩ (ps.zip us)
/-- .. with keywords behind pre positional ones -/
structure FnGK (P : Program) (w : World) (K : PySem.W.Frag) (mg : Str → Option Value) (base : Heap) (k : Nat) (f : Addr) (ps : List Str) (pre : Nat) (ks : List Str) (g : List Value → List Value) (gV : List V → List V) (sp : Sp) : Prop where
  ex : ∃ fd : FuncData, FG P w K mg base CX0 k f fd ps sp ∧ ∀ (s : Shared) (us ws : List Value), us.length = pre → ws.length = ks.length → BindsTo s fd ⟨us, ks.zip ws⟩ (ps.zip (us ++ g ws))
  vals : ∀ {zs : List V} {ws : List Value}, Vals zs ws → Vals (gV zs) (g ws)
section
variable {P : Program} {w : World} {K : PySem.W.Frag} {mg : Str → Option Value} {base : Heap} {j k : Nat} {f : Addr} {ps ks : List Str} {sp : Sp}
theorem FnG.mono (F : FnG P w K mg base j f ps sp) (h : j ≤ k) : FnG P w K mg base k f ps sp := by
  obtain ⟨fd, F1, b⟩ := F.ex
  exact ⟨⟨fd, F1.mono h, b⟩⟩
theorem FnGK.mono {pre : Nat} {g : List Value → List Value} {gV : List V → List V} (F : FnGK P w K mg base j f ps pre ks g gV sp) (h : j ≤ k) : FnGK P w K mg base k f ps pre ks g gV sp := by
  obtain ⟨fd, F1, b⟩ := F.ex
  exact ⟨⟨fd, F1.mono h, b⟩, F.vals⟩
end
section
variable {X : Cx} {pins : List (Addr × Obj)} {σ : L2.St} {H : Hp} {s : Shared} {Q : VK} {k : Nat} {f C : Addr} {fd : FuncData} {ps ks : List Str} {sp : Sp} {us : List Value} {vs : List V}
/-- the callee runs below a running body -/
theorem run_FG {A : Around} {a : Args} (F : FG X.prog X.w X.K X.mg X.base CX0 k f fd ps sp) (hr : Room k A) (hg : A.guards = some []) (e0 : Env0 X.prog X.w X.K X.mg X.base A X.stack s H) (J : Inv X pins σ H s)
    (hb : BindsTo s fd a (ps.zip us)) (r : Vals vs us) (h : sp vs H Q E0) :
    codeAny (model X.prog X.w) A (.call (.ref f) a) (fun r s' => match r with | .ok (.ret u) => EP X pins σ Q u s' | .ok _ => False | .error e => X.xe e s') s :=
  codeAny_mono (F.go A X.stack s H a us vs Q E0 hr hg e0 hb r h) (fg_end J)
theorem run_FnG {A : Around} (F : FnG X.prog X.w X.K X.mg X.base k f ps sp) (hr : Room k A) (hg : A.guards = some []) (e0 : Env0 X.prog X.w X.K X.mg X.base A X.stack s H) (J : Inv X pins σ H s) (r : Vals vs us) (h : sp vs H Q E0) :
    codeAny (model X.prog X.w) A (.call (.ref f) ⟨us, []⟩) (fun r s' => match r with | .ok (.ret u) => EP X pins σ Q u s' | .ok _ => False | .error e => X.xe e s') s := by
  obtain ⟨fd, F1, b⟩ := F.ex
  exact run_FG F1 hr hg e0 J (b s us (by rw [← r.length]; exact F1.many _ _ _ _ h)) r h
theorem call_FnG {A : Around} (F : FnG X.prog X.w X.K X.mg X.base k f ps sp) (hr : Room k A) (hg : A.guards = some []) (e0 : Env0 X.prog X.w X.K X.mg X.base A X.stack s H) (J : Inv X pins σ H s) (r : Vals vs us) (h : sp vs H Q E0) :
    wpAny (model X.prog X.w) A (call (.ref f) us) (EP X pins σ Q) X.xe s := wpAny_call (run_FnG F hr hg e0 J r h)
theorem guards_in1 {A : Around} (h : A.guards = some []) : A.in1.guards = some [] := h
theorem guards_make {A : Around} {C : Addr} {us : List Value} {kw : List (Str × Value)} (h : A.guards = some []) : (A.under (.builtin "type.__call__" ⟨.ref C :: us, kw⟩)).guards = some [] := by
  have e : Code.isGuard (.builtin "type.__call__" ⟨.ref C :: us, kw⟩) = false := by rfl
  simp [Around.under, h, Code.guards, pushGuards, e]
end

theorem valsR {a : Addr} {vs : List V} {us : List Value} (h : Vals vs us) : Vals (.ref a :: vs) (.ref a :: us) := .cons rfl h
section
variable {X : Cx} {pins : List (Addr × Obj)} {σ : L2.St} {H : Hp} {s : Shared} {Q : VK} {k : Nat} {f C p g a b dx : Addr} {fd : FuncData} {ps ks : List Str} {sp : Sp} {us ws : List Value} {vs zs : List V} {fs : List (Str × V)} {x m : Str} {e o : Expr} {es : List Expr} {ta : TE} {t : TA} {pos apos np : Pos} {mc : Value}
theorem make_end (J : Inv X pins σ (upd (upd H s.heap.objs.size (.own (s.heap.objs.size + 1))) (s.heap.objs.size + 1) (.ins C s.heap.objs.size [])) { s with heap := (s.heap.push PySem.W.emptyDict).push (PySem.W.instObj C s.heap.objs.size) })
    {us ws : List Value} {kw : List (Str × Value)} (F : FG X.prog X.w X.K X.mg X.base CX0 k f fd ps sp) (hr : Room (k + 1) X.A) (hg : X.A.guards = some []) (M : Mk X.K C f) (kin : X.K.In s.heap)
    (hb : BindsTo { s with heap := (s.heap.push PySem.W.emptyDict).push (PySem.W.instObj C s.heap.objs.size) } fd ⟨.ref (s.heap.objs.size + 1) :: us, kw⟩ (ps.zip (.ref (s.heap.objs.size + 1) :: ws))) (r : Vals vs ws)
    (h : sp (.ref (s.heap.objs.size + 1) :: vs) (upd (upd H s.heap.objs.size (.own (s.heap.objs.size + 1))) (s.heap.objs.size + 1) (.ins C s.heap.objs.size [])) (fun v H2 => v = .non ∧ Q (.ref (s.heap.objs.size + 1)) H2) E0) :
    wpAny (model X.prog X.w) X.A (call (.ref C) us kw) (EP X pins σ Q) X.xe s := by
  refine wpAny_call (make_map (f := f) kin M.makes M.init (beq_iff_eq.mp M.fn) (codeAny_mono (run_FG F (hr.make C us kw) (guards_make hg) (J.env0.make C us kw) J hb (valsR r) h) fun r s' hq' => ?_))
  cases r with
  | error e => exact hq'
  | ok fl =>
    cases fl with
    | ret u =>
      obtain ⟨v, H', I3, rv, ev, q3⟩ := hq'
      subst ev
      exact ⟨rv, ⟨V.ref (s.heap.objs.size + 1), H', I3, rfl, q3⟩⟩
    | next => exact False.elim hq'
    | brk => exact False.elim hq'
    | cont => exact False.elim hq'
def spMake (C : Addr) (sp : Sp) (vs : List V) (H1 : Hp) (Q : VK) : Prop := ∀ x dx, H1 x = none → H1 dx = none → dx ≠ x → sp (.ref x :: vs) (upd (upd H1 dx (.own x)) x (.ins C dx [])) (fun v H2 => v = .non ∧ Q (.ref x) H2) E0
theorem spMake.use (I : Inv X pins σ H s) (h : spMake C sp vs H Q) : sp (.ref (s.heap.objs.size + 1) :: vs) (upd (upd H s.heap.objs.size (.own (s.heap.objs.size + 1))) (s.heap.objs.size + 1) (.ins C s.heap.objs.size [])) (fun v H2 => v = .non ∧ Q (.ref (s.heap.objs.size + 1)) H2) E0 :=
  h (s.heap.objs.size + 1) s.heap.objs.size (I.hok.fresh (Nat.le_succ _)) (I.hok.fresh (Nat.le_refl _)) (Nat.ne_of_lt (Nat.lt_succ_self _))
theorem run_makeG (M : Mk X.K C f) (F : FnG X.prog X.w X.K X.mg X.base k f ps sp) (hr : Room (k + 1) X.A) (hg : X.A.guards = some []) (I : Inv X pins σ H s) (r : Vals vs us) (h : spMake C sp vs H Q) :
    wpAny (model X.prog X.w) X.A (call (.ref C) us) (EP X pins σ Q) X.xe s := by
  obtain ⟨fd, F1, b⟩ := F.ex
  have hq := h.use I
  refine make_end (Inv.made (C := C) I) F1 hr hg M I.kIn (b _ _ ?_) r hq
  have := F1.many _ _ _ _ hq
  rw [List.length_cons] at this ⊢
  rw [← this, r.length]
theorem run_makeGK {gg : List Value → List Value} {gV : List V → List V} (M : Mk X.K C f) (F : FnGK X.prog X.w X.K X.mg X.base k f ps 1 ks gg gV sp) (hr : Room (k + 1) X.A) (hg : X.A.guards = some []) (I : Inv X pins σ H s) (r : Vals zs ws) (hl : zs.length = ks.length) (h : spMake C sp (gV zs) H Q) :
    wpAny (model X.prog X.w) X.A (call (.ref C) [] (ks.zip ws)) (EP X pins σ Q) X.xe s := by
  obtain ⟨fd, F1, b⟩ := F.ex
  have hq := h.use I
  exact make_end (Inv.made (C := C) I) F1 hr hg M I.kIn (b _ [_] ws rfl (by rw [← r.length]; exact hl)) (F.vals r) hq
def tMakeG (C : Addr) (sp : Sp) (t : TA) : TE := fun σ H Q => t σ H fun vs H1 => spMake C sp vs H1 Q
def tMakeGK (C : Addr) (n : Nat) (gV : List V → List V) (sp : Sp) (t : TA) : TE := fun σ H Q => t σ H fun zs H1 => zs.length = n ∧ spMake C sp (gV zs) H1 Q
/-- C(e, ..) -/
theorem pe_makeG (M : Mk X.K C f) (F : FnG X.prog X.w X.K X.mg X.base k f ps sp) {j : Nat} (hr : Room j X.A) (hk : k + 1 ≤ j) (hg : X.A.guards = some []) (gl : Gl X x) (hm : X.mg x = some (.ref C)) (ha : PA X (e :: es) t)
    (hdb : (x == ("__debug__" : Str)) = false := by decide) (he : starEach (e :: es) X.env = (false, eval e X.env) :: starEach es X.env := by rfl) (hpl : (backTo pos (starEach es X.env)).any (·.1) = false := by rfl) :
    PE X (.Call (.Name x np) (e :: es) [] pos) (tMakeG C sp t) := by
  refine ⟨fun pins s σ H Q I h => ?_⟩
  refine wpAny_Call_Name_kw (ld_glob I gl hm ?_ hdb)
  refine PySem.W.callWith_K (h₀ := X.base) I.ok.mod.kin M.kp (thn (ha.run pos pins s σ H _ I h) fun us s1 ⟨vs, H1, I1, r, q⟩ => ⟨I1.kIn, ?_⟩) he hpl
  exact run_makeG M F (hr.mono hk) hg I1 r q
/-- C(k = e, ..) -/
theorem pe_makeGK {kws : List Keyword} {gg : List Value → List Value} {gV : List V → List V} (M : Mk X.K C f) (F : FnGK X.prog X.w X.K X.mg X.base k f ps 1 ks gg gV sp) {j : Nat} (hr : Room j X.A) (hk : k + 1 ≤ j) (hg : X.A.guards = some []) (gl : Gl X x) (hm : X.mg x = some (.ref C))
    (hkw : PK X kws t) (hall : (backToKw pos (keywordEach kws X.env)).all (·.1.isSome) = true := by rfl) (hks : (backToKw pos (keywordEach kws X.env)).filterMap (·.1) = ks := by rfl)
    (hdb : (x == ("__debug__" : Str)) = false := by decide) (hpl : ((backTo pos (starEach [] X.env)).any (·.1) || (backToKw pos (keywordEach kws X.env)).any (·.1.isNone)) = false := by rfl) :
    PE X (.Call (.Name x np) [] kws pos) (tMakeGK C ks.length gV sp t) := by
  refine ⟨fun pins s σ H Q I h => ?_⟩
  refine wpAny_Call_Name_kw (ld_glob I gl hm ?_ hdb)
  refine PySem.W.callWith_KW0 (h₀ := X.base) I.ok.mod.kin M.kp hall (thn (hkw.run pos pins s σ H _ I h) fun ws s1 ⟨zs, H1, I1, r, ln, q⟩ => ⟨I1.kIn, ?_⟩) hpl
  rw [hks]
  exact run_makeGK M F (hr.mono hk) hg I1 r ln q
/-- c(e, ..), c a local name that holds the class -/
def tMakeL (i : Nat) (C : Addr) (sp : Sp) (t : TA) : TE := fun σ H Q => σ[i]? = some (some (.ref C)) ∧ t σ H fun vs H1 => spMake C sp vs H1 Q
theorem pe_makeL {i : Nat} (M : Mk X.K C f) (F : FnG X.prog X.w X.K X.mg X.base k f ps sp) {j : Nat} (hr : Room j X.A) (hk : k + 1 ≤ j) (hg : X.A.guards = some []) (hN : X.N[i]? = some x) (hv : Vis X.env.scope x) (ha : PA X (e :: es) t)
    (hdb : (x == ("__debug__" : Str)) = false := by decide) (hcd : (x == ("__classdict__" : Str)) = false := by decide)
    (he : starEach (e :: es) X.env = (false, eval e X.env) :: starEach es X.env := by rfl) (hpl : (backTo pos (starEach es X.env)).any (·.1) = false := by rfl) : PE X (.Call (.Name x np) (e :: es) [] pos) (tMakeL i C sp t) := by
  refine ⟨fun pins s σ H Q I h => ?_⟩
  obtain ⟨hs, ht⟩ := h
  refine wpAny_Call_Name_kw (thn ((pe_var (pos := np) hN hv hdb hcd).run pins s σ H (fun v H1 => v = .ref C ∧ H1 = H) I ⟨.ref C, hs, rfl, rfl⟩) fun u s1 ⟨v, H1, I1, r1, q1⟩ => ?_)
  obtain ⟨rfl, rfl⟩ := q1
  cases r1
  refine PySem.W.callWith_K (h₀ := X.base) I.ok.mod.kin M.kp (thn (ha.run pos pins s1 σ _ _ I1 ht) fun us s2 ⟨vs, H2, I2, r, q⟩ => ⟨I2.kIn, ?_⟩) he hpl
  exact run_makeG M F (hr.mono hk) hg I2 r q

/-! properties -/
def tPropG (C : Addr) (sp : Sp) (ta : TE) : TE := fun σ H Q => ta σ H fun x H1 => ∃ a dx fs, x = .ref a ∧ H1 a = some (.ins C dx fs) ∧ sp [.ref a] H1 Q E0
theorem pe_propG (he : PE X e ta) (c : Cls X.K C) (hp : PropOf X.K C m p g) (F : FnG X.prog X.w X.K X.mg X.base k g ps sp) {j : Nat} (hr : Room j X.A) (hk : k + 1 ≤ j) (hg : X.A.guards = some [])
    (hab : attributeBase e m X.env (eval e X.env) = eval e X.env := by rfl) : PE X (.Attribute e m pos) (tPropG C sp ta) := by
  refine ⟨fun pins s σ H Q I h => ?_⟩
  refine attr_of hab (thn (he.run pins s σ H _ I h) fun u s1 ⟨x, H1, I1, rx, a, dx, fs, ex, ea, q⟩ => ?_)
  subst ex
  obtain rfl : u = Value.ref a := rx
  obtain ⟨mA, O, _, _, _, _⟩ := ins_get I1.hok ea
  obtain ⟨od, J, _⟩ := O.look
  obtain ⟨rest, hrec⟩ := hp.rec_
  have I2 := I1.tok (s1.toks + 1)
  have hc : (PySem.W.clsIn X.K C).isSome = true := by
    obtain ⟨cd, hc, _⟩ := PySem.W.any_some c.hd
    rw [hc]
    rfl
  refine PySem.W.get_bind I1.kIn J (PySem.W.plainGet_of (c.get m)).1 (PySem.W.findObj_data hc hp.at_ hp.get hp.tak) (PySem.W.plainGet_of (c.get m)).2 (wpAny_call (PySem.W.prop_get (s := { s1 with toks := s1.toks + 1 }) I1.kIn hrec ?_))
  obtain ⟨fd, F1, hb⟩ := F.ex
  refine codeAny_mono (F1.go X.A.in1 X.stack { s1 with toks := s1.toks + 1 } H1 ⟨[.ref a], []⟩ [.ref a] [.ref a] Q E0 (hr.mono hk).in1 (guards_in1 hg) I2.env0.in1 (hb _ [.ref a] (by rw [← F1.many _ _ _ _ q]; rfl)) (valsR .nil) q) fun r s' hq => ?_
  cases r with
  | error er => exact False.elim hq
  | ok fl =>
    cases fl with
    | ret u =>
      obtain ⟨v, H', I3, rv, q3⟩ := I2.after hq
      show wpAny _ _ (handedOut u) _ _ _
      rw [PySem.W.handedOut_of (handed_of rv)]
      exact wpAny_pure ⟨v, H', I3, rv, q3⟩
    | next => exact False.elim hq
    | brk => exact False.elim hq
    | cont => exact False.elim hq

/-! methods -/
def tMethG (C : Addr) (m : Str) (sp : Sp) (ta : TE) (t : TA) : TE := fun σ H Q => ta σ H fun x H1 => ∃ a dx fs, x = .ref a ∧ H1 a = some (.ins C dx fs) ∧ fs.lookup m = none ∧ t σ H1 fun vs H2 => sp (x :: vs) H2 Q E0
theorem pe_methG {pl : Sem Bool} (he : PE X o ta) (c : Cls X.K C) (hm : Meth X.K C m f) (F : FnG X.prog X.w X.K X.mg X.base k f ps sp) {j : Nat} (hr : Room j X.A) (hk : k ≤ j) (hg : X.A.guards = some []) (ha : PA X (e :: es) t)
    (hst : starEach (e :: es) X.env = (false, eval e X.env) :: starEach es X.env := by rfl) (hpl : (backTo pos (starEach es X.env)).any (·.1) = false := by rfl)
    (ht : eval (.Call (.Attribute o m apos) (e :: es) [] pos) X.env = (do
      let ov ← eval o X.env
      standAt apos.atName
      let (f, first) ← holding [ov] (getMethod ov m pl)
      callWith pos f first (backTo pos (starEach (e :: es) X.env)) (backToKw pos (keywordEach [] X.env))) := by rfl) :
    PE X (.Call (.Attribute o m apos) (e :: es) [] pos) (tMethG C m sp ta t) := by
  refine ⟨fun pins s σ H Q I h => ?_⟩
  refine PySem.W.methodCall_KW (pl := pl) (thn (he.run pins s σ H _ I h) fun u s1 ⟨x, H1, I1, rx, a, dx, fs, ex, ea, l, q⟩ => ?_) ht
  subst ex
  obtain rfl : u = Value.ref a := rx
  refine getmeth_ok I1 ea c hm l ?_
  refine PySem.W.callWith_K (first := [.ref a]) (h₀ := X.base) I.ok.mod.kin hm.kp (thn (ha.run pos pins s1 σ H1 _ I1 q) fun us s2 ⟨vs, H2, I2, r, q2⟩ => ⟨I2.kIn, ?_⟩) hst hpl
  exact call_FnG F (hr.mono hk) hg I2.env0 I2 (us := .ref a :: us) (valsR r) q2
def tMethGK (C : Addr) (m : Str) (n : Nat) (gV : List V → List V) (sp : Sp) (ta : TE) (t : TA) : TE := fun σ H Q => ta σ H fun x H1 => ∃ a dx fs, x = .ref a ∧ H1 a = some (.ins C dx fs) ∧ fs.lookup m = none ∧ t σ H1 fun zs H2 => zs.length = n ∧ sp (x :: gV zs) H2 Q E0
theorem pe_methGK {pl : Sem Bool} {kws : List Keyword} {gg : List Value → List Value} {gV : List V → List V} (he : PE X o ta) (c : Cls X.K C) (hm : Meth X.K C m f) (F : FnGK X.prog X.w X.K X.mg X.base k f ps 1 ks gg gV sp) {j : Nat} (hr : Room j X.A) (hk : k ≤ j) (hg : X.A.guards = some [])
    (hkw : PK X kws t) (hall : (backToKw pos (keywordEach kws X.env)).all (·.1.isSome) = true := by rfl) (hks : (backToKw pos (keywordEach kws X.env)).filterMap (·.1) = ks := by rfl)
    (hpl : ((backTo pos (starEach [] X.env)).any (·.1) || (backToKw pos (keywordEach kws X.env)).any (·.1.isNone)) = false := by rfl)
    (ht : eval (.Call (.Attribute o m apos) [] kws pos) X.env = (do
      let ov ← eval o X.env
      standAt apos.atName
      let (f, first) ← holding [ov] (getMethod ov m pl)
      callWith pos f first (backTo pos (starEach [] X.env)) (backToKw pos (keywordEach kws X.env))) := by rfl) :
    PE X (.Call (.Attribute o m apos) [] kws pos) (tMethGK C m ks.length gV sp ta t) := by
  refine ⟨fun pins s σ H Q I h => ?_⟩
  refine PySem.W.methodCall_KW (pl := pl) (thn (he.run pins s σ H _ I h) fun u s1 ⟨x, H1, I1, rx, a, dx, fs, ex, ea, l, q⟩ => ?_) ht
  subst ex
  obtain rfl : u = Value.ref a := rx
  refine getmeth_ok I1 ea c hm l ?_
  refine PySem.W.callWith_KW0 (first := [.ref a]) (h₀ := X.base) I.ok.mod.kin hm.kp hall (thn (hkw.run pos pins s1 σ H1 _ I1 q) fun ws s2 ⟨zs, H2, I2, r, ln, q2⟩ => ⟨I2.kIn, ?_⟩) hpl
  rw [hks]
  obtain ⟨fd, F1, b⟩ := F.ex
  exact wpAny_call (run_FG F1 (hr.mono hk) hg I2.env0 I2 (us := .ref a :: gg ws) (b s2 [.ref a] ws rfl (by rw [← r.length]; exact ln)) (valsR (F.vals r)) q2)

/-! classmethods -/
def tCMethG (C : Addr) (sp : Sp) (ta : TE) (t : TA) : TE := fun σ H Q => ta σ H fun x H1 => x = .ref C ∧ t σ H1 fun vs H2 => sp (.ref C :: vs) H2 Q E0
theorem pe_cmethG {pl : Sem Bool} (he : PE X o ta) (r : ClX.CRead X.K C mc) (c : ClX.CMet X.K C mc m p g) (F : FnG X.prog X.w X.K X.mg X.base k g ps sp) {j : Nat} (hr : Room j X.A) (hk : k ≤ j) (hg : X.A.guards = some []) (ha : PA X (e :: es) t)
    (hst : starEach (e :: es) X.env = (false, eval e X.env) :: starEach es X.env := by rfl) (hpl : (backTo pos (starEach es X.env)).any (·.1) = false := by rfl)
    (ht : eval (.Call (.Attribute o m apos) (e :: es) [] pos) X.env = (do
      let ov ← eval o X.env
      standAt apos.atName
      let (f, first) ← holding [ov] (getMethod ov m pl)
      callWith pos f first (backTo pos (starEach (e :: es) X.env)) (backToKw pos (keywordEach [] X.env))) := by rfl) :
    PE X (.Call (.Attribute o m apos) (e :: es) [] pos) (tCMethG C sp ta t) := by
  refine ⟨fun pins s σ H Q I h => ?_⟩
  refine PySem.W.methodCall_KW (pl := pl) (thn (he.run pins s σ H _ I h) fun u s1 ⟨x, H1, I1, rx, ex, q⟩ => ?_) ht
  subst ex
  obtain rfl : u = Value.ref C := rx
  refine ClX.getmethcm_ok I1 r c fun s2 I2 => ?_
  refine ClX.callwith_cm I2 (ClX.base_none I1 (Nat.le_refl _)) c.fi (thn (ha.run pos _ s2 σ H1 _ I2 q) fun us s3 ⟨vs, H2, I3, rv, q2⟩ => ⟨⟨ClX.pin_at I3, I3.kIn⟩, ?_⟩) hst hpl
  have z : wpAny (model X.prog X.w) X.A (call (.ref s1.heap.objs.size) us) (EP X ((s1.heap.objs.size, PySem.W.methodObj (.ref g) (.ref C)) :: pins) σ Q) X.xe s3 :=
    wpAny_call (PySem.W.method_call (ClX.pin_at I3) (run_FnG F (hr.mono hk) hg I3.env0 I3 (us := .ref C :: us) (valsR rv) q2))
  exact thn z fun _ _ y => ClX.unpinE y

/-! signs -/
def SpecialOf (K : PySem.W.Frag) (C : Addr) (m : Str) (g : Addr) : Prop := PySem.W.findIn K (.ref C) m = some (some (.ref g)) ∧ PySem.W.isFn K (.ref g) = true ∧ PySem.W.fnIn K g = true
def r1Own (C : Addr) (sp : Sp) : V → Hp → VK → Prop := fun x H Q => ∃ a dx fs, x = .ref a ∧ H a = some (.ins C dx fs) ∧ sp [x] H Q E0
theorem un_own (hs : SpecialOf X.K C "__invert__" g) (F : FnG X.prog X.w X.K X.mg X.base k g ps sp) {j : Nat} (hr : Room j X.A) (hk : k ≤ j) (hg : X.A.guards = some []) : UnR X (unaryOp .Invert) (r1Own C sp) := by
  intro pins s σ H x v Q I rx h
  obtain ⟨a, dx, fs, rfl, ea, q⟩ := h
  obtain rfl : v = Value.ref a := rx
  obtain ⟨mA, O, _, _, _, _⟩ := ins_get I.hok ea
  obtain ⟨od, J, _⟩ := O.look
  obtain ⟨m, hF⟩ := I.fr
  exact PySem.W.ksp_inv hF I.ok.mod.kin J hs.1 hs.2.1 (call_FnG F (hr.mono hk) hg I.env0 I (us := [.ref a]) (valsR .nil) q)
theorem cmpback_EP {u : Value} {s' : Shared} (h : EP X pins σ Q u s') : PySem.W.CmpBack (EP X pins σ Q) u s' := by
  obtain ⟨z', H', I', rz, qz⟩ := h
  exact SlX.cmpback rz ⟨z', H', I', rz, qz⟩
def r2Own (C : Addr) (sp : Sp) : R2 := fun x y H Q => ∃ a dx fs b dy gs, x = .ref a ∧ y = .ref b ∧ H a = some (.ins C dx fs) ∧ H b = some (.ins C dy gs) ∧ sp [x, y] H Q E0
theorem op_own {op : Operator} (hs : SpecialOf X.K C (PySem.dunder op.info.2) g) (hc : PySem.W.selfFirst X.K C = true) (F : FnG X.prog X.w X.K X.mg X.base k g ps sp) {j : Nat} (hr : Room j X.A) (hk : k ≤ j) (hg : X.A.guards = some []) : OpR X (binaryOp op) (r2Own C sp) := by
  intro pins s σ H x y v u Q I rx ry h
  obtain ⟨a, dx, fs, b, dy, gs, rfl, rfl, ea, eb, q⟩ := h
  obtain rfl : v = Value.ref a := rx
  obtain rfl : u = Value.ref b := ry
  obtain ⟨mA, O, _, _, _, _⟩ := ins_get I.hok ea
  obtain ⟨od, J, _⟩ := O.look
  obtain ⟨mB, O2, _, _, _, _⟩ := ins_get I.hok eb
  obtain ⟨od2, J2, _⟩ := O2.look
  obtain ⟨m, hF⟩ := I.fr
  exact PySem.W.binop_K hF I.ok.mod.kin J J2.type hc hs.1 hs.2.1 (wpAny_mono (call_FnG F (hr.mono hk) hg I.env0 I (us := [.ref a, .ref b]) (valsR (valsR .nil)) q) (fun _ _ z => cmpback_EP z) fun _ _ z => z)
theorem iop_own {op : Operator} (hs : SpecialOf X.K C (PySem.dunderI op.info.2) g) (hc : PySem.W.selfFirst X.K C = true) (F : FnG X.prog X.w X.K X.mg X.base k g ps sp) {j : Nat} (hr : Room j X.A) (hk : k ≤ j) (hg : X.A.guards = some []) : PIp X op (r2Own C sp) := by
  intro pins s σ H x y v u Q I rx ry h
  obtain ⟨a, dx, fs, b, dy, gs, rfl, rfl, ea, eb, q⟩ := h
  obtain rfl : v = Value.ref a := rx
  obtain rfl : u = Value.ref b := ry
  obtain ⟨mA, O, _, _, _, _⟩ := ins_get I.hok ea
  obtain ⟨od, J, _⟩ := O.look
  obtain ⟨m, hF⟩ := I.fr
  exact PySem.W.ksp_inplace hF I.ok.mod.kin J hc hs.1 hs.2.1 (wpAny_mono (call_FnG F (hr.mono hk) hg I.env0 I (us := [.ref a, .ref b]) (valsR (valsR .nil)) q) (fun _ _ z => cmpback_EP z) fun _ _ z => z)
/-- o ** n -/
def r2OwnI (C : Addr) (sp : Sp) : R2 := fun x y H Q => ∃ a dx fs i, x = .ref a ∧ y = .int i ∧ H a = some (.ins C dx fs) ∧ sp [x, y] H Q E0
structure IntSide (K : PySem.W.Frag) (C : Addr) (nm : String) : Prop where
  ex : ∃ (rc fo ro : Option Value), PySem.W.findIn K (.ref C) (PySem.dunderR nm) = some rc ∧ (rc = none ∨ ∃ g : Addr, rc = some (.ref g)) ∧ PySem.W.findIn K (.type "int") (PySem.dunder nm) = some fo ∧ PySem.W.findIn K (.type "int") (PySem.dunderR nm) = some ro ∧ PySem.W.subIn K (.type "int") (.ref C) = some false
theorem op_ownI {op : Operator} (hs : SpecialOf X.K C (PySem.dunder op.info.2) g) (hc : PySem.W.selfFirst X.K C = true) (hi : IntSide X.K C op.info.2) (F : FnG X.prog X.w X.K X.mg X.base k g ps sp) {j : Nat} (hr : Room j X.A) (hk : k ≤ j) (hg : X.A.guards = some []) : OpR X (binaryOp op) (r2OwnI C sp) := by
  intro pins s σ H x y v u Q I rx ry h
  obtain ⟨a, dx, fs, i, rfl, rfl, ea, q⟩ := h
  obtain rfl : v = Value.ref a := rx
  have ry' := ry
  obtain ⟨tk, rfl⟩ := ry
  obtain ⟨mA, O, _, _, _, _⟩ := ins_get I.hok ea
  obtain ⟨od, J, _⟩ := O.look
  obtain ⟨m, hF⟩ := I.fr
  obtain ⟨rc, fo, ro, h1, h2, h3, h4, h5⟩ := hi.ex
  exact PySem.W.ksp_binT (T := "int") hF I.ok.mod.kin J rfl hc hs.1 hs.2.1 h1 h2 h3 h4 h5 (wpAny_mono (call_FnG F (hr.mono hk) hg I.env0 I (us := [.ref a, .int i tk]) (valsR (.cons ry' .nil)) q) (fun _ _ z => cmpback_EP z) fun _ _ z => z)
/-- o == y -/
def rEqOwn (K : PySem.W.Frag) (C : Addr) (sp : Sp) : R2 := fun x y H Q => ∃ a dx fs t, x = .ref a ∧ H a = some (.ins C dx fs) ∧ TyX K H y t ∧ PySem.W.notFirst K C t = true ∧ sp [x, y] H Q E0
theorem op_eqOwn (hs : SpecialOf X.K C "__eq__" g) (F : FnG X.prog X.w X.K X.mg X.base k g ps sp) {j : Nat} (hr : Room j X.A) (hk : k ≤ j) (hg : X.A.guards = some []) : OpR X (compareOp .Eq) (rEqOwn X.K C sp) := by
  intro pins s σ H x y v u Q I rx ry h
  obtain ⟨a, dx, fs, t, rfl, ea, ty, hn, q⟩ := h
  obtain rfl : v = Value.ref a := rx
  obtain ⟨mA, O, _, _, _, _⟩ := ins_get I.hok ea
  obtain ⟨od, J, _⟩ := O.look
  obtain ⟨m, hF⟩ := I.fr
  obtain ⟨Pt, kx, hp, _⟩ := kit_of I ry ty
  show wpAny _ _ (richCompare .Eq _ _) _ _ _
  exact PySem.W.cmp_K (op := .Eq) hr.units0 hF I.ok.mod.kin J (kx.ty _ _ I.kIn hp) hn hs.1 hs.2.1 (wpAny_mono (call_FnG F (hr.mono hk) hg I.env0 I (us := [.ref a, u]) (valsR (.cons ry .nil)) q) (fun _ _ z => cmpback_EP z) fun _ _ z => z)
def tEqMark : Unit := ()
/-- len(o), abs(o) -/
def rLenOwn (C : Addr) (sp : Sp) : List V → Hp → VK → Prop := fun xs H Q => ∃ a dx fs, xs = [.ref a] ∧ H a = some (.ins C dx fs) ∧ sp [.ref a] H (fun v H' => ∃ n : Nat, v = .int n ∧ n < 2 ^ 63 ∧ Q (.int n) H') E0
theorem call_lenOwn (hs : SpecialOf X.K C "__len__" g) (F : FnG X.prog X.w X.K X.mg X.base k g ps sp) {j : Nat} (hr : Room j X.A) (hk : k + 1 ≤ j) (hg : X.A.guards = some []) : CallR X (.builtin "len") (rLenOwn C sp) := by
  intro pins s σ H xs us Q I r h
  obtain ⟨a, dx, fs, rfl, ea, q⟩ := h
  rw [Vals.ref1 r]
  obtain ⟨mA, O, _, _, _, _⟩ := ins_get I.hok ea
  obtain ⟨od, J, _⟩ := O.look
  obtain ⟨m, hF⟩ := I.fr
  refine PySem.W.len_K hF I.ok.mod.kin J hs.1 hs.2.1 (wpAny_mono (call_FnG F (hr.mono hk).in1 (guards_in1 hg) I.env0.in1 I (us := [.ref a]) (valsR .nil) q) (fun w s' z => ?_) fun _ _ z => z)
  obtain ⟨z', H', I', rz, n, ez, hn, qz⟩ := z
  subst ez
  obtain ⟨tk, rfl⟩ := rz
  exact ⟨⟨by omega, by omega⟩, .int n, H', I'.tok _, ⟨_, rfl⟩, qz⟩
def rAbsOwn (C : Addr) (sp : Sp) : List V → Hp → VK → Prop := fun xs H Q => ∃ a dx fs, xs = [.ref a] ∧ H a = some (.ins C dx fs) ∧ sp [.ref a] H Q E0
theorem args_absU (a : Value) : argsOk "abs" ⟨[a], []⟩ := by unfold argsOk; kernel_rfl
theorem call_absOwn (hs : SpecialOf X.K C "__abs__" g) (F : FnG X.prog X.w X.K X.mg X.base k g ps sp) {j : Nat} (hr : Room j X.A) (hk : k + 1 ≤ j) (hg : X.A.guards = some []) : CallR X (.builtin "abs") (rAbsOwn C sp) := by
  intro pins s σ H xs us Q I r h
  obtain ⟨a, dx, fs, rfl, ea, q⟩ := h
  rw [Vals.ref1 r]
  obtain ⟨mA, O, _, _, _, _⟩ := ins_get I.hok ea
  obtain ⟨od, J, _⟩ := O.look
  refine Calls.call_function_entry PyProof.Rows.kind_abs PyProof.Rows.plain_abs PyProof.Rows.entry_abs (args_absU _) ?_
  unfold Builtin.«abs»
  refine wpAny_bind (m := oneArg "abs" _) (wpAny_pure ?_)
  refine wpAny_bind (m := callSpecial? (.ref a) (Str.ofString "__abs__")) (PySem.W.special_fn I.kIn J hs.1 (beq_iff_eq.mp hs.2.1) (wpAny_mono (call_FnG F (hr.mono hk).in1 (guards_in1 hg) I.env0.in1 I (us := [.ref a]) (valsR .nil) q) (fun w s' z => ?_) fun _ _ z => z))
  exact wpAny_pure ⟨_, rfl, z⟩
/-- o[e] -/
theorem pe_ixOwn {a b : Expr} {tb : TE} (hs : SpecialOf X.K C "__getitem__" g) (F : FnG X.prog X.w X.K X.mg X.base k g ps sp) {j : Nat} (hr : Room j X.A) (hk : k + 1 ≤ j) (hg : X.A.guards = some []) (ha : PE X a ta) (hb : PE X b tb)
    (hsl : ∀ v u, subscripted b true v u = runValue (.builtin "lifetime.subscript" ⟨[v, u], []⟩) := by intro _ _; rfl) : PE X (.Subscript a b pos) (tOp (fun x y H Q => ∃ a dx fs, x = .ref a ∧ H a = some (.ins C dx fs) ∧ sp [x, y] H Q E0) ta tb) := by
  refine ⟨fun pins s σ H Q I h => ?_⟩
  refine Subscript_ (binT ha hb I h fun v u s2 x y H2 I2 rx ry q => ?_)
  obtain ⟨c, dx, fs, rfl, ea, q⟩ := q
  obtain rfl : v = Value.ref c := rx
  obtain ⟨mA, O, _, _, _, _⟩ := ins_get I2.hok ea
  obtain ⟨od, J, _⟩ := O.look
  obtain ⟨m, hF⟩ := I2.fr
  exact PySem.W.sub_K hF I2.ok.mod.kin J hs.1 hs.2.2 hs.2.1 (call_FnG F (hr.mono hk).in1 (guards_in1 hg) I2.env0.in1 I2 (us := [.ref c, u]) (valsR (.cons ry .nil)) q) (hsl _ _)
end
end UN

namespace UN
open PySem PySem.Spec PyProof.Rows L2
/-! an instance called; classmethods by keywords -/
section
variable {M : Model} {A : Around} {E : Value → Shared → Prop} {s : Shared} {K : PySem.W.Frag} {pos : Pos} {x C : Addr} {first : List Value} {Q : Value → Shared → Prop}
theorem callWith_inst {args : List (Bool × Sem Value)} {keywords : List (Option Str × Sem Value)} (hplain : (args.any (·.1) || keywords.any (·.1.isNone)) = false)
    (h : wpAny M A (evalArgs (.ref x) true args keywords) (fun a s₁ => (∃ ox od, ox.data = .plain ∧ PySem.W.InstAt s₁.heap x ox C od) ∧ wpAny M A (call (.ref x) (first ++ a.pos) a.kw) Q E s₁) E s) : wpAny M A (callWith pos (.ref x) first args keywords) Q E s := by
  unfold callWith
  refine wpAny_bind (wpAny_holding (wpAny_mono h (fun a s₁ h₁ => wpAny_bind (wpAny_standAt ?_)) fun _ _ y => y))
  obtain ⟨⟨ox, od, hd, I⟩, h2⟩ := h₁
  have L := PySem.W.kco_keeper (M := M) I hd
  simp only [hplain]
  refine wpAny_bind (L.here ?_)
  have tail : ∀ {t : Sem Value}, wpAny M A t Q E s₁ → wpAny M A (t >>= fun r => holding [r] point >>= fun _ => pure r) Q E s₁ :=
    fun ht => wpAny_bind (wpAny_mono ht (fun r s₂ hr => wpAny_bind (wpAny_holding (wpAny_point (wpAny_pure hr)))) fun _ _ y => y)
  exact tail (wpAny_operateT h2)
end
section
variable {X : Cx} {pins : List (Addr × Obj)} {σ : L2.St} {H : Hp} {s : Shared} {Q : VK} {k : Nat} {f C p g a b dx : Addr} {fd : FuncData} {ps ks : List Str} {sp : Sp} {us ws : List Value} {vs zs : List V} {fs : List (Str × V)} {x m : Str} {e o : Expr} {es : List Expr} {ta : TE} {t : TA} {pos apos np : Pos} {mc : Value}
theorem inst_of (I : Inv X pins σ H s) (ea : H a = some (.ins C dx fs)) : ∃ ox od, ox.data = .plain ∧ PySem.W.InstAt s.heap a ox C od := by
  obtain ⟨mA, O, _, _, _, _⟩ := ins_get I.hok ea
  obtain ⟨od, J, _⟩ := O.look
  exact ⟨_, _, rfl, J⟩
def tCallO (i : Nat) (C : Addr) (sp : Sp) (t : TA) : TE := fun σ H Q => ∃ a, σ[i]? = some (some (.ref a)) ∧ t σ H fun vs H1 => ∃ dx fs, H1 a = some (.ins C dx fs) ∧ sp (.ref a :: vs) H1 Q E0
theorem pe_callO {i : Nat} (hs : SpecialOf X.K C "__call__" g) (F : FnG X.prog X.w X.K X.mg X.base k g ps sp) {j : Nat} (hr : Room j X.A) (hk : k ≤ j) (hg : X.A.guards = some []) (hN : X.N[i]? = some x) (hv : Vis X.env.scope x) (ha : PA X (e :: es) t)
    (hdb : (x == ("__debug__" : Str)) = false := by decide) (hcd : (x == ("__classdict__" : Str)) = false := by decide)
    (he : starEach (e :: es) X.env = (false, eval e X.env) :: starEach es X.env := by rfl) (hpl : (backTo pos (starEach es X.env)).any (·.1) = false := by rfl) : PE X (.Call (.Name x np) (e :: es) [] pos) (tCallO i C sp t) := by
  refine ⟨fun pins s σ H Q I h => ?_⟩
  obtain ⟨a, hsl, ht⟩ := h
  refine wpAny_Call_Name_kw (thn ((pe_var (pos := np) hN hv hdb hcd).run pins s σ H (fun v H1 => v = .ref a ∧ H1 = H) I ⟨.ref a, hsl, rfl, rfl⟩) fun u s1 ⟨v, H1, I1, r1, q1⟩ => ?_)
  obtain ⟨rfl, rfl⟩ := q1
  cases r1
  rw [he]
  refine callWith_inst (C := C) (by show ((false || (backTo pos (starEach es X.env)).any (·.1)) || false) = false; rw [hpl]; rfl) (PySem.Calls.evalArgs_plain ?_)
  have h2 := ha.run pos pins s1 σ _ _ I1 ht
  rw [he] at h2
  refine thn h2 fun us s2 ⟨vs, H2, I2, r, dx, fs, ea, q⟩ => ⟨inst_of I2 ea, ?_⟩
  obtain ⟨ox, od, hd, J⟩ := inst_of I2 ea
  exact wpAny_call (PySem.W.kco_code (a := ⟨us, []⟩) I2.kIn J hd hs.1 hs.2.1 hs.2.2 (run_FnG F (hr.mono hk) hg I2.env0 I2 (us := .ref a :: us) (valsR r) q))
def tCallOK (i : Nat) (C : Addr) (n : Nat) (gV : List V → List V) (sp : Sp) (t : TA) : TE := fun σ H Q => ∃ a, σ[i]? = some (some (.ref a)) ∧ t σ H fun zs H1 => zs.length = n ∧ ∃ dx fs, H1 a = some (.ins C dx fs) ∧ sp (.ref a :: gV zs) H1 Q E0
theorem pe_callOK {i : Nat} {kws : List Keyword} {gg : List Value → List Value} {gV : List V → List V} (hs : SpecialOf X.K C "__call__" g) (F : FnGK X.prog X.w X.K X.mg X.base k g ps 1 ks gg gV sp) {j : Nat} (hr : Room j X.A) (hk : k ≤ j) (hg : X.A.guards = some []) (hN : X.N[i]? = some x) (hv : Vis X.env.scope x)
    (hkw : PK X kws t) (hall : (backToKw pos (keywordEach kws X.env)).all (·.1.isSome) = true := by rfl) (hks : (backToKw pos (keywordEach kws X.env)).filterMap (·.1) = ks := by rfl)
    (hdb : (x == ("__debug__" : Str)) = false := by decide) (hcd : (x == ("__classdict__" : Str)) = false := by decide)
    (hpl : ((backTo pos (starEach [] X.env)).any (·.1) || (backToKw pos (keywordEach kws X.env)).any (·.1.isNone)) = false := by rfl) : PE X (.Call (.Name x np) [] kws pos) (tCallOK i C ks.length gV sp t) := by
  refine ⟨fun pins s σ H Q I h => ?_⟩
  obtain ⟨a, hsl, ht⟩ := h
  refine wpAny_Call_Name_kw (thn ((pe_var (pos := np) hN hv hdb hcd).run pins s σ H (fun v H1 => v = .ref a ∧ H1 = H) I ⟨.ref a, hsl, rfl, rfl⟩) fun u s1 ⟨v, H1, I1, r1, q1⟩ => ?_)
  obtain ⟨rfl, rfl⟩ := q1
  cases r1
  refine callWith_inst (C := C) hpl (PyProof.Rows.evalArgs_kw2_nil hall ?_)
  refine thn (hkw.run pos pins s1 σ _ _ I1 ht) fun ws s2 ⟨zs, H2, I2, r, ln, dx, fs, ea, q⟩ => ⟨inst_of I2 ea, ?_⟩
  obtain ⟨ox, od, hd, J⟩ := inst_of I2 ea
  rw [hks]
  obtain ⟨fd, F1, b⟩ := F.ex
  exact wpAny_call (PySem.W.kco_code (a := ⟨[], ks.zip ws⟩) I2.kIn J hd hs.1 hs.2.1 hs.2.2 (run_FG F1 (hr.mono hk) hg I2.env0 I2 (us := .ref a :: gg ws) (b s2 [.ref a] ws rfl (by rw [← r.length]; exact ln)) (valsR (F.vals r)) q))
end
/-- one alone, as it is -/
def turn1 {α : Type} (l : List α) : List α := l
theorem turn1_vals {zs : List V} {ws : List Value} (h : Vals zs ws) : Vals (turn1 zs) (turn1 ws) := h
theorem op_eqOwnK {X : Cx} (K : PySem.W.Frag) (hK : X.K = K) {k : Nat} {C g : Addr} {ps : List Str} {sp : Sp} (hs : SpecialOf K C "__eq__" g) (F : FnG X.prog X.w K X.mg X.base k g ps sp) {j : Nat} (hr : Room j X.A) (hk : k ≤ j) (hg : X.A.guards = some []) : OpR X (compareOp .Eq) (rEqOwn K C sp) := by
  cases hK
  exact op_eqOwn hs F hr hk hg
end UN

namespace UN
open PySem PySem.Spec PyProof.Rows L2
def topS (i : Nat) : Stmt := PySem.Challenge.pw_unnoted_k20_arrangements.main.body.getD i (.Pass ⟨0, 0, 0, 0⟩)
/-- the neighbours of a cell in the order of a log -/
def nbraw (web : List (Int × Int)) (k : Int) : List Int := web.flatMap fun e => (if e.1 = k then [e.2] else []) ++ (if e.2 = k then [e.1] else [])
def nbrows (n : Nat) (web : List (Int × Int)) : List (List Int) := (List.range (n + 1)).map fun (k : Nat) => nbraw web k
def nbs (n : Nat) (web : List (Int × Int)) : List (List Int) := (nbrows n web).map srt
def ValidL (n : Nat) (web : List (Int × Int)) : Prop := ∀ e ∈ web, 1 ≤ e.1 ∧ e.1 < e.2 ∧ e.2 ≤ n
theorem take_snoc {α : Type} {l : List α} {i : Nat} {x : α} (h : l[i]? = some x) : l.take (i + 1) = l.take i ++ [x] := by
  rw [List.take_add_one, h]; rfl
theorem nbrows_len (n : Nat) (web : List (Int × Int)) : (nbrows n web).length = n + 1 := by simp [nbrows]
theorem nbrows_get (n : Nat) (web : List (Int × Int)) (k : Nat) (hk : k ≤ n) : (nbrows n web)[k]? = some (nbraw web k) := by
  unfold nbrows
  rw [List.getElem?_map, List.getElem?_range (by omega)]
  rfl
/-- one exchange more -/
theorem nbrows_snoc {n : Nat} {web : List (Int × Int)} {a b : Nat} (ha : a ≤ n) (hb : b ≤ n) (ne : a ≠ b) :
    nbrows n (web ++ [((a : Int), (b : Int))]) = ((nbrows n web).set a (nbraw web a ++ [(b : Int)])).set b (nbraw web b ++ [(a : Int)]) := by
  refine List.ext_getElem? fun j => ?_
  by_cases hj : j ≤ n
  · rw [nbrows_get _ _ _ hj, List.getElem?_set, List.getElem?_set]
    have e : nbraw (web ++ [((a : Int), (b : Int))]) j = nbraw web j ++ ((if a = j then [(b : Int)] else []) ++ (if b = j then [(a : Int)] else [])) := by
      unfold nbraw
      rw [List.flatMap_append]
      simp [Int.ofNat_inj]
    rw [e]
    simp only [List.length_set, nbrows_len]
    by_cases h1 : b = j
    · subst h1
      have h2 : b < n + 1 := by omega
      simp [h2, ne]
    · by_cases h2 : a = j
      · subst h2
        have h3 : a < n + 1 := by omega
        simp [h1, h3]
      · rw [if_neg h1, if_neg h2, nbrows_get _ _ _ hj]
        simp [h1, h2]
  · rw [List.getElem?_eq_none (by rw [nbrows_len]; omega), List.getElem?_eq_none (by rw [List.length_set, List.length_set, nbrows_len]; omega)]
theorem nbraw_len (web : List (Int × Int)) (k : Int) : (nbraw web k).length ≤ 2 * web.length := by
  induction web with
  | nil => exact Nat.le_refl _
  | cons e r ih =>
    have : nbraw (e :: r) k = ((if e.1 = k then [e.2] else []) ++ (if e.2 = k then [e.1] else [])) ++ nbraw r k := rfl
    rw [this, List.length_append, List.length_append, List.length_cons]
    have h1 : (if e.1 = k then [e.2] else []).length ≤ 1 := by split <;> simp
    have h2 : (if e.2 = k then [e.1] else []).length ≤ 1 := by split <;> simp
    omega
/-- a web: exchanges, ascending -/
def ltP (p q : Int × Int) : Prop := p.1 < q.1 ∨ (p.1 = q.1 ∧ p.2 < q.2)
def ValidW (n : Nat) (web : List (Int × Int)) : Prop := ValidL n web ∧ web.Pairwise ltP

abbrev s_is_whole : Stmt := topS 10
theorem sc_is_whole : FnScope ["thing"] ["thing"] (defScope s_is_whole) := ⟨rfl, rfl, rfl, by decide +kernel, rfl, by decide +kernel, by decide +kernel⟩
abbrev s_check_cells : Stmt := topS 11
theorem sc_check_cells : FnScope ["cells"] ["cells"] (defScope s_check_cells) := ⟨rfl, rfl, rfl, by decide +kernel, rfl, by decide +kernel, by decide +kernel⟩
abbrev s_is_exchange : Stmt := topS 12
theorem sc_is_exchange : FnScope ["thing", "cells"] ["thing", "cells"] (defScope s_is_exchange) := ⟨rfl, rfl, rfl, by decide +kernel, rfl, by decide +kernel, by decide +kernel⟩
section
variable {P : Program} {w : World} {K : PySem.W.Frag} {mg : Str → Option Value} {base : Heap}
def sp_is_whole (K : PySem.W.Frag) : Sp := fun vs H Q _ => ∃ (x : V) (T : String) (b1 b2 : Bool), vs = [x] ∧ TyX K H x (.type T) ∧ kitB T "int" = some b1 ∧ kitB T "bool" = some b2 ∧ Q (.bl (b1 && !b2)) H
theorem ok_is_whole {f : Addr} {fd : FuncData} {k : Nat} (F : Fun K "is_whole" "is_whole" s_is_whole f fd) (z_int : mg "int" = none) (z_isinstance : mg "isinstance" = none) (z_bool : mg "bool" = none) : FG P w K mg base CX0 (k + 1) f fd ["thing"] (sp_is_whole K) := by
  refine fg_fun F sc_is_whole (fun vs H Q E h => ?_) (fun cdv A out s H vs Q E hr hg h => ?_)
  · obtain ⟨x, _, _, _, rfl, _⟩ := h
    rfl
  · obtain ⟨x, T, b1, b2, rfl, ty, k1, k2, q⟩ := h
    refine ⟨_, (pss_one (ps_ret (pe_and (pe_callB (call_isiK2 K rfl) (by rfl) z_isinstance bt_isinstance (pa_cons (pv 0) (pa_cons (pe_bltn (v := .ty "int") (by rfl) z_int bt_int rfl) pa_nil))) (pe_one (pe_not (pe_callB (call_isiK2 K rfl) (by rfl) z_isinstance bt_isinstance (pa_cons (pv 0) (pa_cons (pe_bltn (v := .ty "bool") (by rfl) z_bool bt_bool rfl) pa_nil)))))))), ?_⟩
    refine ⟨_, rfl, ⟨_, _, _, _, _, rfl, .ty _, ty, kit_ty k1, _, rfl, ?_⟩⟩
    cases b1 with
    | true => exact iteT ⟨_, rfl, ⟨_, _, _, _, _, rfl, .ty _, ty, kit_ty k2, _, rfl, q⟩⟩
    | false => exact iteF q
def sp_check_cells : Sp := fun vs H Q _ => ∃ n : Int, vs = [.int n] ∧ 1 ≤ n ∧ n ≤ 16 ∧ Q .non H
theorem ok_check_cells {f : Addr} {fd : FuncData} {k : Nat} (F : Fun K "check_cells" "check_cells" s_check_cells f fd) (c_is_whole : CalG P w K mg base k "is_whole" s_is_whole ["thing"] (sp_is_whole K)) (g_MOST_CELLS : ∃ t, mg "MOST_CELLS" = some (.int 16 t)) :
    FG P w K mg base CX0 (k + 1) f fd ["cells"] sp_check_cells := by
  obtain ⟨tM, g_MOST_CELLS⟩ := g_MOST_CELLS
  refine fg_fun F sc_check_cells (fun vs H Q E h => ?_) (fun cdv A out s H vs Q E hr hg h => ?_)
  · obtain ⟨x, rfl, _⟩ := h
    rfl
  · obtain ⟨n, rfl, h1, h2, q⟩ := h
    refine ⟨_, (pss_one (ps_if (PW.pt (pw_or (pt_not (pt_val (pe_cG c_is_whole hr (by omega) hg (by rfl) (pa_cons (pv 0) pa_nil)))) (pw_or1 (pt_not (pt_chain op_le op_le pe_int (pv 0) (pe_glob (v := .int 16) (by rfl) g_MOST_CELLS ⟨_, rfl⟩))))))
        (pss_one ps_never)
        pss_nil)), ?_⟩
    refine ⟨_, rfl, _, "int", _, _, rfl, tyx_int n, kb_ii, kb_ib, _, rfl, iteF ⟨_, rfl, _, _, rfl, rfl, _, rfl, ?_⟩⟩
    refine iteTr (decide_eq_true h1) ⟨_, _, rfl, rfl, _, rfl, ?_⟩
    exact iteFa (by simp [h2]) q
/-- of pairs alone -/
def sp_is_exchange (K : PySem.W.Frag) : Sp := fun vs H Q _ => ∃ (a : Addr) (x y n : Int), vs = [.ref a, .int n] ∧ SqT K H a [.int x, .int y] ∧ Q (.bl (decide (1 ≤ x ∧ x < y ∧ y ≤ n))) H
theorem ok_is_exchange {f : Addr} {fd : FuncData} {k : Nat} (F : Fun K "is_exchange" "is_exchange" s_is_exchange f fd) (z_tuple : mg "tuple" = none) (z_isinstance : mg "isinstance" = none) (z_len : mg "len" = none) (c_is_whole : CalG P w K mg base k "is_whole" s_is_whole ["thing"] (sp_is_whole K)) :
    FG P w K mg base CX0 (k + 1) f fd ["thing", "cells"] (sp_is_exchange K) := by
  refine fg_fun F sc_is_exchange (fun vs H Q E h => ?_) (fun cdv A out s H vs Q E hr hg h => ?_)
  · obtain ⟨_, _, _, _, rfl, _⟩ := h
    rfl
  · obtain ⟨a, x, y, n, rfl, ht, q⟩ := h
    refine ⟨_, (pss_cons (ps_if (PW.pt (pw_or (pt_not (pt_val (pe_callB (call_isiK2 K rfl) (by rfl) z_isinstance bt_isinstance (pa_cons (pv 0) (pa_cons (pe_bltn (v := .ty "tuple") (by rfl) z_tuple bt_tuple rfl) pa_nil))))) (pw_or1 (pt_cmpR op_ne (pe_callB (call_len_seqK K rfl) (by rfl) z_len bt_len (pa_cons (pv 0) pa_nil)) pe_int (nomark _)))))
        (pss_one (ps_ret pe_bl))
        pss_nil)
      (pss_one (ps_ret (pe_and (pe_cG c_is_whole hr (by omega) hg (by rfl) (pa_cons (pe_ix (ix_tupK K rfl) (pv 0) pe_int (fun _ _ => rfl)) pa_nil)) (pe_and (pe_cG c_is_whole hr (by omega) hg (by rfl) (pa_cons (pe_ix (ix_tupK K rfl) (pv 0) pe_int (fun _ _ => rfl)) pa_nil)) (pe_one (pe_chain3 op_le op_lt op_le pe_int (pe_ix (ix_tupK K rfl) (pv 0) pe_int (fun _ _ => rfl)) (pe_ix (ix_tupK K rfl) (pv 0) pe_int (fun _ _ => rfl)) (pv 1)))))))), ?_⟩
    refine ⟨_, rfl, ⟨_, _, _, _, _, rfl, .ty _, tyx_tup ht, kit_ty kb_tt, _, rfl, iteF ⟨_, rfl, ⟨_, _, rfl, .inr ht, rfl, _, rfl, iteF ?_⟩⟩⟩⟩
    refine ⟨_, rfl, ⟨_, _, _, _, rfl, rfl, ht, at_of (j := 0) rfl rfl, _, "int", _, _, rfl, tyx_int x, kb_ii, kb_ib, _, rfl, iteT ?_⟩⟩
    refine ⟨_, rfl, ⟨_, _, _, _, rfl, rfl, ht, at_of (j := 1) rfl rfl, _, "int", _, _, rfl, tyx_int y, kb_ii, kb_ib, _, rfl, iteT ?_⟩⟩
    refine ⟨_, rfl, ⟨_, _, _, _, rfl, rfl, ht, at_of (j := 0) rfl rfl, _, _, rfl, rfl, _, rfl, ite2 (fun h1 => ?_) (fun h1 => ?_)⟩⟩
    · have h1' := of_decide_eq_true h1
      refine ⟨_, rfl, ⟨_, _, _, _, rfl, rfl, ht, at_of (j := 1) rfl rfl, _, _, rfl, rfl, _, rfl, ite2 (fun h2 => ?_) (fun h2 => ?_)⟩⟩
      · have h2' := of_decide_eq_true h2
        refine ⟨_, rfl, _, _, rfl, rfl, ?_⟩
        have e : decide (1 ≤ x ∧ x < y ∧ y ≤ n) = decide (y ≤ n) := by simp [h1', h2']
        rw [e] at q
        exact q
      · have h2' : ¬ x < y := fun z => h2 (decide_eq_true z)
        have e : decide (1 ≤ x ∧ x < y ∧ y ≤ n) = false := by simp [h2']
        rw [e] at q
        exact q
    · have h1' : ¬ 1 ≤ x := fun z => h1 (decide_eq_true z)
      have e : decide (1 ≤ x ∧ x < y ∧ y ≤ n) = false := by simp [h1']
      rw [e] at q
      exact q
end

/-! ### things that are exchanged -/
def swp (e : Int × Int) (x : Int) : Int := if x = e.1 then e.2 else if x = e.2 then e.1 else x
theorem swp_swp (e : Int × Int) (x : Int) : swp e (swp e x) = x := by
  unfold swp
  split <;> split <;> (try split) <;> omega
def loc (log : List (Int × Int)) (t : Int) : Int := log.foldl (fun x e => swp e x) t
def ivr (log : List (Int × Int)) (c : Int) : Int := log.foldr (fun e x => swp e x) c
theorem loc_snoc (l : List (Int × Int)) (e : Int × Int) (t : Int) : loc (l ++ [e]) t = swp e (loc l t) := by unfold loc; rw [List.foldl_append]; rfl
theorem ivr_snoc (l : List (Int × Int)) (e : Int × Int) (c : Int) : ivr (l ++ [e]) c = ivr l (swp e c) := by unfold ivr; rw [List.foldr_append]; rfl
theorem loc_cons (l : List (Int × Int)) (e : Int × Int) (t : Int) : loc (e :: l) t = loc l (swp e t) := rfl
theorem ivr_cons (l : List (Int × Int)) (e : Int × Int) (c : Int) : ivr (e :: l) c = swp e (ivr l c) := rfl
theorem ivr_loc (l : List (Int × Int)) : ∀ t, ivr l (loc l t) = t := by
  induction l with
  | nil => intro t; rfl
  | cons e r ih => intro t; rw [ivr_cons, loc_cons, ih, swp_swp]
theorem loc_ivr (l : List (Int × Int)) : ∀ c, loc l (ivr l c) = c := by
  induction l with
  | nil => intro t; rfl
  | cons e r ih => intro t; rw [ivr_cons, loc_cons, swp_swp, ih]
theorem swp_in {n : Nat} {e : Int × Int} {x : Int} (h : 1 ≤ e.1 ∧ e.1 < e.2 ∧ e.2 ≤ n) (hx : 1 ≤ x ∧ x ≤ n) : 1 ≤ swp e x ∧ swp e x ≤ n := by
  unfold swp
  split
  · omega
  · split <;> omega
theorem ValidL.init {n : Nat} {l : List (Int × Int)} {e : Int × Int} (h : ValidL n (l ++ [e])) : ValidL n l ∧ 1 ≤ e.1 ∧ e.1 < e.2 ∧ e.2 ≤ n :=
  ⟨fun q hq => h q (List.mem_append_left _ hq), h e (List.mem_append_right _ (List.mem_singleton.mpr rfl))⟩
theorem loc_in {n : Nat} : ∀ {l : List (Int × Int)}, ValidL n l → ∀ t : Int, 1 ≤ t ∧ t ≤ n → 1 ≤ loc l t ∧ loc l t ≤ n
  | [], _, _, ht => ht
  | e :: r, hv, t, ht => by
    rw [loc_cons]
    exact loc_in (fun q hq => hv q (List.mem_cons_of_mem _ hq)) _ (swp_in (hv e List.mem_cons_self) ht)
theorem ivr_in {n : Nat} : ∀ {l : List (Int × Int)}, ValidL n l → ∀ t : Int, 1 ≤ t ∧ t ≤ n → 1 ≤ ivr l t ∧ ivr l t ≤ n
  | [], _, _, ht => ht
  | e :: r, hv, t, ht => by
    rw [ivr_cons]
    exact swp_in (hv e List.mem_cons_self) (ivr_in (fun q hq => hv q (List.mem_cons_of_mem _ hq)) _ ht)
theorem ivr_zero {n : Nat} : ∀ {l : List (Int × Int)}, ValidL n l → ivr l 0 = 0
  | [], _ => rfl
  | e :: r, hv => by
    rw [ivr_cons, ivr_zero (fun q hq => hv q (List.mem_cons_of_mem _ hq))]
    have := hv e List.mem_cons_self
    unfold swp
    split
    · omega
    · split
      · omega
      · rfl
/-! ### ways -/
def wayStep (e : Int × Int) (w : List Int) : List Int := if w.getLastD 0 = e.1 then w ++ [e.2] else if w.getLastD 0 = e.2 then w ++ [e.1] else w
def way (log : List (Int × Int)) (t : Int) : List Int := log.foldl (fun w e => wayStep e w) [t]
theorem way_snoc (l : List (Int × Int)) (e : Int × Int) (t : Int) : way (l ++ [e]) t = wayStep e (way l t) := by unfold way; rw [List.foldl_append]; rfl
theorem last_snoc (w : List Int) (x : Int) : (w ++ [x]).getLastD 0 = x := by rw [List.getLastD_eq_getLast?, List.getLast?_concat]; rfl
theorem snoc_ind {α : Type} {p : List α → Prop} (h0 : p []) (h1 : ∀ l e, p l → p (l ++ [e])) : ∀ l, p l := by
  intro l
  induction hl : l.length generalizing l with
  | zero => rw [List.length_eq_zero_iff.mp hl]; exact h0
  | succ n ih =>
    have ne : l ≠ [] := by intro z; rw [z] at hl; cases hl
    rw [← List.dropLast_concat_getLast ne]
    exact h1 _ _ (ih _ (by rw [List.length_dropLast, hl]; rfl))
theorem way_last (t : Int) : ∀ l : List (Int × Int), (way l t).getLastD 0 = loc l t := by
  refine snoc_ind rfl fun l e ih => ?_
  rw [way_snoc, loc_snoc, ← ih]
  unfold wayStep swp
  split
  · rw [last_snoc]
  · split
    · rw [last_snoc]
    · rfl
theorem way_ne (t : Int) : ∀ l : List (Int × Int), way l t ≠ [] := by
  refine snoc_ind (by intro z; cases z) fun l e ih => ?_
  rw [way_snoc]
  unfold wayStep
  split
  · simp
  · split
    · simp
    · exact ih
theorem way_len (t : Int) : ∀ l : List (Int × Int), (way l t).length ≤ l.length + 1 := by
  refine snoc_ind (Nat.le_refl _) fun l e ih => ?_
  rw [way_snoc, List.length_append, List.length_singleton]
  unfold wayStep
  split
  · rw [List.length_append, List.length_singleton]; omega
  · split
    · rw [List.length_append, List.length_singleton]; omega
    · omega
theorem way_in {n : Nat} (t : Int) (ht : 1 ≤ t ∧ t ≤ n) : ∀ l : List (Int × Int), ValidL n l → ∀ x ∈ way l t, 1 ≤ x ∧ x ≤ n := by
  refine snoc_ind (fun _ x hx => ?_) fun l e ih hv x hx => ?_
  · cases List.mem_singleton.mp hx; exact ht
  · have ⟨h1, h2⟩ := hv.init
    rw [way_snoc] at hx
    unfold wayStep at hx
    split at hx
    · rcases List.mem_append.mp hx with hx | hx
      · exact ih h1 x hx
      · cases List.mem_singleton.mp hx; omega
    · split at hx
      · rcases List.mem_append.mp hx with hx | hx
        · exact ih h1 x hx
        · cases List.mem_singleton.mp hx; omega
      · exact ih h1 x hx
/-! ### lists by place -/
def tab {α : Type} (n : Nat) (g : Nat → α) : List α := (List.range n).map g
section
variable {α : Type} {n : Nat} {g h : Nat → α}
theorem tab_len : (tab n g).length = n := by simp [tab]
theorem tab_get {j : Nat} (hj : j < n) : (tab n g)[j]? = some (g j) := by
  unfold tab
  rw [List.getElem?_map, List.getElem?_range hj]
  rfl
theorem tab_ext (e : ∀ j, j < n → g j = h j) : tab n g = tab n h := List.map_congr_left fun j hj => e j (List.mem_range.mp hj)
theorem tab_set {j : Nat} {x : α} : (tab n g).set j x = tab n fun m => if m = j then x else g m := by
  refine List.ext_getElem? fun i => ?_
  rw [List.getElem?_set]
  by_cases hi : i < n
  · rw [tab_get hi, tab_get hi, tab_len]
    by_cases e : j = i
    · subst e; rw [if_pos rfl, if_pos hi, if_pos rfl]
    · rw [if_neg e, if_neg (fun z => e z.symm)]
  · rw [List.getElem?_eq_none (l := tab n fun m => if m = j then x else g m) (by rw [tab_len]; omega), List.getElem?_eq_none (l := tab n g) (by rw [tab_len]; omega), tab_len]
    split
    · rw [if_neg (by omega)]
    · rfl
theorem tab_succ : tab (n + 1) g = tab n g ++ [g n] := by
  unfold tab
  rw [List.range_succ, List.map_append]
  rfl
theorem tab_mem {x : α} (hx : x ∈ tab n g) : ∃ j, j < n ∧ x = g j := by
  obtain ⟨j, hj, rfl⟩ := List.mem_map.mp hx
  exact ⟨j, List.mem_range.mp hj, rfl⟩
theorem of_tab {l : List α} (hl : l.length = n) (e : ∀ j, j < n → l[j]? = some (g j)) : l = tab n g := by
  refine List.ext_getElem? fun i => ?_
  by_cases hi : i < n
  · rw [e i hi, tab_get hi]
  · rw [List.getElem?_eq_none (by omega), List.getElem?_eq_none (by rw [tab_len]; omega)]
end
def waysL (n : Nat) (log : List (Int × Int)) : List (List Int) := tab n fun m => way log (m + 1)
def ordsL (n : Nat) (log : List (Int × Int)) : List (List Int) := tab n fun m => nbraw log (m + 1)
def endsL (n : Nat) (log : List (Int × Int)) : List Int := tab n fun m => loc log (m + 1)
def thgsL (n : Nat) (log : List (Int × Int)) : List Int := tab (n + 1) fun m => ivr log m
section
variable {n : Nat} {l : List (Int × Int)} {a b : Int}
/-- one exchange more: the rows of the two things in the cells grow -/
theorem ways_step (hv : ValidL n (l ++ [(a, b)])) : waysL n (l ++ [(a, b)]) =
    ((waysL n l).set (ivr l a - 1).toNat (way l (ivr l a) ++ [b])).set (ivr l b - 1).toNat (way l (ivr l b) ++ [a]) := by
  obtain ⟨h1, h2⟩ := hv.init
  simp only at h2
  have ia := ivr_in h1 a (by omega)
  have ib := ivr_in h1 b (by omega)
  unfold waysL
  rw [tab_set, tab_set]
  refine tab_ext fun j hj => ?_
  rw [way_snoc]
  unfold wayStep
  rw [way_last]
  have ka : loc l ((j : Int) + 1) = a ↔ (j : Int) + 1 = ivr l a := ⟨fun e => by rw [← e, ivr_loc], fun e => by rw [e, loc_ivr]⟩
  have kb : loc l ((j : Int) + 1) = b ↔ (j : Int) + 1 = ivr l b := ⟨fun e => by rw [← e, ivr_loc], fun e => by rw [e, loc_ivr]⟩
  have ne : ivr l a ≠ ivr l b := fun e => by
    have := loc_ivr l a
    rw [e, loc_ivr] at this
    omega
  simp only [ka, kb]
  by_cases e1 : (j : Int) + 1 = ivr l a
  · rw [if_pos e1, if_neg (by omega), if_pos (by omega), e1]
  · rw [if_neg e1]
    by_cases e2 : (j : Int) + 1 = ivr l b
    · rw [if_pos e2, if_pos (by omega), e2]
    · rw [if_neg e2, if_neg (by omega), if_neg (by omega)]
theorem thgs_step (hv : ValidL n (l ++ [(a, b)])) : thgsL n (l ++ [(a, b)]) = ((thgsL n l).set a.toNat (ivr l b)).set b.toNat (ivr l a) := by
  obtain ⟨h1, h2⟩ := hv.init
  simp only at h2
  unfold thgsL
  rw [tab_set, tab_set]
  refine tab_ext fun j hj => ?_
  rw [ivr_snoc]
  unfold swp
  by_cases e1 : (j : Int) = a
  · rw [if_pos e1, if_neg (by omega), if_pos (by omega)]
  · rw [if_neg e1]
    by_cases e2 : (j : Int) = b
    · rw [if_pos e2, if_pos (by omega)]
    · rw [if_neg e2, if_neg (by omega), if_neg (by omega)]
theorem nbraw_snoc (e : Int × Int) (k : Int) : nbraw (l ++ [e]) k = nbraw l k ++ ((if e.1 = k then [e.2] else []) ++ (if e.2 = k then [e.1] else [])) := by
  unfold nbraw
  rw [List.flatMap_append]
  simp
theorem ords_step (hv : ValidL n (l ++ [(a, b)])) : ordsL n (l ++ [(a, b)]) = ((ordsL n l).set (a - 1).toNat (nbraw l a ++ [b])).set (b - 1).toNat (nbraw l b ++ [a]) := by
  obtain ⟨h1, h2⟩ := hv.init
  simp only at h2
  unfold ordsL
  rw [tab_set, tab_set]
  refine tab_ext fun j hj => ?_
  rw [nbraw_snoc]
  by_cases e1 : a = (j : Int) + 1
  · rw [if_pos e1, if_neg (by omega : ¬ b = (j : Int) + 1), if_neg (by omega), if_pos (by omega), e1, List.append_nil]
  · rw [if_neg e1]
    by_cases e2 : b = (j : Int) + 1
    · rw [if_pos e2, if_pos (by omega), e2]; rfl
    · rw [if_neg e2, if_neg (by omega), if_neg (by omega)]; simp
end
theorem thgs_start (n : Nat) : rgV 0 ((n : Int) + 1) = iv (thgsL n []) := by
  unfold rgV iv thgsL tab
  rw [List.map_map]
  have e : ((n : Int) + 1 - 0).toNat = n + 1 := by omega
  rw [e]
  refine List.map_congr_left fun i _ => ?_
  show V.int (0 + (i : Nat)) = V.int i
  rw [Int.zero_add]

/-! ### cells that are joined -/
def edge (web : List (Int × Int)) (a b : Int) : Prop := (a, b) ∈ web ∨ (b, a) ∈ web
inductive Conn (web : List (Int × Int)) (a : Int) : Int → Prop where
  | refl : Conn web a a
  | step {b c : Int} : Conn web a b → edge web b c → Conn web a c
section
variable {web : List (Int × Int)} {a b c : Int}
theorem edge.symm (h : edge web a b) : edge web b a := h.elim .inr .inl
theorem Conn.trans (h : Conn web a b) (k : Conn web b c) : Conn web a c := by
  induction k with
  | refl => exact h
  | step _ e ih => exact .step ih e
theorem Conn.symm (h : Conn web a b) : Conn web b a := by
  induction h with
  | refl => exact .refl
  | step _ e ih => exact (Conn.step .refl e.symm).trans ih
theorem edge_snoc {e : Int × Int} : edge (web ++ [e]) a b ↔ edge web a b ∨ (a = e.1 ∧ b = e.2) ∨ (a = e.2 ∧ b = e.1) := by
  unfold edge
  obtain ⟨x, y⟩ := e
  simp only [List.mem_append, List.mem_singleton, Prod.mk.injEq]
  constructor
  · rintro ((h | ⟨h1, h2⟩) | (h | ⟨h1, h2⟩))
    · exact .inl (.inl h)
    · exact .inr (.inl ⟨h1, h2⟩)
    · exact .inl (.inr h)
    · exact .inr (.inr ⟨h2, h1⟩)
  · rintro ((h | h) | ⟨h1, h2⟩ | ⟨h1, h2⟩)
    · exact .inl (.inl h)
    · exact .inr (.inl h)
    · exact .inl (.inr ⟨h1, h2⟩)
    · exact .inr (.inr ⟨h2, h1⟩)
theorem Conn.more {e : Int × Int} (h : Conn web a b) : Conn (web ++ [e]) a b := by
  induction h with
  | refl => exact .refl
  | step _ e ih => exact .step ih (edge_snoc.mpr (.inl e))
theorem conn_snoc {e : Int × Int} : Conn (web ++ [e]) a b ↔ Conn web a b ∨ (Conn web a e.1 ∧ Conn web e.2 b) ∨ (Conn web a e.2 ∧ Conn web e.1 b) := by
  constructor
  · intro h
    induction h with
    | refl => exact .inl .refl
    | step _ q ih =>
      rcases edge_snoc.mp q with q | ⟨rfl, rfl⟩ | ⟨rfl, rfl⟩
      · rcases ih with h | ⟨h1, h2⟩ | ⟨h1, h2⟩
        · exact .inl (.step h q)
        · exact .inr (.inl ⟨h1, .step h2 q⟩)
        · exact .inr (.inr ⟨h1, .step h2 q⟩)
      · rcases ih with h | ⟨h1, h2⟩ | ⟨h1, h2⟩
        · exact .inr (.inl ⟨h, .refl⟩)
        · exact .inr (.inl ⟨h1, .refl⟩)
        · exact .inl h1
      · rcases ih with h | ⟨h1, h2⟩ | ⟨h1, h2⟩
        · exact .inr (.inr ⟨h, .refl⟩)
        · exact .inl h1
        · exact .inr (.inr ⟨h1, .refl⟩)
  · have q : edge (web ++ [e]) e.1 e.2 := edge_snoc.mpr (.inr (.inl ⟨rfl, rfl⟩))
    rintro (h | ⟨h1, h2⟩ | ⟨h1, h2⟩)
    · exact h.more
    · exact (h1.more.step q).trans h2.more
    · exact (h1.more.step q.symm).trans h2.more
/-- what is reached stays within the cells -/
theorem Conn.within {n : Nat} (hv : ValidL n web) (h : Conn web a b) (ha : 1 ≤ a ∧ a ≤ n) : 1 ≤ b ∧ b ≤ n := by
  induction h with
  | refl => exact ha
  | step _ q _ =>
    rcases q with q | q
    · have := hv _ q; simp at this; omega
    · have := hv _ q; simp at this; omega
end
/-! ### marks -/
def markAt (m : List Int) (k : Int) : Int := m.getD k.toNat 0
def markStep (m : List Int) (e : Int × Int) : List Int := m.map fun x => if x = markAt m e.2 then markAt m e.1 else x
def marks (n : Nat) (web : List (Int × Int)) : List Int := web.foldl markStep ((List.range (n + 1)).map fun (k : Nat) => (k : Int))
theorem marks_len (n : Nat) (web : List (Int × Int)) : (marks n web).length = n + 1 := by
  have : ∀ (web : List (Int × Int)) (m : List Int), (web.foldl markStep m).length = m.length := by
    intro web
    induction web with
    | nil => intro m; rfl
    | cons e r ih => intro m; rw [List.foldl_cons, ih]; unfold markStep; rw [List.length_map]
  unfold marks
  rw [this]
  simp
theorem marks_snoc (n : Nat) (web : List (Int × Int)) (e : Int × Int) : marks n (web ++ [e]) = markStep (marks n web) e := by
  unfold marks
  rw [List.foldl_append]
  rfl
theorem mark_step_at {m : List Int} {e : Int × Int} {k : Int} (hk : k.toNat < m.length) : markAt (markStep m e) k = if markAt m k = markAt m e.2 then markAt m e.1 else markAt m k := by
  unfold markAt markStep
  rw [List.getD_eq_getElem?_getD, List.getElem?_map, List.getElem?_eq_getElem hk]
  simp [List.getD_eq_getElem?_getD, List.getElem?_eq_getElem hk, markAt]
/-- marks tell what is joined -/
theorem marks_conn {n : Nat} : ∀ (web : List (Int × Int)), ValidL n web → ∀ a b : Int, 0 ≤ a → a ≤ n → 0 ≤ b → b ≤ n → (markAt (marks n web) a = markAt (marks n web) b ↔ Conn web a b) := by
  intro web
  induction hl : web.length generalizing web with
  | zero =>
    have e : web = [] := List.length_eq_zero_iff.mp hl
    subst e
    intro _ a b a0 an b0 bn
    have m : ∀ k : Int, 0 ≤ k → k ≤ n → markAt (marks n []) k = k := by
      intro k k0 kn
      unfold markAt marks
      rw [List.foldl_nil, List.getD_eq_getElem?_getD, List.getElem?_map, List.getElem?_range (by omega)]
      simp; omega
    rw [m a a0 an, m b b0 bn]
    constructor
    · rintro rfl; exact .refl
    · intro h
      cases h with
      | refl => rfl
      | step _ q => cases q with | inl q => cases q | inr q => cases q
  | succ l ih =>
    obtain ⟨r, e, rfl⟩ : ∃ r e, web = r ++ [e] := by
      refine ⟨web.dropLast, web.getLast (by intro z; rw [z] at hl; cases hl), (List.dropLast_concat_getLast _).symm⟩
    intro hv a b a0 an b0 bn
    have hr : ValidL n r := fun q hq => hv q (List.mem_append_left _ hq)
    have he := hv e (List.mem_append_right _ (List.mem_singleton.mpr rfl))
    have len : r.length = l := by simp at hl; exact hl
    have ih := ih r len hr
    rw [marks_snoc, mark_step_at (by rw [marks_len]; omega), mark_step_at (by rw [marks_len]; omega), conn_snoc, ← ih a b a0 an b0 bn]
    have e1 := ih a e.1 a0 an (by omega) (by omega)
    have e2 := ih a e.2 a0 an (by omega) (by omega)
    have e3 := ih e.1 b (by omega) (by omega) b0 bn
    have e4 := ih e.2 b (by omega) (by omega) b0 bn
    rw [← e1, ← e2, ← e3, ← e4]
    constructor
    · intro h
      split at h <;> split at h
      · left; omega
      · right; right; omega
      · right; left; omega
      · left; exact h
    · intro h
      rcases h with h | ⟨h1, h2⟩ | ⟨h1, h2⟩
      · rw [h]
      · split <;> split <;> omega
      · split <;> split <;> omega
/-! ### pieces -/
def cellsTo (n : Nat) : List Int := (List.range n).map fun (k : Nat) => (k : Int) + 1
def comp (n : Nat) (web : List (Int × Int)) (k : Int) : List Int := (cellsTo n).filter fun j => decide (markAt (marks n web) j = markAt (marks n web) k)
def isLeast (n : Nat) (web : List (Int × Int)) (k : Int) : Bool := (comp n web k).head? == some k
/-- the pieces whose least cells are among the first m -/
def pcsTo (n : Nat) (web : List (Int × Int)) (m : Nat) : List (List Int) := ((cellsTo m).filter (isLeast n web)).map (comp n web)
def pcs (n : Nat) (web : List (Int × Int)) : List (List Int) := pcsTo n web n
theorem mem_cellsTo {n : Nat} {k : Int} : k ∈ cellsTo n ↔ 1 ≤ k ∧ k ≤ n := by
  unfold cellsTo
  rw [List.mem_map]
  constructor
  · rintro ⟨j, hj, rfl⟩
    have := List.mem_range.mp hj
    omega
  · intro h
    exact ⟨(k - 1).toNat, List.mem_range.mpr (by omega), by omega⟩
theorem cellsTo_asc (n : Nat) : (cellsTo n).Pairwise (· < ·) := by
  unfold cellsTo
  rw [List.pairwise_map]
  exact List.pairwise_lt_range.imp (fun h => by omega)
theorem cellsTo_succ (n : Nat) : cellsTo (n + 1) = cellsTo n ++ [(n : Int) + 1] := by
  unfold cellsTo
  rw [List.range_succ, List.map_append]
  rfl
theorem cellsTo_len (n : Nat) : (cellsTo n).length = n := by simp [cellsTo]
section
variable {n : Nat} {web : List (Int × Int)} (hv : ValidL n web)
include hv
theorem mem_comp {j k : Int} (hk : 1 ≤ k ∧ k ≤ n) : j ∈ comp n web k ↔ Conn web k j := by
  unfold comp
  rw [List.mem_filter, mem_cellsTo, decide_eq_true_eq]
  constructor
  · rintro ⟨hj, e⟩
    exact (marks_conn web hv k j (by omega) (by omega) (by omega) (by omega)).mp e.symm
  · intro h
    have hj := h.within hv hk
    exact ⟨hj, ((marks_conn web hv k j (by omega) (by omega) (by omega) (by omega)).mpr h).symm⟩
theorem comp_asc (k : Int) : (comp n web k).Pairwise (· < ·) := (cellsTo_asc n).sublist List.filter_sublist
theorem isLeast_iff {k : Int} (hk : 1 ≤ k ∧ k ≤ n) : isLeast n web k = true ↔ ∀ j, Conn web k j → k ≤ j := by
  unfold isLeast
  have self : k ∈ comp n web k := (mem_comp hv hk).mpr .refl
  have asc := comp_asc hv k
  cases e : comp n web k with
  | nil => rw [e] at self; cases self
  | cons x r =>
    rw [e] at asc self
    have asc' := List.pairwise_cons.mp asc
    have mem : ∀ j, j ∈ x :: r ↔ Conn web k j := fun j => by rw [← e]; exact mem_comp hv hk
    constructor
    · intro h j hj
      have ex : x = k := by simpa using h
      subst ex
      rcases List.mem_cons.mp ((mem j).mpr hj) with rfl | q
      · omega
      · have := asc'.1 j q; omega
    · intro h
      have h1 := h x ((mem x).mp List.mem_cons_self)
      rcases List.mem_cons.mp self with q | q
      · simp [q]
      · have := asc'.1 k q
        omega
theorem pcsTo_succ (m : Nat) : pcsTo n web (m + 1) = pcsTo n web m ++ (if isLeast n web ((m : Int) + 1) = true then [comp n web ((m : Int) + 1)] else []) := by
  unfold pcsTo
  rw [cellsTo_succ, List.filter_append, List.map_append]
  congr 1
  by_cases h : isLeast n web ((m : Int) + 1) = true
  · rw [if_pos h, List.filter_cons_of_pos h]; rfl
  · rw [if_neg h, List.filter_cons_of_neg h]; rfl
/-- an ascending list of just the joined cells is the piece -/
theorem comp_unique {k : Int} (hk : 1 ≤ k ∧ k ≤ n) {l : List Int} (nd : l.Nodup) (mem : ∀ j, j ∈ l ↔ Conn web k j) : srt l = comp n web k := by
  refine (srt_of (l := l) ?_ ((comp_asc hv k).imp (fun h => by omega))).symm
  refine (List.perm_ext_iff_of_nodup ?_ nd).mpr fun j => ?_
  · exact (comp_asc hv k).imp (fun h => by omega)
  · rw [mem, mem_comp hv hk]
end

theorem nodup_len : ∀ {l m : List Int}, l.Nodup → (∀ x ∈ l, x ∈ m) → l.length ≤ m.length
  | [], _, _, _ => Nat.zero_le _
  | x :: l, m, nd, sub => by
    have nd' := List.nodup_cons.mp nd
    have hx := sub x List.mem_cons_self
    have h := nodup_len (l := l) (m := m.erase x) nd'.2 fun y hy => (List.mem_erase_of_ne (fun e => by subst e; exact nd'.1 hy)).mpr (sub y (List.mem_cons_of_mem _ hy))
    rw [List.length_erase_of_mem hx] at h
    have : 0 < m.length := List.length_pos_of_mem hx
    rw [List.length_cons]
    omega
/-! ### a row of neighbours -/
theorem nbraw_cons (e : Int × Int) (r : List (Int × Int)) (k : Int) : nbraw (e :: r) k = ((if e.1 = k then [e.2] else []) ++ (if e.2 = k then [e.1] else [])) ++ nbraw r k := rfl
theorem mem_nbraw {web : List (Int × Int)} {j k : Int} : j ∈ nbraw web k ↔ edge web k j := by
  induction web with
  | nil => simp [nbraw, edge]
  | cons e r ih =>
    rw [nbraw_cons, List.mem_append, ih]
    obtain ⟨x, y⟩ := e
    unfold edge
    simp only [List.mem_append, List.mem_cons, Prod.mk.injEq]
    constructor
    · rintro ((h | h) | (h | h))
      · split at h
        · rename_i e; subst e; exact .inl (.inl ⟨rfl, by simpa using h⟩)
        · cases h
      · split at h
        · rename_i e; subst e; exact .inr (.inl ⟨by simpa using h, rfl⟩)
        · cases h
      · exact .inl (.inr h)
      · exact .inr (.inr h)
    · rintro ((⟨rfl, rfl⟩ | h) | (⟨rfl, rfl⟩ | h))
      · left; left; simp
      · right; left; exact h
      · left; right; simp
      · right; right; exact h
theorem nbraw_nodup {n : Nat} : ∀ {web : List (Int × Int)}, ValidW n web → ∀ k, (nbraw web k).Nodup
  | [], _, k => List.Pairwise.nil
  | e :: r, hv, k => by
    have hr : ValidW n r := ⟨fun q hq => hv.1 q (List.mem_cons_of_mem _ hq), (List.pairwise_cons.mp hv.2).2⟩
    have he := hv.1 e List.mem_cons_self
    have ih := nbraw_nodup hr k
    have ne : ∀ q ∈ r, q ≠ e := fun q hq z => by
      have := (List.pairwise_cons.mp hv.2).1 q hq
      rw [z] at this
      rcases this with h | ⟨_, h⟩ <;> omega
    rw [nbraw_cons]
    obtain ⟨x, y⟩ := e
    simp only at he ⊢
    by_cases h1 : x = k
    · have h2 : ¬ y = k := by omega
      rw [if_pos h1, if_neg h2]
      refine List.nodup_cons.mpr ⟨fun z => ?_, ih⟩
      rcases mem_nbraw.mp z with z | z
      · exact ne _ z (by rw [h1])
      · have := hr.1 _ z; simp at this; omega
    · by_cases h2 : y = k
      · rw [if_neg h1, if_pos h2]
        refine List.nodup_cons.mpr ⟨fun z => ?_, ih⟩
        rcases mem_nbraw.mp z with z | z
        · have := hr.1 _ z; simp at this; omega
        · exact ne _ z (by rw [h2])
      · rw [if_neg h1, if_neg h2]
        exact ih
theorem nbs_get (n : Nat) (web : List (Int × Int)) (k : Nat) (hk : k ≤ n) : (nbs n web)[k]? = some (srt (nbraw web k)) := by
  unfold nbs
  rw [List.getElem?_map, nbrows_get n web k hk]
  rfl
/-! ### going on from a cell -/
structure Dfs (web : List (Int × Int)) (c : Int) (pl wl : List Int) : Prop where
  nd : pl.Nodup
  self : c ∈ pl
  conn : ∀ j ∈ pl, Conn web c j
  sub : ∀ j ∈ wl, j ∈ pl
  cl : ∀ j ∈ pl, j ∉ wl → ∀ k, edge web j k → k ∈ pl
section
variable {web : List (Int × Int)} {c j : Int} {pl wl row : List Int} {n : Nat}
theorem Dfs.start : Dfs web c [c] [c] := by
  refine ⟨by simp, by simp, ?_, by simp, ?_⟩
  · intro j hj; cases List.mem_singleton.mp hj; exact .refl
  · intro j hj h; exact absurd hj h
theorem Dfs.step (d : Dfs web c pl (wl ++ [j])) (rn : row.Nodup) (rm : ∀ k, k ∈ row ↔ edge web j k) : Dfs web c (pl ++ row.filter fun k => !decide (k ∈ pl)) (wl ++ row.filter fun k => !decide (k ∈ pl)) := by
  have jp : j ∈ pl := d.sub j (List.mem_append_right _ (List.mem_singleton.mpr rfl))
  have mf : ∀ k, k ∈ row.filter (fun k => !decide (k ∈ pl)) ↔ edge web j k ∧ k ∉ pl := fun k => by rw [List.mem_filter, rm]; simp
  refine ⟨?_, List.mem_append_left _ d.self, ?_, ?_, ?_⟩
  · rw [List.nodup_append]
    refine ⟨d.nd, rn.sublist List.filter_sublist, ?_⟩
    rintro a ha b hb rfl
    exact ((mf a).mp hb).2 ha
  · intro k hk
    rcases List.mem_append.mp hk with hk | hk
    · exact d.conn k hk
    · exact .step (d.conn j jp) ((mf k).mp hk).1
  · intro k hk
    rcases List.mem_append.mp hk with hk | hk
    · exact List.mem_append_left _ (d.sub k (List.mem_append_left _ hk))
    · exact List.mem_append_right _ hk
  · intro k hk nk l hl
    have nk1 : k ∉ wl := fun z => nk (List.mem_append_left _ z)
    have nk2 := fun z => nk (List.mem_append_right wl z)
    have kp : k ∈ pl := by
      rcases List.mem_append.mp hk with hk | hk
      · exact hk
      · exact absurd hk nk2
    by_cases e : k = j
    · subst e
      by_cases lp : l ∈ pl
      · exact List.mem_append_left _ lp
      · exact List.mem_append_right _ ((mf l).mpr ⟨hl, lp⟩)
    · refine List.mem_append_left _ (d.cl k kp (fun z => ?_) l hl)
      rcases List.mem_append.mp z with z | z
      · exact nk1 z
      · exact e (List.mem_singleton.mp z)
theorem Dfs.done (d : Dfs web c pl []) (k : Int) : k ∈ pl ↔ Conn web c k := by
  refine ⟨d.conn k, fun h => ?_⟩
  induction h with
  | refl => exact d.self
  | step _ e ih => exact d.cl _ ih (by simp) _ e
theorem Dfs.len (d : Dfs web c pl wl) (hv : ValidL n web) (hc : 1 ≤ c ∧ c ≤ n) : pl.length ≤ n := by
  have := nodup_len (m := cellsTo n) d.nd fun j hj => mem_cellsTo.mpr ((d.conn j hj).within hv hc)
  rwa [cellsTo_len] at this
end

theorem cellsTo_nodup (n : Nat) : (cellsTo n).Nodup := (cellsTo_asc n).imp fun h e => by omega
/-! ### arrangements, their rounds -/
structure PermF (n : Nat) (p : Int → Int) : Prop where
  into : ∀ c : Int, 1 ≤ c ∧ c ≤ n → 1 ≤ p c ∧ p c ≤ n
  inj : ∀ c d : Int, (1 ≤ c ∧ c ≤ n) → (1 ≤ d ∧ d ≤ n) → p c = p d → c = d
def it (p : Int → Int) : Nat → Int → Int
  | 0, c => c
  | k + 1, c => p (it p k c)
theorem it_add (p : Int → Int) (j k : Nat) (c : Int) : it p (j + k) c = it p j (it p k c) := by
  induction j with
  | zero => rw [Nat.zero_add]; rfl
  | succ j ih => rw [Nat.succ_add]; show p (it p (j + k) c) = p (it p j (it p k c)); rw [ih]
theorem it_succ' (p : Int → Int) (k : Nat) (c : Int) : it p (k + 1) c = it p k (p c) := it_add p k 1 c
section
variable {n : Nat} {p : Int → Int} {c d : Int}
theorem PermF.it_in (h : PermF n p) (hc : 1 ≤ c ∧ c ≤ n) : ∀ k, 1 ≤ it p k c ∧ it p k c ≤ n
  | 0 => hc
  | k + 1 => h.into _ (h.it_in hc k)
theorem PermF.it_inj (h : PermF n p) (hc : 1 ≤ c ∧ c ≤ n) (hd : 1 ≤ d ∧ d ≤ n) : ∀ k, it p k c = it p k d → c = d
  | 0, e => e
  | k + 1, e => h.it_inj hc hd k (h.inj _ _ (h.it_in hc k) (h.it_in hd k) e)
theorem PermF.ret (h : PermF n p) (hc : 1 ≤ c ∧ c ≤ n) : ∃ m, 1 ≤ m ∧ m ≤ n ∧ it p m c = c := by
  rcases Classical.em (∃ m, 1 ≤ m ∧ m ≤ n ∧ it p m c = c) with q | q
  · exact q
  · exfalso
    have nd : ((List.range (n + 1)).map fun k => it p k c).Nodup := by
      have hp : (List.range (n + 1)).Pairwise fun i j => i < j ∧ j < n + 1 := by
        have h1 := List.pairwise_lt_range (n := n + 1)
        exact h1.imp_of_mem fun {a b} _ hb hab => ⟨hab, List.mem_range.mp hb⟩
      refine List.pairwise_map.mpr (hp.imp fun {i j} hij (e : it p i c = it p j c) => q ⟨j - i, by omega, by omega, ?_⟩)
      have e2 : it p j c = it p i (it p (j - i) c) := by rw [← it_add]; congr 1; omega
      rw [e2] at e
      exact (h.it_inj hc (h.it_in hc _) i e).symm
    have l := nodup_len (m := cellsTo n) nd fun x hx => by
      obtain ⟨k, _, rfl⟩ := List.mem_map.mp hx
      exact mem_cellsTo.mpr (h.it_in hc k)
    rw [cellsTo_len, List.length_map, List.length_range] at l
    omega
theorem PermF.least (h : PermF n p) (hc : 1 ≤ c ∧ c ≤ n) : ∃ m, 1 ≤ m ∧ m ≤ n ∧ it p m c = c ∧ ∀ k, 1 ≤ k → k < m → it p k c ≠ c := by
  obtain ⟨m, h1, h2, h3⟩ := h.ret hc
  obtain ⟨k, a, ⟨b1, b2⟩, d⟩ := L2.st_least (p := fun m => 1 ≤ m ∧ it p m c = c) m ⟨h1, h3⟩
  exact ⟨k, b1, by omega, b2, fun j j1 j2 e => d j j2 ⟨j1, e⟩⟩
end
def ringA (p : Int → Int) (c : Int) : Nat → Int → List Int
  | 0, _ => []
  | k + 1, x => x :: (if p x = c then [] else ringA p c k (p x))
def ring (n : Nat) (p : Int → Int) (c : Int) : List Int := ringA p c n c
section
variable {n : Nat} {p : Int → Int} {c d : Int}
theorem ringA_eq {m : Nat} (h3 : it p m c = c) (h4 : ∀ k, 1 ≤ k → k < m → it p k c ≠ c) : ∀ (f j : Nat), j < m → m - j ≤ f → ringA p c f (it p j c) = (List.range (m - j)).map fun k => it p (j + k) c
  | 0, j, h1, h2 => by omega
  | f + 1, j, h1, h2 => by
    have e : m - j = (m - (j + 1)) + 1 := by omega
    rw [e, List.range_succ_eq_map, List.map_cons, List.map_map]
    show it p j c :: (if p (it p j c) = c then [] else ringA p c f (p (it p j c))) = _
    congr 1
    by_cases hj : j + 1 = m
    · have : p (it p j c) = c := by
        have h5 : it p (j + 1) c = c := by rw [hj]; exact h3
        exact h5
      rw [if_pos this, show m - (j + 1) = 0 by omega]
      rfl
    · have : ¬ p (it p j c) = c := h4 (j + 1) (by omega) (by omega)
      rw [if_neg this]
      have ih := ringA_eq h3 h4 f (j + 1) (by omega) (by omega)
      show ringA p c f (it p (j + 1) c) = _
      rw [ih]
      refine List.map_congr_left fun k _ => ?_
      show it p (j + 1 + k) c = it p (j + (k + 1)) c
      congr 1
      omega
theorem PermF.ring_eq (h : PermF n p) (hc : 1 ≤ c ∧ c ≤ n) : ∃ m, 1 ≤ m ∧ m ≤ n ∧ it p m c = c ∧ (∀ k, 1 ≤ k → k < m → it p k c ≠ c) ∧ ring n p c = (List.range m).map fun k => it p k c := by
  obtain ⟨m, h1, h2, h3, h4⟩ := h.least hc
  refine ⟨m, h1, h2, h3, h4, ?_⟩
  have := ringA_eq h3 h4 n 0 (by omega) (by omega)
  rw [Nat.sub_zero] at this
  simpa [ring, it] using this
theorem it_mod {m : Nat} (h3 : it p m c = c) (q : Nat) : it p (q * m) c = c := by
  induction q with
  | zero => rw [Nat.zero_mul]; rfl
  | succ q ih => rw [Nat.succ_mul, it_add, h3, ih]
theorem it_rem {m : Nat} (h3 : it p m c = c) (k : Nat) : it p k c = it p (k % m) c := by
  have e : k = k % m + k / m * m := by rw [Nat.add_comm, Nat.mul_comm]; exact (Nat.div_add_mod k m).symm
  rw [e, it_add, it_mod h3]
  rw [← e]
theorem PermF.mem_ring (h : PermF n p) (hc : 1 ≤ c ∧ c ≤ n) {x : Int} : x ∈ ring n p c ↔ ∃ k, it p k c = x := by
  obtain ⟨m, h1, h2, h3, h4, e⟩ := h.ring_eq hc
  rw [e]
  constructor
  · intro hx
    obtain ⟨k, _, rfl⟩ := List.mem_map.mp hx
    exact ⟨k, rfl⟩
  · rintro ⟨k, rfl⟩
    rw [it_rem h3 k]
    exact List.mem_map.mpr ⟨k % m, List.mem_range.mpr (Nat.mod_lt _ (by omega)), rfl⟩
theorem PermF.ring_in (h : PermF n p) (hc : 1 ≤ c ∧ c ≤ n) {x : Int} (hx : x ∈ ring n p c) : 1 ≤ x ∧ x ≤ n := by
  obtain ⟨k, rfl⟩ := (h.mem_ring hc).mp hx
  exact h.it_in hc k
theorem PermF.ring_nodup (h : PermF n p) (hc : 1 ≤ c ∧ c ≤ n) : (ring n p c).Nodup := by
  obtain ⟨m, h1, h2, h3, h4, e⟩ := h.ring_eq hc
  rw [e]
  have hp : (List.range m).Pairwise fun i j => i < j ∧ j < m := (List.pairwise_lt_range (n := m)).imp_of_mem fun {a b} _ hb hab => ⟨hab, List.mem_range.mp hb⟩
  refine List.pairwise_map.mpr (hp.imp fun {i j} hij (e : it p i c = it p j c) => h4 (j - i) (by omega) (by omega) ?_)
  have e2 : it p j c = it p i (it p (j - i) c) := by rw [← it_add]; congr 1; omega
  rw [e2] at e
  exact (h.it_inj hc (h.it_in hc _) i e).symm
theorem PermF.ring_len (h : PermF n p) (hc : 1 ≤ c ∧ c ≤ n) : 1 ≤ (ring n p c).length ∧ (ring n p c).length ≤ n := by
  obtain ⟨m, h1, h2, h3, h4, e⟩ := h.ring_eq hc
  rw [e, List.length_map, List.length_range]
  exact ⟨h1, h2⟩
/-- to be in one round -/
def Rnd (p : Int → Int) (c d : Int) : Prop := ∃ k, it p k c = d
theorem Rnd.refl : Rnd p c c := ⟨0, rfl⟩
theorem Rnd.trans {e : Int} (a : Rnd p c d) (b : Rnd p d e) : Rnd p c e := by
  obtain ⟨j, rfl⟩ := a
  obtain ⟨k, rfl⟩ := b
  exact ⟨k + j, it_add p k j c⟩
theorem Rnd.step : Rnd p c (p c) := ⟨1, rfl⟩
theorem PermF.symm (h : PermF n p) (hc : 1 ≤ c ∧ c ≤ n) (a : Rnd p c d) : Rnd p d c := by
  obtain ⟨k, rfl⟩ := a
  obtain ⟨m, h1, h2, h3⟩ := h.ret hc
  refine ⟨k * m - k, ?_⟩
  have hk : k ≤ k * m := Nat.le_mul_of_pos_right k (by omega)
  rw [← it_add, Nat.sub_add_cancel hk, it_mod h3]
theorem PermF.rnd_in (h : PermF n p) (hc : 1 ≤ c ∧ c ≤ n) (a : Rnd p c d) : 1 ≤ d ∧ d ≤ n := by
  obtain ⟨k, rfl⟩ := a
  exact h.it_in hc k
theorem PermF.mem_ring' (h : PermF n p) (hc : 1 ≤ c ∧ c ≤ n) {x : Int} : x ∈ ring n p c ↔ Rnd p c x := h.mem_ring hc
theorem PermF.len_eq (h : PermF n p) (hc : 1 ≤ c ∧ c ≤ n) (a : Rnd p c d) : (ring n p d).length = (ring n p c).length := by
  have hd := h.rnd_in hc a
  have b := h.symm hc a
  have pe : (ring n p d).Perm (ring n p c) := (List.perm_ext_iff_of_nodup (h.ring_nodup hd) (h.ring_nodup hc)).mpr fun x => by
    rw [h.mem_ring' hd, h.mem_ring' hc]
    exact ⟨fun z => a.trans z, fun z => b.trans z⟩
  exact pe.length_eq
def lead (n : Nat) (p : Int → Int) (c : Int) : Bool := (ring n p c).all fun x => decide (c ≤ x)
def roundsF (n : Nat) (p : Int → Int) : List (List Int) := ((cellsTo n).filter (lead n p)).map (ring n p)
theorem PermF.lead_iff (h : PermF n p) (hc : 1 ≤ c ∧ c ≤ n) : lead n p c = true ↔ ∀ x, Rnd p c x → c ≤ x := by
  unfold lead
  rw [List.all_eq_true]
  exact ⟨fun a x hx => of_decide_eq_true (a x ((h.mem_ring' hc).mpr hx)), fun a x hx => decide_eq_true (a x ((h.mem_ring' hc).mp hx))⟩
/-- each round has one that leads -/
theorem PermF.has_lead (h : PermF n p) (hc : 1 ≤ c ∧ c ≤ n) : ∃ d : Int, (1 ≤ d ∧ d ≤ n) ∧ Rnd p d c ∧ lead n p d = true := by
  obtain ⟨k, _, ⟨hk1, hk2, hk3⟩, hm⟩ := L2.st_least (p := fun k : Nat => (1 : Int) ≤ k ∧ (k : Int) ≤ n ∧ Rnd p k c) c.toNat ⟨by omega, by omega, by rw [show ((c.toNat : Nat) : Int) = c from by omega]; exact Rnd.refl⟩
  refine ⟨k, ⟨hk1, hk2⟩, hk3, (h.lead_iff ⟨hk1, hk2⟩).mpr fun x hx => ?_⟩
  have xi := h.rnd_in ⟨hk1, hk2⟩ hx
  by_cases q : (k : Int) ≤ x
  · exact q
  · exfalso
    refine hm x.toNat (by omega) ⟨by omega, by omega, ?_⟩
    rw [show ((x.toNat : Nat) : Int) = x from by omega]
    exact (h.symm ⟨hk1, hk2⟩ hx).trans hk3
theorem PermF.lead_one (h : PermF n p) {d : Int} (hc : 1 ≤ c ∧ c ≤ n) (hd : 1 ≤ d ∧ d ≤ n) (a : lead n p c = true) (b : lead n p d = true) (r : Rnd p c d) : c = d := by
  have h1 := (h.lead_iff hc).mp a d r
  have h2 := (h.lead_iff hd).mp b c (h.symm hc r)
  omega
theorem PermF.flat (h : PermF n p) : (roundsF n p).flatten.Perm (cellsTo n) := by
  refine (List.perm_ext_iff_of_nodup ?_ (cellsTo_nodup n)).mpr fun x => ?_
  · unfold roundsF
    refine List.pairwise_flatten.mpr ⟨fun l hl => ?_, ?_⟩
    · obtain ⟨c, hc, rfl⟩ := List.mem_map.mp hl
      exact h.ring_nodup (mem_cellsTo.mp (List.mem_filter.mp hc).1)
    · refine List.pairwise_map.mpr (((cellsTo_nodup n).sublist List.filter_sublist).imp_of_mem fun {a b} ha hb ne x hx y hy e => ne ?_)
      obtain ⟨a1, a2⟩ := List.mem_filter.mp ha
      obtain ⟨b1, b2⟩ := List.mem_filter.mp hb
      subst e
      have ra := (h.mem_ring' (mem_cellsTo.mp a1)).mp hx
      have rb := (h.mem_ring' (mem_cellsTo.mp b1)).mp hy
      exact h.lead_one (mem_cellsTo.mp a1) (mem_cellsTo.mp b1) a2 b2 (ra.trans (h.symm (mem_cellsTo.mp b1) rb))
  · rw [List.mem_flatten, mem_cellsTo]
    constructor
    · rintro ⟨l, hl, hx⟩
      obtain ⟨c, hc, rfl⟩ := List.mem_map.mp hl
      exact h.ring_in (mem_cellsTo.mp (List.mem_filter.mp hc).1) hx
    · intro hx
      obtain ⟨d, hd, r, l⟩ := h.has_lead hx
      exact ⟨ring n p d, List.mem_map.mpr ⟨d, List.mem_filter.mpr ⟨mem_cellsTo.mpr hd, l⟩, rfl⟩, (h.mem_ring' hd).mpr r⟩
/-- how many rounds have the length L -/
theorem PermF.len_count (h : PermF n p) (L : Nat) : (cellsTo n).countP (fun c => decide ((ring n p c).length = L)) = ((roundsF n p).map List.length).count L * L := by
  rw [← h.flat.countP_eq, List.countP_flatten]
  have e : (roundsF n p).map (List.countP fun c => decide ((ring n p c).length = L)) = (roundsF n p).map fun r => if r.length = L then L else 0 := by
    refine List.map_congr_left fun r hr => ?_
    obtain ⟨c, hc, rfl⟩ := List.mem_map.mp hr
    have hc' := mem_cellsTo.mp (List.mem_filter.mp hc).1
    have al : ∀ x ∈ ring n p c, decide ((ring n p x).length = L) = decide ((ring n p c).length = L) := fun x hx => by
      rw [h.len_eq hc' ((h.mem_ring' hc').mp hx)]
    rw [List.countP_congr (q := fun _ => decide ((ring n p c).length = L)) (fun x hx => by rw [al x hx])]
    by_cases q : (ring n p c).length = L
    · simp [q]
    · simp [q]
  rw [e]
  generalize roundsF n p = R
  induction R with
  | nil => simp
  | cons r t ih =>
    rw [List.map_cons, List.map_cons, List.sum_cons, ih, List.count_cons]
    by_cases q : r.length = L
    · rw [if_pos q, if_pos (beq_iff_eq.mpr q), Nat.add_mul]; omega
    · rw [if_neg q, if_neg (fun z => q (beq_iff_eq.mp z)), Nat.zero_add, Nat.add_zero]
end
/-- named anew -/
theorem ringA_conj {n : Nat} {p q t : Int → Int} (hp : PermF n p) (ht : PermF n t) (e : ∀ c : Int, 1 ≤ c ∧ c ≤ n → q (t c) = t (p c)) {c : Int} (hc : 1 ≤ c ∧ c ≤ n) : ∀ (k : Nat) (x : Int), 1 ≤ x ∧ x ≤ n → ringA q (t c) k (t x) = (ringA p c k x).map t
  | 0, _, _ => rfl
  | k + 1, x, hx => by
    show t x :: (if q (t x) = t c then [] else ringA q (t c) k (q (t x))) = t x :: (if p x = c then [] else ringA p c k (p x)).map t
    rw [e x hx]
    by_cases z : p x = c
    · rw [if_pos z, if_pos (by rw [z])]; rfl
    · rw [if_neg z, if_neg (fun y => z (ht.inj _ _ (hp.into x hx) hc y)), ringA_conj hp ht e hc k (p x) (hp.into x hx)]
theorem PermF.cells {n : Nat} {t : Int → Int} (ht : PermF n t) : ((cellsTo n).map t).Perm (cellsTo n) := by
  have nd : ((cellsTo n).map t).Nodup := List.pairwise_map.mpr ((cellsTo_nodup n).imp_of_mem fun {a b} ha hb ne e => ne (ht.inj _ _ (mem_cellsTo.mp ha) (mem_cellsTo.mp hb) e))
  have sub : ∀ x ∈ (cellsTo n).map t, x ∈ cellsTo n := fun x hx => by
    obtain ⟨c, hc, rfl⟩ := List.mem_map.mp hx
    exact mem_cellsTo.mpr (ht.into c (mem_cellsTo.mp hc))
  refine (List.perm_ext_iff_of_nodup nd (cellsTo_nodup n)).mpr fun x => ⟨sub x, fun hx => ?_⟩
  rcases Classical.em (x ∈ (cellsTo n).map t) with q | q
  · exact q
  · exfalso
    have l := nodup_len (l := x :: (cellsTo n).map t) (m := cellsTo n) (List.nodup_cons.mpr ⟨q, nd⟩) fun y hy => by
      rcases List.mem_cons.mp hy with rfl | hy
      · exact hx
      · exact sub y hy
    rw [List.length_cons, List.length_map] at l
    omega
theorem conj_lens {n : Nat} {p q t : Int → Int} (hp : PermF n p) (hq : PermF n q) (ht : PermF n t) (e : ∀ c : Int, 1 ≤ c ∧ c ≤ n → q (t c) = t (p c)) : ((roundsF n q).map List.length).Perm ((roundsF n p).map List.length) := by
  refine List.perm_iff_count.mpr fun L => ?_
  have h1 := hq.len_count L
  have h2 := hp.len_count L
  rw [← ht.cells.countP_eq, List.countP_map] at h1
  have e2 : (cellsTo n).countP ((fun c => decide ((ring n q c).length = L)) ∘ t) = (cellsTo n).countP fun c => decide ((ring n p c).length = L) := by
    refine List.countP_congr fun c hc => ?_
    have hc' := mem_cellsTo.mp hc
    show decide ((ring n q (t c)).length = L) = true ↔ _
    unfold ring
    rw [ringA_conj hp ht e hc' n c hc', List.length_map]
  rw [e2, h2] at h1
  cases L with
  | zero =>
    have z : ∀ {r : Int → Int}, PermF n r → ((roundsF n r).map List.length).count 0 = 0 := fun {r} hr => by
      refine List.count_eq_zero.mpr fun m => ?_
      obtain ⟨l, hl, e0⟩ := List.mem_map.mp m
      obtain ⟨c, hc, rfl⟩ := List.mem_map.mp hl
      have := (hr.ring_len (mem_cellsTo.mp (List.mem_filter.mp hc).1)).1
      omega
    rw [z hq, z hp]
  | succ L => exact (Nat.eq_of_mul_eq_mul_right (Nat.succ_pos L) h1).symm

abbrev s_check_ends : Stmt := topS 14
theorem sc_check_ends : FnScope ["cells", "ends", "index", "end"] ["cells", "ends"] (defScope s_check_ends) := ⟨rfl, rfl, rfl, by decide +kernel, rfl, by decide +kernel, by decide +kernel⟩
abbrev s_rounds_of : Stmt := topS 20
theorem sc_rounds_of : FnScope ["ends", "told", "cell", "ring"] ["ends"] (defScope s_rounds_of) := ⟨rfl, rfl, rfl, by decide +kernel, rfl, by decide +kernel, by decide +kernel⟩
abbrev s_after_both : Stmt := topS 21
theorem sc_after_both : FnScope ["row", "others", "place"] ["row", "others"] (defScope s_after_both) := ⟨rfl, rfl, rfl, by decide +kernel, rfl, by decide +kernel, by decide +kernel⟩
abbrev s_turned_back : Stmt := topS 22
theorem sc_turned_back : FnScope ["row", "place", "told", "index"] ["row"] (defScope s_turned_back) := ⟨rfl, rfl, rfl, by decide +kernel, rfl, by decide +kernel, by decide +kernel⟩
abbrev s_require_equal : Stmt := topS 25
theorem sc_require_equal : FnScope ["ends", "others"] ["ends", "others"] (defScope s_require_equal) := ⟨rfl, rfl, rfl, by decide +kernel, rfl, by decide +kernel, by decide +kernel⟩
/-- an arrangement's list -/
def arrL (n : Nat) (p : Int → Int) : List Int := tab n fun j => p (j + 1)
theorem arrL_len {n : Nat} {p : Int → Int} : (arrL n p).length = n := tab_len
theorem arrL_get {n : Nat} {p : Int → Int} {c : Int} (h : 1 ≤ c ∧ c ≤ n) : (arrL n p)[(c - 1).toNat]? = some (p c) := by
  unfold arrL
  rw [tab_get (by omega)]
  congr 2
  omega
theorem arrL_ext {n : Nat} {p q : Int → Int} (h : ∀ c : Int, 1 ≤ c ∧ c ≤ n → p c = q c) : arrL n p = arrL n q := tab_ext fun j hj => h _ (by omega)
theorem arrL_inj {n : Nat} {p q : Int → Int} (h : arrL n p = arrL n q) {c : Int} (hc : 1 ≤ c ∧ c ≤ n) : p c = q c := by
  have h1 := arrL_get (p := p) hc
  rw [h, arrL_get hc] at h1
  exact (Option.some.inj h1).symm
theorem arrL_at {n : Nat} {p : Int → Int} {i : Nat} {x : Int} (h : (arrL n p)[i]? = some x) : i < n ∧ x = p (i + 1) := by
  have hi := (List.getElem?_eq_some_iff.mp h).1
  rw [arrL_len] at hi
  unfold arrL at h
  rw [tab_get hi] at h
  exact ⟨hi, (Option.some.inj h).symm⟩
theorem arrL_in {n : Nat} {p : Int → Int} (hp : PermF n p) : ∀ x ∈ arrL n p, 1 ≤ x ∧ x ≤ n := fun x hx => by
  obtain ⟨j, hj, rfl⟩ := tab_mem hx
  exact hp.into _ (by omega)
theorem ends_arrL (n : Nat) (log : List (Int × Int)) : endsL n log = arrL n (loc log) := rfl
theorem loc_perm {n : Nat} {log : List (Int × Int)} (hv : ValidL n log) : PermF n (loc log) :=
  ⟨fun c hc => loc_in hv c hc, fun c d _ _ e => by rw [← ivr_loc log c, e, ivr_loc]⟩
theorem perm_id (n : Nat) : PermF n id := ⟨fun _ h => h, fun _ _ _ _ e => e⟩
theorem PermF.comp {n : Nat} {p q : Int → Int} (hq : PermF n q) (hp : PermF n p) : PermF n (fun c => q (p c)) :=
  ⟨fun c hc => hq.into _ (hp.into c hc), fun c d hc hd e => hp.inj c d hc hd (hq.inj _ _ (hp.into c hc) (hp.into d hd) e)⟩
/-- what leads back, reckoned -/
def inv (n : Nat) (p : Int → Int) (x : Int) : Int := ((cellsTo n).find? fun c => p c == x).getD 0
theorem PermF.inv_p {n : Nat} {p : Int → Int} (h : PermF n p) {c : Int} (hc : 1 ≤ c ∧ c ≤ n) : inv n p (p c) = c := by
  unfold inv
  cases e : (cellsTo n).find? fun d => p d == p c with
  | none =>
    have := List.find?_eq_none.mp e c (mem_cellsTo.mpr hc)
    simp at this
  | some d =>
    have h1 := List.find?_some e
    have h2 := List.mem_of_find?_eq_some e
    have : p d = p c := by simpa using h1
    exact h.inj d c (mem_cellsTo.mp h2) hc this
theorem PermF.onto {n : Nat} {p : Int → Int} (h : PermF n p) {x : Int} (hx : 1 ≤ x ∧ x ≤ n) : ∃ c : Int, (1 ≤ c ∧ c ≤ n) ∧ p c = x := by
  obtain ⟨c, hc, e⟩ := List.mem_map.mp (h.cells.mem_iff.mpr (mem_cellsTo.mpr hx))
  exact ⟨c, mem_cellsTo.mp hc, e⟩
theorem PermF.p_inv {n : Nat} {p : Int → Int} (h : PermF n p) {x : Int} (hx : 1 ≤ x ∧ x ≤ n) : p (inv n p x) = x := by
  obtain ⟨c, hc, rfl⟩ := h.onto hx
  rw [h.inv_p hc]
theorem PermF.inv {n : Nat} {p : Int → Int} (h : PermF n p) : PermF n (inv n p) :=
  ⟨fun x hx => by obtain ⟨c, hc, rfl⟩ := h.onto hx; rw [h.inv_p hc]; exact hc, fun x y hx hy e => by rw [← h.p_inv hx, e, h.p_inv hy]⟩
section
variable {P : Program} {w : World} {K : PySem.W.Frag} {mg : Str → Option Value} {base : Heap}
def sp_check_ends (K : PySem.W.Frag) : Sp := fun vs H Q _ => ∃ (n : Nat) (a : Addr) (p : Int → Int), vs = [.int n, .ref a] ∧ n ≤ 16 ∧ PermF n p ∧ IsInts K H a (arrL n p) ∧ ∀ H', Same H H' → Q .non H'
theorem ok_check_ends {f : Addr} {fd : FuncData} {k : Nat} (F : Fun K "check_ends" "check_ends" s_check_ends f fd) (z_list : mg "list" = none) (z_isinstance : mg "isinstance" = none) (z_len : mg "len" = none) (z_enumerate : mg "enumerate" = none)
    (c_is_whole : CalG P w K mg base k "is_whole" s_is_whole ["thing"] (sp_is_whole K)) : FG P w K mg base CX0 (k + 1) f fd ["cells", "ends"] (sp_check_ends K) := by
  refine fg_fun F sc_check_ends (fun vs H Q E h => ?_) (fun cdv A out s H vs Q E hr hg h => ?_)
  · obtain ⟨_, _, _, rfl, _⟩ := h
    rfl
  · obtain ⟨n, a, p, rfl, hn, hp, ha, q⟩ := h
    refine ⟨_, (pss_cons (ps_if (PW.pt (pw_or (pt_not (pt_val (pe_callB (call_isiK2 K rfl) (by rfl) z_isinstance bt_isinstance (pa_cons (pv 1) (pa_cons (pe_bltn (v := .ty "list") (by rfl) z_list bt_list rfl) pa_nil))))) (pw_or1 (pt_cmpR op_ne (pe_callB (call_len_seqK K rfl) (by rfl) z_len bt_len (pa_cons (pv 1) pa_nil)) (pv 0) (nomark _)))))
        (pss_one ps_never)
        pss_nil)
      (pss_one (ps_for PassesOwn.never rfl (pi_enumK K rfl (by rfl) z_enumerate (pa_cons (pv 1) pa_nil)) (pg_tupK K rfl rfl (pgs_cons (pg_name (i := 2) sc_check_ends.nd rfl (.inl rfl)) (pgs_cons (pg_name (i := 3) sc_check_ends.nd rfl (.inl rfl)) pgs_nil)))
        (pss_one (ps_if (PW.pt (pw_or (pt_not (pt_val (pe_cG c_is_whole hr (by omega) hg (by rfl) (pa_cons (pv 3) pa_nil)))) (pw_or (pt_not (pt_chain op_le op_le pe_int (pv 3) (pv 0))) (pw_or1 (pt_cmpR (op_in_seqK K rfl) (pv 3) (pe_slice (sl_listK K rfl) (pv 1) po_none (po_some (pv 2))) (by rfl))))))
            (pss_one ps_never)
            pss_nil))))), ?_⟩
    have hl : (iv (arrL n p)).length = n := by rw [iv_len, arrL_len]
    refine ⟨_, rfl, ⟨_, _, _, _, _, rfl, .ty _, tyx_list ha, kit_ty kb_ll, _, rfl, iteF ⟨_, rfl, a, _, rfl, .inl ha, _, rfl, rfl, _, rfl, iteFF (by rw [hl]; simp) ?_⟩⟩⟩
    refine ⟨_, rfl, a, iv (arrL n p), rfl, ha, for_enum (K := K) (a := a) (xs := iv (arrL n p)) (fun i σ H2 => ∃ y2 y3 : Option V, σ = [some (.int n), some (.ref a), y2, y3] ∧ Same H H2) ⟨none, none, rfl, Same.refl H⟩ ?_ ?_ ?_⟩
    · rintro i σ H2 ⟨_, _, _, sm⟩
      exact sm.seq ha
    · rintro i x σ H2 T hx ⟨y2, y3, rfl, sm⟩ hT
      obtain ⟨c, hc, rfl⟩ := iv_inv hx
      obtain ⟨hi, rfl⟩ := arrL_at hc
      have hb := hp.into (i + 1) (by omega)
      have sm2 : Same H (upd H2 T (.tup [.int (i : Nat), .int (p (i + 1))])) := sm.trans (sA hT)
      refine ⟨T, _, rfl, .inl (.inl upd_same), rfl, _, _, rfl, _, _, rfl, rfl, ?_⟩
      refine ⟨_, rfl, _, "int", _, _, rfl, tyx_int _, kb_ii, kb_ib, _, rfl, iteF ⟨_, rfl, _, _, rfl, rfl, _, rfl, ?_⟩⟩
      refine iteTr (decide_eq_true hb.1) ⟨_, rfl, _, _, rfl, rfl, _, rfl, ?_⟩
      refine iteFa (by simp [hb.2]) ⟨_, rfl, _, rfl, _, rfl, _, rfl, a, iv (arrL n p), rfl, sm2.seq ha, fun q0 hq0 => ?_⟩
      have ec : cutV (iv (arrL n p)) none (some (i : Int)) = iv ((arrL n p).take i) := (cut_to (xs := iv (arrL n p)) (k := i)).trans List.map_take.symm
      rw [ec]
      refine ⟨q0, _, rfl, .inl (SqL.of upd_same), rfl, iv_flat _, _, rfl, ?_⟩
      have no : ¬ p (i + 1) ∈ (arrL n p).take i := by
        intro z
        obtain ⟨j, hj⟩ := List.getElem?_of_mem z
        rw [List.getElem?_take] at hj
        split at hj
        · rename_i hji
          obtain ⟨hj2, e⟩ := arrL_at hj
          have := hp.inj _ _ (by omega) (by omega) e
          omega
        · cases hj
      rw [inV_iv]
      exact iteFa (by simpa using no) ⟨_, _, rfl, sm2.trans (sA hq0)⟩
    · rintro σ H2 ⟨_, _, _, sm⟩
      exact q H2 sm
def sp_require_equal (K : PySem.W.Frag) : Sp := fun vs H Q _ => ∃ (a b : Addr) (xs ys : List Int), vs = [.ref a, .ref b] ∧ xs.length = ys.length ∧ IsInts K H a xs ∧ IsInts K H b ys ∧ Q .non H
theorem ok_require_equal {f : Addr} {fd : FuncData} {k : Nat} (F : Fun K "require_equal" "require_equal" s_require_equal f fd) (z_len : mg "len" = none) : FG P w K mg base CX0 (k + 1) f fd ["ends", "others"] (sp_require_equal K) := by
  refine fg_fun F sc_require_equal (fun vs H Q E h => ?_) (fun cdv A out s H vs Q E hr hg h => ?_)
  · obtain ⟨_, _, _, _, rfl, _⟩ := h
    rfl
  · obtain ⟨a, b, xs, ys, rfl, hl, ha, hb, q⟩ := h
    refine ⟨_, (pss_one (ps_if (pt_cmpR op_ne (pe_callB (call_len_seqK K rfl) (by rfl) z_len bt_len (pa_cons (pv 0) pa_nil)) (pe_callB (call_len_seqK K rfl) (by rfl) z_len bt_len (pa_cons (pv 1) pa_nil)) (nomark _))
        (pss_one ps_never)
        pss_nil)), ?_⟩
    exact ⟨_, rfl, a, _, rfl, .inl ha, _, rfl, b, _, rfl, .inl hb, rfl, _, rfl, iteFF (by rw [iv_len, iv_len, hl]; simp) q⟩
def sp_after_both (K : PySem.W.Frag) : Sp := fun vs H Q _ => ∃ (a b : Addr) (n : Nat) (p q : Int → Int), vs = [.ref a, .ref b] ∧ n ≤ 16 ∧ PermF n p ∧ IsInts K H a (arrL n p) ∧ IsInts K H b (arrL n q) ∧
  ∀ H' d, Loc H H' [(d, .lst (iv (arrL n fun c => q (p c))))] → Q (.ref d) H'
theorem ok_after_both {f : Addr} {fd : FuncData} {k : Nat} (F : Fun K "after_both" "after_both" s_after_both f fd) : FG P w K mg base CX0 (k + 1) f fd ["row", "others"] (sp_after_both K) := by
  refine fg_fun F sc_after_both (fun vs H Q E h => ?_) (fun cdv A out s H vs Q E hr hg h => ?_)
  · obtain ⟨_, _, _, _, _, rfl, _⟩ := h
    rfl
  · obtain ⟨a, b, n, p, q, rfl, hn, hp, ha, hb, qq⟩ := h
    refine ⟨_, (pss_one (ps_ret (pe_lc (own := [("place", 2)]) (tt := tYes) rfl sc_after_both.nd (pi_listK K rfl (pv 0)) (blkOk_by (N := ["row", "others", "place"]) (sc := defScope s_after_both) (by decide +kernel)) (fun _ _ _ _ _ => (pg_name (i := 2) sc_after_both.nd rfl (Or.inl rfl))) (fun _ _ _ _ _ => pts_nil) (fun _ _ _ _ _ => (pe_ix (ix_listK K rfl) (pv 1) (pe_op op_sub (pv 2) pe_int) (fun _ _ => rfl)))))), ?_⟩
    refine ⟨_, rfl, a, rfl, ⟨_, ha⟩, fun D hD => lc_list (K := K) (a := a) (xs := iv (arrL n p)) (fun i H2 => Loc H H2 [(D, .lst (iv (tab i fun j => q (p (j + 1)))))]) ((Loc.refl H).alloc hD) (fun i H2 _ l => l.same.seq ha) ?_ ?_⟩
    · rintro i x H2 hx l
      obtain ⟨c, hc, rfl⟩ := iv_inv hx
      obtain ⟨hi, rfl⟩ := arrL_at hc
      have hb1 := hp.into (i + 1) (by omega)
      refine ⟨rfl, _, rfl, _, rfl, _, _, rfl, rfl, b, _, _, _, rfl, rfl, l.same.seq hb, at_of (j := (p (i + 1) - 1).toNat) (by omega) (iv_get (arrL_get hb1)), _, l.at0, sl_line' (by rw [iv_len, tab_len]; omega), ?_⟩
      rw [tab_succ, iv_snoc]
      exact l.put0
    · intro H2 l
      rw [iv_len, arrL_len] at l
      exact qq H2 D l
def sp_turned_back (K : PySem.W.Frag) : Sp := fun vs H Q _ => ∃ (a : Addr) (n : Nat) (p : Int → Int), vs = [.ref a] ∧ n ≤ 16 ∧ PermF n p ∧ IsInts K H a (arrL n p) ∧
  ∀ H' d, Loc H H' [(d, .lst (iv (arrL n (inv n p))))] → Q (.ref d) H'
/-- the places up to i are told back -/
def backTo' (n : Nat) (p : Int → Int) (i : Nat) : List Int := tab n fun j => if inv n p (j + 1) ≤ i then inv n p (j + 1) else 0
theorem ok_turned_back {f : Addr} {fd : FuncData} {k : Nat} (F : Fun K "turned_back" "turned_back" s_turned_back f fd) (z_enumerate : mg "enumerate" = none) : FG P w K mg base CX0 (k + 1) f fd ["row"] (sp_turned_back K) := by
  refine fg_fun F sc_turned_back (fun vs H Q E h => ?_) (fun cdv A out s H vs Q E hr hg h => ?_)
  · obtain ⟨_, _, _, rfl, _⟩ := h
    rfl
  · obtain ⟨a, n, p, rfl, hn, hp, ha, qq⟩ := h
    refine ⟨_, (pss_cons (ps_setLc (i := 2) (own := [("place", 1)]) (tt := tYes) rfl sc_turned_back.nd rfl rfl (sw_true rfl rfl rfl (by decide +kernel)) (pi_listK K rfl (pv 0)) (blkOk_by (N := ["row", "place", "told", "index"]) (sc := defScope s_turned_back) (by decide +kernel)) (fun _ _ _ _ _ => (pg_name (i := 1) sc_turned_back.nd rfl (Or.inl rfl))) (fun _ _ _ _ _ => pts_nil) (fun _ _ _ _ _ => pe_int))
      (pss_cons (ps_for PassesOwn.never rfl (pi_enumK K rfl (by rfl) z_enumerate (pa_cons (pv 0) pa_nil)) (pg_tupK K rfl rfl (pgs_cons (pg_name (i := 3) sc_turned_back.nd rfl (.inl rfl)) (pgs_cons (pg_name (i := 1) sc_turned_back.nd rfl (.inl rfl)) pgs_nil)))
        (pss_one (ps_asg (pe_op op_add (pv 3) pe_int) (pg_sub (pv 2) (pe_op op_sub (pv 1) pe_int) set_list))))
      (pss_one (ps_ret (pv 2))))), ?_⟩
    refine ⟨_, rfl, a, rfl, ⟨_, ha⟩, fun D hD => lc_list (K := K) (a := a) (xs := iv (arrL n p)) (fun i H2 => Loc H H2 [(D, .lst (iv (tab i fun _ => 0)))]) ((Loc.refl H).alloc hD) (fun i H2 _ l => l.same.seq ha) ?_ ?_⟩
    · rintro i x H2 hx l
      have hi := (List.getElem?_eq_some_iff.mp hx).1
      rw [iv_len, arrL_len] at hi
      refine ⟨rfl, _, l.at0, sl_line' (by rw [iv_len, tab_len]; omega), ?_⟩
      rw [tab_succ, iv_snoc]
      exact l.put0
    · intro H2 l
      rw [iv_len, arrL_len] at l
      have e0 : (tab n fun _ => (0 : Int)) = backTo' n p 0 := tab_ext fun j hj => by
        have := (hp.inv.into (j + 1) (by omega)).1
        rw [if_neg (by omega)]
      rw [e0] at l
      refine ⟨_, rfl, a, iv (arrL n p), rfl, l.same.seq ha, for_enum (K := K) (a := a) (xs := iv (arrL n p)) (fun i σ H3 => ∃ y1 y3 : Option V, σ = [some (.ref a), y1, some (.ref D), y3] ∧ Loc H H3 [(D, .lst (iv (backTo' n p i)))]) ⟨none, none, rfl, l⟩ ?_ ?_ ?_⟩
      · rintro i σ H3 ⟨_, _, _, l3⟩
        exact l3.same.seq ha
      · rintro i x σ H3 T hx ⟨y1, y3, rfl, l3⟩ hT
        obtain ⟨c, hc, rfl⟩ := iv_inv hx
        obtain ⟨hi, rfl⟩ := arrL_at hc
        have hb1 := hp.into (i + 1) (by omega)
        have l4 := l3.alloc (o := .tup [.int (i : Nat), .int (p (i + 1))]) hT
        refine ⟨T, _, rfl, .inl (.inl upd_same), rfl, _, _, rfl, _, _, rfl, rfl, ?_⟩
        refine ⟨_, rfl, _, _, rfl, rfl, _, rfl, _, rfl, _, _, rfl, rfl, D, _, _, (p (i + 1) - 1).toNat, rfl, rfl, l4.atIx (i := 1) rfl, ixI (by omega) (by rw [iv_len]; unfold backTo'; rw [tab_len]; omega), ?_⟩
        have l5 := (l4.setIx (i := 1) (o' := .lst ((iv (backTo' n p i)).set (p (i + 1) - 1).toNat (.int ((i : Int) + 1)))) rfl).drop1
        have es : (iv (backTo' n p i)).set (p (i + 1) - 1).toNat (.int ((i : Int) + 1)) = iv (backTo' n p (i + 1)) := by
          have e1 : (iv (backTo' n p i)).set (p (i + 1) - 1).toNat (.int ((i : Int) + 1)) = iv ((backTo' n p i).set (p (i + 1) - 1).toNat ((i : Int) + 1)) := List.map_set.symm
          rw [e1]
          congr 1
          unfold backTo'
          rw [tab_set]
          refine tab_ext fun j hj => ?_
          by_cases z : j = (p (i + 1) - 1).toNat
          · have : ((j : Int) + 1) = p (i + 1) := by omega
            rw [if_pos z, this, hp.inv_p (by omega), if_pos (by omega)]
          · rw [if_neg z]
            have ne : inv n p (j + 1) ≠ i + 1 := fun e => by
              have := hp.p_inv (x := j + 1) (by omega)
              rw [e] at this
              omega
            by_cases y : inv n p (j + 1) ≤ (i : Nat)
            · rw [if_pos y, if_pos (by omega)]
            · rw [if_neg y, if_neg (by omega)]
        rw [es] at l5
        exact ⟨_, _, rfl, by rw [← es]; rw [← es] at l5; exact l5⟩
      · rintro σ H3 ⟨_, _, rfl, l3⟩
        rw [iv_len, arrL_len] at l3
        refine ⟨_, rfl, qq H3 D ?_⟩
        have e : backTo' n p n = arrL n (inv n p) := tab_ext fun j hj => by
          rw [if_pos (hp.inv.into (j + 1) (by omega)).2]
        rw [e] at l3
        exact l3
end

theorem Loc.rowPut {H0 H : Hp} {r t : Addr} {row : List Int} {rs : List (Addr × List Int)} (l : Loc H0 H ((r, .lst (iv row)) :: (t, .lst (refs rs)) :: rowL rs)) :
    Loc H0 (upd H t (.lst (refs rs ++ [.ref r]))) ((t, .lst (refs (rs ++ [(r, row)]))) :: rowL (rs ++ [(r, row)])) := by
  have l2 := (l.setIx (i := 1) (o' := .lst (refs rs ++ [.ref r])) rfl).rot
  rw [refs_snoc]
  have e : rowL (rs ++ [(r, row)]) = rowL rs ++ [(r, .lst (iv row))] := List.map_append ..
  rw [e]
  exact l2
theorem roundsTo_snoc (n : Nat) (p : Int → Int) (i : Nat) : ((cellsTo (i + 1)).filter (lead n p)).map (ring n p) = ((cellsTo i).filter (lead n p)).map (ring n p) ++ (if lead n p (i + 1) = true then [ring n p (i + 1)] else []) := by
  rw [cellsTo_succ, List.filter_append, List.map_append]
  congr 1
  by_cases h : lead n p (i + 1) = true
  · rw [if_pos h, List.filter_cons_of_pos h]; rfl
  · rw [if_neg h, List.filter_cons_of_neg h]; rfl
section
variable {P : Program} {w : World} {K : PySem.W.Frag} {mg : Str → Option Value} {base : Heap}
def sp_rounds_of (K : PySem.W.Frag) : Sp := fun vs H Q _ => ∃ (a : Addr) (n : Nat) (p : Int → Int), vs = [.ref a] ∧ n ≤ 16 ∧ PermF n p ∧ IsInts K H a (arrL n p) ∧
  ∀ H' t rs, vals rs = roundsF n p → Loc H H' ((t, .lst (refs rs)) :: rowL rs) → Q (.ref t) H'
theorem ok_rounds_of {f : Addr} {fd : FuncData} {k : Nat} (F : Fun K "rounds_of" "rounds_of" s_rounds_of f fd) (z_len : mg "len" = none) (z_range : mg "range" = none) (z_min : mg "min" = none) : FG P w K mg base CX0 (k + 1) f fd ["ends"] (sp_rounds_of K) := by
  refine fg_fun F sc_rounds_of (fun vs H Q E h => ?_) (fun cdv A out s H vs Q E hr hg h => ?_)
  · obtain ⟨_, _, _, rfl, _⟩ := h
    rfl
  · obtain ⟨a, n, p, rfl, hn, hp, ha, qq⟩ := h
    refine ⟨_, (pss_cons (ps_set (i := 1) sc_rounds_of.nd rfl (.inl rfl) (pe_lst pa_nil))
      (pss_cons (ps_for PassesOwn.never rfl (pi_range2 (by rfl) z_range (pa_cons pe_int (pa_cons (pe_op op_add (pe_callB (call_len_seqK K rfl) (by rfl) z_len bt_len (pa_cons (pv 0) pa_nil)) pe_int) pa_nil))) (pg_name (i := 2) sc_rounds_of.nd rfl (.inl rfl))
        (pss_cons (ps_set (i := 3) sc_rounds_of.nd rfl (.inl rfl) (pe_lst (pa_cons (pv 2) pa_nil)))
          (pss_cons (ps_while PassesOwn.never (pt_cmpR op_ne (pe_ix (ix_listK K rfl) (pv 0) (pe_op op_sub (pe_ix (ix_listK K rfl) (pv 3) (pe_un un_neg pe_int) (fun _ _ => rfl)) pe_int) (fun _ _ => rfl)) (pv 2) (nomark _))
            (pss_one (ps_set (i := 3) sc_rounds_of.nd rfl (.inl rfl) (pe_op op_cat (pv 3) (pe_lst (pa_cons (pe_ix (ix_listK K rfl) (pv 0) (pe_op op_sub (pe_ix (ix_listK K rfl) (pv 3) (pe_un un_neg pe_int) (fun _ _ => rfl)) pe_int) (fun _ _ => rfl)) pa_nil))))))
          (pss_one (ps_if (pt_cmpR op_eq (pe_callB (cr_minK K rfl rfl) (by rfl) z_min bt_min (pa_cons (pv 3) pa_nil)) (pv 2) (nomark _))
            (pss_one (ps_expr (pe_bmK K rfl PySem.F.plainAttrs_list PySem.F.slot_list_append PySem.F.type_list_append mt_append (pv 1) (pa_cons (pv 3) pa_nil))))
            pss_nil)))))
      (pss_one (ps_ret (pv 1))))), ?_⟩
    have hl : (iv (arrL n p)).length = n := by rw [iv_len, arrL_len]
    refine ⟨by decide, fun t ht => ⟨_, rfl, a, _, rfl, .inl ((sA ht).seq ha), _, _, rfl, rfl, _, _, rfl, ⟨by omega, by omega, by omega, by omega⟩, for_range (lo := 1) (n := (((iv (arrL n p)).length : Int) + 1 - 1).toNat)
      (fun i σ H2 => ∃ (y2 y3 : Option V) (rs : List (Addr × List Int)), σ = [some (.ref a), some (.ref t), y2, y3] ∧ vals rs = ((cellsTo i).filter (lead n p)).map (ring n p) ∧ rs.length ≤ i ∧ Loc H H2 ((t, .lst (refs rs)) :: rowL rs)) ?_ ?_ ?_⟩⟩
    · exact ⟨none, none, [], rfl, rfl, Nat.le_refl _, (Loc.refl H).alloc ht⟩
    · rintro i σ H2 hi ⟨y2, y3, rs, rfl, ev, rl, l⟩
      have hi' : i < n := by omega
      have hc : (1 : Int) ≤ 1 + i ∧ (1 : Int) + i ≤ n := by omega
      obtain ⟨M, M1, M2, M3, M4, Me⟩ := hp.ring_eq hc
      refine ⟨_, rfl, sl1, fun r hr => ?_⟩
      have l0 := l.alloc (o := .lst (iv (tab 1 fun j => it p j (1 + i)))) hr
      refine ⟨fun m σ H3 => ∃ (k : Nat) (r : Addr), σ = [some (.ref a), some (.ref t), some (.int (1 + i)), some (.ref r)] ∧ k < M ∧ m = M - k ∧ Loc H H3 ((r, .lst (iv (tab (k + 1) fun j => it p j (1 + i)))) :: (t, .lst (refs rs)) :: rowL rs),
        ⟨_, 0, r, rfl, by omega, rfl, l0⟩, ?_⟩
      rintro m σ H3 ⟨k, r, rfl, hk, rfl, l1⟩
      have wn : (tab (k + 1) fun j => it p j (1 + i)) ≠ [] := fun z => by have := congrArg List.length z; rw [tab_len] at this; cases this
      have wl := at_lastI wn
      rw [tab_succ, last_snoc, ← tab_succ] at wl
      have ik := hp.it_in hc k
      have ha3 := l1.same.seq ha
      refine ⟨_, rfl, _, rfl, _, rfl, r, _, _, _, rfl, rfl, SqL.of l1.at0, wl, _, _, rfl, rfl, a, _, _, _, rfl, rfl, ha3, at_of (j := (it p k (1 + i) - 1).toNat) (by omega) (iv_get (arrL_get ik)), _, rfl, rfl, _, rfl, ite2 (fun hb => ?_) (fun hb => ?_)⟩
      · have ne : it p (k + 1) (1 + i) ≠ 1 + i := by
          show p (it p k (1 + i)) ≠ 1 + i
          simpa using hb
        have hk2 : k + 1 < M := by
          rcases Nat.lt_or_ge (k + 1) M with h | h
          · exact h
          · exact absurd (by have : k + 1 = M := by omega
                             rw [this]; exact M3) ne
        refine ⟨fun σ' H' => ∃ m', m' < M - k ∧ _, fun _ _ z => z, ?_⟩
        refine ⟨_, rfl, _, rfl, _, rfl, _, rfl, r, _, _, _, rfl, rfl, SqL.of l1.at0, wl, _, _, rfl, rfl, a, _, _, _, rfl, rfl, ha3, at_of (j := (it p k (1 + i) - 1).toNat) (by omega) (iv_get (arrL_get ik)), sl1, fun e he => ?_⟩
        have l2 := l1.alloc (o := .lst [.int (p (it p k (1 + i)))]) he
        refine ⟨r, e, _, _, rfl, rfl, l2.atIx (i := 1) rfl, l2.at0, ?_, fun r2 hr2 => ?_⟩
        · rw [iv_len, tab_len]; exact Nat.le_of_lt (sl_line' (by simp; omega))
        have l3 := l2.alloc (o := .lst (iv (tab (k + 1) fun j => it p j (1 + i)) ++ [.int (p (it p k (1 + i)))])) hr2
        refine ⟨M - (k + 1), by omega, k + 1, r2, rfl, hk2, rfl, ?_⟩
        have e1 : iv (tab (k + 1 + 1) fun j => it p j (1 + i)) = iv (tab (k + 1) fun j => it p j (1 + i)) ++ [.int (p (it p k (1 + i)))] := by
          rw [tab_succ, iv_snoc]
          rfl
        rw [e1]
        exact l3.keep (.cons_cons _ (.cons _ (.cons _ (List.Sublist.refl _))))
      · have eq : it p (k + 1) (1 + i) = 1 + i := by
          show p (it p k (1 + i)) = 1 + i
          simpa using hb
        have hk2 : k + 1 = M := by
          rcases Nat.lt_or_ge (k + 1) M with h | h
          · exact absurd eq (M4 (k + 1) (by omega) h)
          · omega
        have er : (tab (k + 1) fun j => it p j (1 + i)) = ring n p (1 + i) := by rw [Me, hk2]; rfl
        rw [er] at l1
        have rne := (hp.ring_len hc).1
        have ec : (1 : Int) + i = (i : Int) + 1 := by omega
        refine ⟨_, rfl, r, ring n p (1 + i), rfl, SqL.of l1.at0, by omega, fun mn hmn hle => ⟨_, rfl, rfl, _, rfl, ite2 (fun hb => ?_) (fun hb => ?_)⟩⟩
        · have mc : mn = 1 + i := by simpa using hb
          have ld : lead n p (i + 1) = true := by
            rw [← ec]
            unfold lead
            rw [List.all_eq_true]
            intro x hx
            have := hle x hx
            exact decide_eq_true (by omega)
          refine ⟨_, rfl, .inl ⟨rfl, _, SqL.of (l1.atIx (i := 1) rfl)⟩, _, rfl, t, _, _, rfl, rfl, l1.atIx (i := 1) rfl, sl_line' (by rw [refs_len]; omega), ?_⟩
          refine ⟨_, _, rs ++ [(r, ring n p (1 + i))], rfl, ?_, by simp; omega, l1.rowPut⟩
          rw [roundsTo_snoc, if_pos ld, ← ev, ← ec]
          exact List.map_append
        · have mc : mn ≠ 1 + i := by simpa using hb
          have ld : ¬ lead n p (i + 1) = true := by
            rw [← ec]
            unfold lead
            rw [List.all_eq_true]
            intro h
            have h1 := of_decide_eq_true (h mn hmn)
            have h2 := hle (1 + i) ((hp.mem_ring' hc).mpr Rnd.refl)
            omega
          refine ⟨_, _, rs, rfl, ?_, by omega, l1.drop1⟩
          rw [roundsTo_snoc, if_neg ld, List.append_nil, ev]
    · rintro σ H2 ⟨y2, y3, rs, rfl, ev, rl, l⟩
      rw [show (((iv (arrL n p)).length : Int) + 1 - 1).toNat = n by omega] at ev
      exact ⟨_, rfl, qq H2 t rs ev l⟩
end

abbrev s_Arrangement___init__ : Stmt := inClass (topS 24) 0
theorem sc_Arrangement___init__ : FnScope ["self", "ends"] ["self", "ends"] (defScope s_Arrangement___init__) := ⟨rfl, rfl, rfl, by decide +kernel, rfl, by decide +kernel, by decide +kernel⟩
/-! ### objects of Arrangement -/
structure ArrC (K : PySem.W.Frag) (mg : Str → Option Value) (C : Addr) : Prop where
  cl : Cls K C
  nT : NoAttr K C "told"
  mgC : mg "Arrangement" = some (.ref C)
  sf : PySem.W.selfFirst K C = true
  ca : PySem.W.findIn K (.ref C) "__class__" = some (some (.builtin "object.__class__"))
  cn : PySem.W.specialIn K (.builtin "object.__class__") "__get__" = some (some (.builtin "getset_descriptor.__get__"))
  ct : PySem.W.takesIn K (.builtin "object.__class__") = some true
  cm : PySem.W.mroIn K C (.type "object") = some true
def told (t : Addr) : List (Str × V) := [("told", .ref t)]
theorem told_at (t : Addr) : (told t).lookup ("told" : Str) = some (V.ref t) := rfl
/-- what a new one owns -/
def arrO (C o dx t : Addr) (n : Nat) (p : Int → Int) : Led := [(o, .ins C dx (told t)), (dx, .own o), (t, .lst (iv (arrL n p)))]
def ArrAt (C : Addr) (H : Hp) (o : Addr) (n : Nat) (p : Int → Int) : Prop := ∃ dx t, H o = some (.ins C dx (told t)) ∧ H t = some (.lst (iv (arrL n p)))
theorem ArrAt.grow {C o : Addr} {H H' : Hp} {n : Nat} {p : Int → Int} (s : Same H H') (h : ArrAt C H o n p) : ArrAt C H' o n p := by
  obtain ⟨dx, t, h1, h2⟩ := h
  exact ⟨dx, t, s _ _ h1, s _ _ h2⟩
theorem Loc.arr {C o dx t : Addr} {H H' : Hp} {n : Nat} {p : Int → Int} (l : Loc H H' (arrO C o dx t n p)) : ArrAt C H' o n p := ⟨dx, t, l.atIx (i := 0) rfl, l.atIx (i := 2) rfl⟩
theorem ArrAt.tyx {K : PySem.W.Frag} {mg : Str → Option Value} {C o : Addr} {H : Hp} {n : Nat} {p : Int → Int} (c : ArrC K mg C) (h : ArrAt C H o n p) : TyX K H (.ref o) (.ref C) := by
  obtain ⟨dx, t, h1, h2⟩ := h
  exact .base (.ins h1 c.cl c.ca c.cn c.ct c.cm)
section
variable {P : Program} {w : World} {K : PySem.W.Frag} {mg : Str → Option Value} {base : Heap}
def sp_Arrangement___init__ (K : PySem.W.Frag) (C : Addr) : Sp := fun vs H Q _ => ∃ (o e dx : Addr) (n : Nat) (p : Int → Int), vs = [.ref o, .ref e] ∧ H o = some (.ins C dx []) ∧ 1 ≤ n ∧ n ≤ 16 ∧ PermF n p ∧ IsInts K H e (arrL n p) ∧
  ∀ H1 t, Same H H1 → H1 t = none → Q .non (upd (upd H1 t (.lst (iv (arrL n p)))) o (.ins C dx (told t)))
theorem ok_Arrangement___init__ {f C : Addr} {fd : FuncData} {k : Nat} (F : Fun K "__init__" "Arrangement.__init__" s_Arrangement___init__ f fd) (TC : ArrC K mg C) (z_list : mg "list" = none) (z_isinstance : mg "isinstance" = none) (z_len : mg "len" = none) (g_MOST_CELLS : ∃ t, mg "MOST_CELLS" = some (.int 16 t))
    (c_check_ends : CalG P w K mg base k "check_ends" s_check_ends ["cells", "ends"] (sp_check_ends K)) : FG P w K mg base CX0 (k + 1) f fd ["self", "ends"] (sp_Arrangement___init__ K C) := by
  obtain ⟨tM, g_MOST_CELLS⟩ := g_MOST_CELLS
  refine fg_fun F sc_Arrangement___init__ (fun vs H Q E h => ?_) (fun cdv A out s H vs Q E hr hg h => ?_)
  · obtain ⟨_, _, _, _, _, rfl, _⟩ := h
    rfl
  · obtain ⟨o, e, dx, n, p, rfl, ho, n1, n2, hp, he, q⟩ := h
    refine ⟨_, (pss_cons (ps_if (PW.pt (pw_or (pt_not (pt_val (pe_callB (call_isiK2 K rfl) (by rfl) z_isinstance bt_isinstance (pa_cons (pv 1) (pa_cons (pe_bltn (v := .ty "list") (by rfl) z_list bt_list rfl) pa_nil))))) (pw_or1 (pt_not (pt_chain op_le op_le pe_int (pe_callB (call_len_seqK K rfl) (by rfl) z_len bt_len (pa_cons (pv 1) pa_nil)) (pe_glob (v := .int 16) (by rfl) g_MOST_CELLS ⟨_, rfl⟩))))))
        (pss_one ps_never)
        pss_nil)
      (pss_cons (ps_expr (pe_cG c_check_ends hr (by omega) hg (by rfl) (pa_cons (pe_callB (call_len_seqK K rfl) (by rfl) z_len bt_len (pa_cons (pv 1) pa_nil)) (pa_cons (pv 1) pa_nil))))
      (pss_one (ps_fld (pv 0) (pe_callTy (call_list_ofK K rfl) (by rfl) z_list bt_list (pa_cons (pv 1) pa_nil)) rfl)))), ?_⟩
    have hl : (iv (arrL n p)).length = n := by rw [iv_len, arrL_len]
    refine ⟨_, rfl, ⟨_, _, _, _, _, rfl, .ty _, tyx_list he, kit_ty kb_ll, _, rfl, iteF ⟨_, rfl, e, _, rfl, .inl he, _, _, rfl, rfl, _, rfl, ?_⟩⟩⟩
    refine iteTr (decide_eq_true (by rw [hl]; omega)) ⟨_, _, rfl, rfl, _, rfl, iteFa (by rw [hl]; simp; omega) ?_⟩
    refine ⟨_, rfl, e, _, rfl, .inl he, _, rfl, n, e, p, by rw [hl], n2, hp, he, fun H1 s1 => ⟨_, rfl, e, _, rfl, .inl (s1.seq he), fun t ht => ?_⟩⟩
    refine ⟨_, rfl, o, C, dx, [], rfl, ?_, TC.cl, TC.nT, by decide, q H1 t s1 ht⟩
    exact (sA ht) _ _ (s1 _ _ ho)
/-- what is handed back by Arrangement(..) -/
theorem mk_ok {C e : Addr} {H : Hp} {Q : VK} {n : Nat} {p : Int → Int} (n1 : 1 ≤ n) (n2 : n ≤ 16) (hp : PermF n p) (he : IsInts K H e (arrL n p)) (q : ∀ H' o dx t, Loc H H' (arrO C o dx t n p) → Q (.ref o) H') : spMake C (sp_Arrangement___init__ K C) [.ref e] H Q := by
  intro x dx hx hdx ne
  have l0 := ((Loc.refl H).alloc (o := .own x) hdx).alloc (o := .ins C dx []) (p := x) (by rw [upd_ne ne.symm]; exact hx)
  refine ⟨x, e, dx, n, p, rfl, upd_same, n1, n2, hp, l0.same.seq he, fun H1 t s1 ht => ⟨rfl, q _ x dx t ?_⟩⟩
  have l1 := ((l0.ext s1).alloc (o := .lst (iv (arrL n p))) ht).setIx (i := 1) (o' := .ins C dx (told t)) rfl
  exact l1.perm (M := arrO C x dx t n p) (by
    show List.Perm [(x, _), (dx, _), (t, _)] [(t, _), (x, _), (dx, _)]
    exact (List.Perm.cons _ (List.Perm.swap _ _ _)).trans (List.Perm.swap _ _ _))
end
structure ArrI (P : Program) (w : World) (K : PySem.W.Frag) (mg : Str → Option Value) (base : Heap) (k : Nat) (C fI : Addr) : Prop where
  intro ::
  mk : Mk K C fI
  init : FnG P w K mg base k fI ["self", "ends"] (sp_Arrangement___init__ K C)
  mgC : mg "Arrangement" = some (.ref C)

abbrev s_Arrangement_rounds : Stmt := inClass (topS 24) 2
theorem sc_Arrangement_rounds : FnScope ["self"] ["self"] (defScope s_Arrangement_rounds) := ⟨rfl, rfl, rfl, by decide +kernel, rfl, by decide +kernel, by decide +kernel⟩
abbrev s_Arrangement___abs__ : Stmt := inClass (topS 24) 14
theorem sc_Arrangement___abs__ : FnScope ["self"] ["self"] (defScope s_Arrangement___abs__) := ⟨rfl, rfl, rfl, by decide +kernel, rfl, by decide +kernel, by decide +kernel⟩
section
variable {P : Program} {w : World} {K : PySem.W.Frag} {mg : Str → Option Value} {base : Heap}
def sp_Arrangement_rounds (C : Addr) : Sp := fun vs H Q _ => ∃ (o : Addr) (n : Nat) (p : Int → Int), vs = [.ref o] ∧ n ≤ 16 ∧ PermF n p ∧ ArrAt C H o n p ∧ ∀ H' t rs, vals rs = roundsF n p → Loc H H' ((t, .lst (refs rs)) :: rowL rs) → Q (.ref t) H'
theorem ok_Arrangement_rounds {f C : Addr} {fd : FuncData} {k : Nat} (F : Fun K "rounds" "Arrangement.rounds" s_Arrangement_rounds f fd) (TC : ArrC K mg C)
    (c_rounds_of : CalG P w K mg base k "rounds_of" s_rounds_of ["ends"] (sp_rounds_of K)) : FG P w K mg base CX0 (k + 1) f fd ["self"] (sp_Arrangement_rounds C) := by
  refine fg_fun F sc_Arrangement_rounds (fun vs H Q E h => ?_) (fun cdv A out s H vs Q E hr hg h => ?_)
  · obtain ⟨_, _, _, rfl, _⟩ := h
    rfl
  · obtain ⟨o, n, p, rfl, n2, hp, ⟨dx, t, ho, ht⟩, q⟩ := h
    refine ⟨_, (pss_one (ps_ret (pe_cG c_rounds_of hr (by omega) hg (by rfl) (pa_cons (pe_fld (pv 0) rfl) pa_nil)))), ?_⟩
    exact ⟨_, rfl, o, C, dx, told t, _, rfl, ho, TC.cl, TC.nT, told_at t, t, n, p, rfl, n2, hp, SqL.of ht, q⟩
def sp_Arrangement___abs__ (C : Addr) : Sp := fun vs H Q _ => ∃ (o : Addr) (n : Nat) (p : Int → Int), vs = [.ref o] ∧ n ≤ 16 ∧ PermF n p ∧ ArrAt C H o n p ∧ ∀ H', Same H H' → Q (.int ((n : Int) - (roundsF n p).length)) H'
theorem ok_Arrangement___abs__ {f C : Addr} {fd : FuncData} {k : Nat} (F : Fun K "__abs__" "Arrangement.__abs__" s_Arrangement___abs__ f fd) (TC : ArrC K mg C) (z_len : mg "len" = none)
    (c_rounds_of : CalG P w K mg base k "rounds_of" s_rounds_of ["ends"] (sp_rounds_of K)) : FG P w K mg base CX0 (k + 1) f fd ["self"] (sp_Arrangement___abs__ C) := by
  refine fg_fun F sc_Arrangement___abs__ (fun vs H Q E h => ?_) (fun cdv A out s H vs Q E hr hg h => ?_)
  · obtain ⟨_, _, _, rfl, _⟩ := h
    rfl
  · obtain ⟨o, n, p, rfl, n2, hp, ⟨dx, t, ho, ht⟩, q⟩ := h
    refine ⟨_, (pss_one (ps_ret (pe_op op_sub (pe_callB (call_len_seqK K rfl) (by rfl) z_len bt_len (pa_cons (pe_fld (pv 0) rfl) pa_nil)) (pe_callB (call_len_seqK K rfl) (by rfl) z_len bt_len (pa_cons (pe_cG c_rounds_of hr (by omega) hg (by rfl) (pa_cons (pe_fld (pv 0) rfl) pa_nil)) pa_nil))))), ?_⟩
    have hl : (iv (arrL n p)).length = n := by rw [iv_len, arrL_len]
    refine ⟨_, rfl, o, C, dx, told t, _, rfl, ho, TC.cl, TC.nT, told_at t, t, _, rfl, .inl (SqL.of ht), _, rfl, o, C, dx, told t, _, rfl, ho, TC.cl, TC.nT, told_at t, t, n, p, rfl, n2, hp, SqL.of ht, fun H1 t1 rs e1 l1 => ?_⟩
    refine ⟨t1, _, rfl, .inl (SqL.of l1.at0), _, _, rfl, rfl, ?_⟩
    rw [refs_len, ← vals_len, e1, hl]
    exact q H1 l1.same
end

abbrev s_check_cell : Stmt := topS 13
theorem sc_check_cell : FnScope ["cell", "cells"] ["cell", "cells"] (defScope s_check_cell) := ⟨rfl, rfl, rfl, by decide +kernel, rfl, by decide +kernel, by decide +kernel⟩
abbrev s_Arrangement_ends : Stmt := inClass (topS 24) 1
theorem sc_Arrangement_ends : FnScope ["self"] ["self"] (defScope s_Arrangement_ends) := ⟨rfl, rfl, rfl, by decide +kernel, rfl, by decide +kernel, by decide +kernel⟩
abbrev s_Arrangement___len__ : Stmt := inClass (topS 24) 3
theorem sc_Arrangement___len__ : FnScope ["self"] ["self"] (defScope s_Arrangement___len__) := ⟨rfl, rfl, rfl, by decide +kernel, rfl, by decide +kernel, by decide +kernel⟩
abbrev s_Arrangement___getitem__ : Stmt := inClass (topS 24) 6
theorem sc_Arrangement___getitem__ : FnScope ["self", "cell"] ["self", "cell"] (defScope s_Arrangement___getitem__) := ⟨rfl, rfl, rfl, by decide +kernel, rfl, by decide +kernel, by decide +kernel⟩
abbrev s_Arrangement___call__ : Stmt := inClass (topS 24) 7
theorem sc_Arrangement___call__ : FnScope ["self", "values", "cell"] ["self", "values"] (defScope s_Arrangement___call__) := ⟨rfl, rfl, rfl, by decide +kernel, rfl, by decide +kernel, by decide +kernel⟩
section
variable {P : Program} {w : World} {K : PySem.W.Frag} {mg : Str → Option Value} {base : Heap}
def sp_check_cell : Sp := fun vs H Q _ => ∃ c n : Int, vs = [.int c, .int n] ∧ 1 ≤ c ∧ c ≤ n ∧ Q .non H
theorem ok_check_cell {f : Addr} {fd : FuncData} {k : Nat} (F : Fun K "check_cell" "check_cell" s_check_cell f fd) (c_is_whole : CalG P w K mg base k "is_whole" s_is_whole ["thing"] (sp_is_whole K)) : FG P w K mg base CX0 (k + 1) f fd ["cell", "cells"] sp_check_cell := by
  refine fg_fun F sc_check_cell (fun vs H Q E h => ?_) (fun cdv A out s H vs Q E hr hg h => ?_)
  · obtain ⟨_, _, rfl, _⟩ := h
    rfl
  · obtain ⟨c, n, rfl, h1, h2, q⟩ := h
    refine ⟨_, (pss_one (ps_if (PW.pt (pw_or (pt_not (pt_val (pe_cG c_is_whole hr (by omega) hg (by rfl) (pa_cons (pv 0) pa_nil)))) (pw_or1 (pt_not (pt_chain op_le op_le pe_int (pv 0) (pv 1))))))
        (pss_one ps_never)
        pss_nil)), ?_⟩
    refine ⟨_, rfl, _, "int", _, _, rfl, tyx_int c, kb_ii, kb_ib, _, rfl, iteF ⟨_, rfl, _, _, rfl, rfl, _, rfl, ?_⟩⟩
    refine iteTr (decide_eq_true h1) ⟨_, rfl, _, _, rfl, rfl, _, rfl, ?_⟩
    exact iteFa (by simp [h2]) q
def sp_Arrangement_ends (C : Addr) : Sp := fun vs H Q _ => ∃ (o : Addr) (n : Nat) (p : Int → Int), vs = [.ref o] ∧ ArrAt C H o n p ∧ ∀ l, H l = none → Q (.ref l) (upd H l (.lst (iv (arrL n p))))
theorem ok_Arrangement_ends {f C : Addr} {fd : FuncData} {k : Nat} (F : Fun K "ends" "Arrangement.ends" s_Arrangement_ends f fd) (TC : ArrC K mg C) (z_list : mg "list" = none) : FG P w K mg base CX0 (k + 1) f fd ["self"] (sp_Arrangement_ends C) := by
  refine fg_fun F sc_Arrangement_ends (fun vs H Q E h => ?_) (fun cdv A out s H vs Q E hr hg h => ?_)
  · obtain ⟨_, _, _, rfl, _⟩ := h
    rfl
  · obtain ⟨o, n, p, rfl, ⟨dx, t, ho, ht⟩, q⟩ := h
    refine ⟨_, (pss_one (ps_ret (pe_callTy (call_list_ofK K rfl) (by rfl) z_list bt_list (pa_cons (pe_fld (pv 0) rfl) pa_nil)))), ?_⟩
    exact ⟨_, rfl, o, C, dx, told t, _, rfl, ho, TC.cl, TC.nT, told_at t, t, _, rfl, .inl (SqL.of ht), q⟩
def sp_Arrangement___len__ (C : Addr) : Sp := fun vs H Q _ => ∃ (o : Addr) (n : Nat) (p : Int → Int), vs = [.ref o] ∧ ArrAt C H o n p ∧ Q (.int n) H
theorem ok_Arrangement___len__ {f C : Addr} {fd : FuncData} {k : Nat} (F : Fun K "__len__" "Arrangement.__len__" s_Arrangement___len__ f fd) (TC : ArrC K mg C) (z_len : mg "len" = none) : FG P w K mg base CX0 (k + 1) f fd ["self"] (sp_Arrangement___len__ C) := by
  refine fg_fun F sc_Arrangement___len__ (fun vs H Q E h => ?_) (fun cdv A out s H vs Q E hr hg h => ?_)
  · obtain ⟨_, _, _, rfl, _⟩ := h
    rfl
  · obtain ⟨o, n, p, rfl, ⟨dx, t, ho, ht⟩, q⟩ := h
    refine ⟨_, (pss_one (ps_ret (pe_callB (call_len_seqK K rfl) (by rfl) z_len bt_len (pa_cons (pe_fld (pv 0) rfl) pa_nil)))), ?_⟩
    have hl : (iv (arrL n p)).length = n := by rw [iv_len, arrL_len]
    refine ⟨_, rfl, o, C, dx, told t, _, rfl, ho, TC.cl, TC.nT, told_at t, t, _, rfl, .inl (SqL.of ht), ?_⟩
    rw [hl]
    exact q
def sp_Arrangement___getitem__ (C : Addr) : Sp := fun vs H Q _ => ∃ (o : Addr) (n : Nat) (p : Int → Int) (c : Int), vs = [.ref o, .int c] ∧ ArrAt C H o n p ∧ 1 ≤ c ∧ c ≤ n ∧ Q (.int (p c)) H
theorem ok_Arrangement___getitem__ {f C : Addr} {fd : FuncData} {k : Nat} (F : Fun K "__getitem__" "Arrangement.__getitem__" s_Arrangement___getitem__ f fd) (TC : ArrC K mg C) (z_len : mg "len" = none) (c_check_cell : CalG P w K mg base k "check_cell" s_check_cell ["cell", "cells"] sp_check_cell) :
    FG P w K mg base CX0 (k + 1) f fd ["self", "cell"] (sp_Arrangement___getitem__ C) := by
  refine fg_fun F sc_Arrangement___getitem__ (fun vs H Q E h => ?_) (fun cdv A out s H vs Q E hr hg h => ?_)
  · obtain ⟨_, _, _, _, rfl, _⟩ := h
    rfl
  · obtain ⟨o, n, p, c, rfl, ⟨dx, t, ho, ht⟩, c1, c2, q⟩ := h
    refine ⟨_, (pss_cons (ps_expr (pe_cG c_check_cell hr (by omega) hg (by rfl) (pa_cons (pv 1) (pa_cons (pe_callB (call_len_seqK K rfl) (by rfl) z_len bt_len (pa_cons (pe_fld (pv 0) rfl) pa_nil)) pa_nil))))
      (pss_one (ps_ret (pe_ix (ix_listK K rfl) (pe_fld (pv 0) rfl) (pe_op op_sub (pv 1) pe_int) (fun _ _ => rfl))))), ?_⟩
    have hl : (iv (arrL n p)).length = n := by rw [iv_len, arrL_len]
    refine ⟨_, rfl, _, rfl, o, C, dx, told t, _, rfl, ho, TC.cl, TC.nT, told_at t, t, _, rfl, .inl (SqL.of ht), c, _, rfl, c1, by rw [hl]; exact c2, ?_⟩
    exact ⟨_, rfl, o, C, dx, told t, _, rfl, ho, TC.cl, TC.nT, told_at t, _, rfl, _, _, rfl, rfl, t, _, _, _, rfl, rfl, SqL.of ht, at_of (j := (c - 1).toNat) (by omega) (iv_get (arrL_get ⟨c1, c2⟩)), q⟩
/-- the values, each in the place of its end -/
def movV (n : Nat) (p : Int → Int) (xs : List V) : List V := tab n fun j => xs.getD (inv n p (j + 1) - 1).toNat .non
def sp_Arrangement___call__ (K : PySem.W.Frag) (C : Addr) : Sp := fun vs H Q _ => ∃ (o e : Addr) (n : Nat) (p : Int → Int) (xs : List V), vs = [.ref o, .ref e] ∧ n ≤ 16 ∧ PermF n p ∧ ArrAt C H o n p ∧ SqL K H e xs ∧ xs.length = n ∧
  ∀ H' l, Loc H H' [(l, .lst (movV n p xs))] → Q (.ref l) H'
theorem ok_Arrangement___call__ {f C : Addr} {fd : FuncData} {k : Nat} (F : Fun K "__call__" "Arrangement.__call__" s_Arrangement___call__ f fd) (TC : ArrC K mg C) (z_list : mg "list" = none) (z_isinstance : mg "isinstance" = none) (z_len : mg "len" = none)
    (c_turned_back : CalG P w K mg base k "turned_back" s_turned_back ["row"] (sp_turned_back K)) : FG P w K mg base CX0 (k + 1) f fd ["self", "values"] (sp_Arrangement___call__ K C) := by
  refine fg_fun F sc_Arrangement___call__ (fun vs H Q E h => ?_) (fun cdv A out s H vs Q E hr hg h => ?_)
  · obtain ⟨_, _, _, _, _, rfl, _⟩ := h
    rfl
  · obtain ⟨o, e, n, p, xs, rfl, n2, hp, ⟨dx, t, ho, ht⟩, he, hx, q⟩ := h
    refine ⟨_, (pss_cons (ps_if (PW.pt (pw_or (pt_not (pt_val (pe_callB (call_isiK2 K rfl) (by rfl) z_isinstance bt_isinstance (pa_cons (pv 1) (pa_cons (pe_bltn (v := .ty "list") (by rfl) z_list bt_list rfl) pa_nil))))) (pw_or1 (pt_cmpR op_ne (pe_callB (call_len_seqK K rfl) (by rfl) z_len bt_len (pa_cons (pv 1) pa_nil)) (pe_callB (call_len_seqK K rfl) (by rfl) z_len bt_len (pa_cons (pe_fld (pv 0) rfl) pa_nil)) (nomark _)))))
        (pss_one ps_never)
        pss_nil)
      (pss_one (ps_ret (pe_lc (own := [("cell", 2)]) (tt := tYes) rfl sc_Arrangement___call__.nd (pi_listK K rfl (pe_cG c_turned_back hr (by omega) hg (by rfl) (pa_cons (pe_fld (pv 0) rfl) pa_nil))) (blkOk_by (N := ["self", "values", "cell"]) (sc := defScope s_Arrangement___call__) (by decide +kernel)) (fun _ _ _ _ _ => (pg_name (i := 2) sc_Arrangement___call__.nd rfl (Or.inl rfl))) (fun _ _ _ _ _ => pts_nil) (fun _ _ _ _ _ => (pe_ix (ix_listK K rfl) (pv 1) (pe_op op_sub (pv 2) pe_int) (fun _ _ => rfl))))))), ?_⟩
    have hl : (iv (arrL n p)).length = n := by rw [iv_len, arrL_len]
    refine ⟨_, rfl, ⟨_, _, _, _, _, rfl, .ty _, tyx_list he, kit_ty kb_ll, _, rfl, iteF ⟨_, rfl, e, _, rfl, .inl he, _, rfl, o, C, dx, told t, _, rfl, ho, TC.cl, TC.nT, told_at t, t, _, rfl, .inl (SqL.of ht), rfl, _, rfl, iteFF (by rw [hl, hx]; simp) ?_⟩⟩⟩
    refine ⟨_, rfl, o, C, dx, told t, _, rfl, ho, TC.cl, TC.nT, told_at t, t, n, p, rfl, n2, hp, SqL.of ht, fun H1 d l1 => ?_⟩
    have he1 := l1.same.seq he
    refine ⟨d, rfl, ⟨_, SqL.of l1.at0⟩, fun D hD => lc_list (K := K) (a := d) (xs := iv (arrL n (inv n p))) (fun i H2 => Loc H1 H2 [(D, .lst (tab i fun j => xs.getD (inv n p (j + 1) - 1).toNat .non))]) ((Loc.refl H1).alloc hD) (fun i H2 _ l => l.same.seq (SqL.of l1.at0)) ?_ ?_⟩
    · rintro i x H2 hx2 l
      obtain ⟨c, hc, rfl⟩ := iv_inv hx2
      obtain ⟨hi, rfl⟩ := arrL_at hc
      have hb1 := hp.inv.into (i + 1) (by omega)
      have g : xs[(inv n p (i + 1) - 1).toNat]? = some (xs.getD (inv n p (i + 1) - 1).toNat .non) := by
        rw [List.getD_eq_getElem?_getD, List.getElem?_eq_getElem (by omega)]; rfl
      refine ⟨rfl, _, rfl, _, rfl, _, _, rfl, rfl, e, _, _, _, rfl, rfl, l.same.seq he1, at_of (j := (inv n p (i + 1) - 1).toNat) (by omega) g, _, l.at0, sl_line' (by rw [tab_len]; omega), ?_⟩
      rw [tab_succ]
      exact l.put0
    · intro H2 l
      rw [iv_len, arrL_len] at l
      exact q H2 D ((l1.call l).keep (List.sublist_append_left _ _))
end

abbrev s_Arrangement___eq__ : Stmt := inClass (topS 24) 4
theorem sc_Arrangement___eq__ : FnScope ["self", "other"] ["self", "other"] (defScope s_Arrangement___eq__) := ⟨rfl, rfl, rfl, by decide +kernel, rfl, by decide +kernel, by decide +kernel⟩
section
variable {P : Program} {w : World} {K : PySem.W.Frag} {mg : Str → Option Value} {base : Heap}
/-- == of an arrangement and another one, or a thing of a built-in class -/
def sp_Arrangement___eq__ (K : PySem.W.Frag) (C : Addr) : Sp := fun vs H Q _ => (∃ (a b : Addr) (n m : Nat) (p r : Int → Int), vs = [.ref a, .ref b] ∧ ArrAt C H a n p ∧ ArrAt C H b m r ∧ Q (.bl (decide (arrL n p = arrL m r))) H) ∨
  ∃ (a : Addr) (y : V) (T : String), vs = [.ref a, y] ∧ TyX K H y (.type T) ∧ PySem.W.kitOne K (.type T) (.ref C) = some false ∧ Q (.bl false) H
theorem ok_Arrangement___eq__ {f C : Addr} {fd : FuncData} {k : Nat} (F : Fun K "__eq__" "Arrangement.__eq__" s_Arrangement___eq__ f fd) (TC : ArrC K mg C) (z_isinstance : mg "isinstance" = none) (hkit : PySem.W.kitOne K (.ref C) (.ref C) = some true) : FG P w K mg base CX0 (k + 1) f fd ["self", "other"] (sp_Arrangement___eq__ K C) := by
  refine fg_fun F sc_Arrangement___eq__ (fun vs H Q E h => ?_) (fun cdv A out s H vs Q E hr hg h => ?_)
  · rcases h with ⟨_, _, _, _, _, _, rfl, _⟩ | ⟨_, _, _, rfl, _⟩ <;> rfl
  · have hu64 := hr.units
    have TI := TC
    rcases h with ⟨a, b, n, m, p, r, rfl, ⟨dx, t, ho, ht⟩, hb, q⟩ | ⟨a, y, T, rfl, ty, kt, q⟩
    · have ty := hb.tyx TC
      obtain ⟨dy, u, ho2, hu⟩ := hb
      refine ⟨_, (pss_one (ps_ret (pe_and (pe_callB (call_isiK2 K rfl) (by rfl) z_isinstance bt_isinstance (pa_cons (pv 1) (pa_cons (pe_glob (v := .ref C) rfl TI.mgC rfl) pa_nil))) (pe_one (pe_cmpR (op_eqDK K rfl hu64) (pe_fld (pv 0) rfl) (pe_fld (pv 1) rfl) (nomark _)))))), ?_⟩
      refine ⟨_, rfl, ⟨_, _, _, _, _, rfl, .own C, ty, hkit, _, rfl, iteT ?_⟩⟩
      refine ⟨_, rfl, a, C, dx, told t, _, rfl, ho, TC.cl, TC.nT, told_at t, _, rfl, b, C, dy, told u, _, rfl, ho2, TC.cl, TC.nT, told_at u, _, _, IsInts.dp (SqL.of ht), IsInts.dp (SqL.of hu), shaped_dI _, shaped_dI _, ?_⟩
      rw [eqv_dI]
      exact q
    · refine ⟨_, (pss_one (ps_ret (pe_and (pe_callB (call_isiK2 K rfl) (by rfl) z_isinstance bt_isinstance (pa_cons (pv 1) (pa_cons (pe_glob (v := .ref C) rfl TI.mgC rfl) pa_nil))) (pe_one (pe_cmpR (op_eqDK K rfl hu64) (pe_fld (pv 0) rfl) (pe_fld (pv 1) rfl) (nomark _)))))), ?_⟩
      exact ⟨_, rfl, ⟨_, _, _, _, _, rfl, .own C, ty, kt, _, rfl, iteF q⟩⟩
end

/-- what the law asks of the class -/
structure ArrT (P : Program) (w : World) (K : PySem.W.Frag) (mg : Str → Option Value) (base : Heap) (k : Nat) (C : Addr) (ge ga pr gr pe gn gl gi gc : Addr) : Prop where
  cl : Cls K C
  sf : PySem.W.selfFirst K C = true
  s___eq__ : SpecialOf K C "__eq__" ge
  f___eq__ : FnG P w K mg base k ge ["self", "other"] (sp_Arrangement___eq__ K C)
  s___abs__ : SpecialOf K C "__abs__" ga
  f___abs__ : FnG P w K mg base k ga ["self"] (sp_Arrangement___abs__ C)
  p_rounds : PropOf K C "rounds" pr gr
  f_rounds : FnG P w K mg base k gr ["self"] (sp_Arrangement_rounds C)
  p_ends : PropOf K C "ends" pe gn
  f_ends : FnG P w K mg base k gn ["self"] (sp_Arrangement_ends C)
  s___len__ : SpecialOf K C "__len__" gl
  f___len__ : FnG P w K mg base k gl ["self"] (sp_Arrangement___len__ C)
  s___getitem__ : SpecialOf K C "__getitem__" gi
  f___getitem__ : FnG P w K mg base k gi ["self", "cell"] (sp_Arrangement___getitem__ C)
  s___call__ : SpecialOf K C "__call__" gc
  f___call__ : FnG P w K mg base k gc ["self", "values"] (sp_Arrangement___call__ K C)
  k___call__ : FnGK P w K mg base k gc ["self", "values"] 1 ["values"] turn1 turn1 (sp_Arrangement___call__ K C)
structure ArrIK (P : Program) (w : World) (K : PySem.W.Frag) (mg : Str → Option Value) (base : Heap) (k : Nat) (C fI : Addr) : Prop where
  intro ::
  mk : Mk K C fI
  init : FnG P w K mg base k fI ["self", "ends"] (sp_Arrangement___init__ K C)
  mgC : mg "Arrangement" = some (.ref C)
  initK : FnGK P w K mg base k fI ["self", "ends"] 1 ["ends"] turn1 turn1 (sp_Arrangement___init__ K C)

abbrev s__law_rounds : Stmt := topS 30
theorem sc__law_rounds : FnScope ["_law_told", "_law_some", "_law_k", "_law_ring"] ["_law_told"] (defScope s__law_rounds) := ⟨rfl, rfl, rfl, by decide +kernel, rfl, by decide +kernel, by decide +kernel⟩
section
variable {P : Program} {w : World} {K : PySem.W.Frag} {mg : Str → Option Value} {base : Heap}
def sp__law_rounds (K : PySem.W.Frag) : Sp := fun vs H Q _ => ∃ (a : Addr) (n : Nat) (p : Int → Int), vs = [.ref a] ∧ n ≤ 16 ∧ PermF n p ∧ IsInts K H a (arrL n p) ∧
  ∀ H' t rs, vals rs = roundsF n p → Loc H H' ((t, .lst (refs rs)) :: rowL rs) → Q (.ref t) H'
theorem ok__law_rounds {f : Addr} {fd : FuncData} {k : Nat} (F : Fun K "_law_rounds" "_law_rounds" s__law_rounds f fd) (z_len : mg "len" = none) (z_range : mg "range" = none) (z_min : mg "min" = none) (z_int : mg "int" = none) : FG P w K mg base CX0 (k + 1) f fd ["_law_told"] (sp__law_rounds K) := by
  refine fg_fun F sc__law_rounds (fun vs H Q E h => ?_) (fun cdv A out s H vs Q E hr hg h => ?_)
  · obtain ⟨_, _, _, rfl, _⟩ := h
    rfl
  · obtain ⟨a, n, p, rfl, hn, hp, ha, qq⟩ := h
    refine ⟨_, (pss_cons (ps_set (i := 1) sc__law_rounds.nd rfl (.inl rfl) (pe_lst pa_nil))
      (pss_cons (ps_for PassesOwn.never rfl (pi_range2 (by rfl) z_range (pa_cons pe_int (pa_cons (pe_op op_add (pe_callB (call_len_seqK K rfl) (by rfl) z_len bt_len (pa_cons (pv 0) pa_nil)) pe_int) pa_nil))) (pg_name (i := 2) sc__law_rounds.nd rfl (.inl rfl))
        (pss_cons (ps_set (i := 3) sc__law_rounds.nd rfl (.inl rfl) (pe_lst (pa_cons (pv 2) pa_nil)))
          (pss_cons (ps_while PassesOwn.never (pt_cmpR op_ne (pe_ix (ix_listK K rfl) (pv 0) (pe_op op_sub (pe_ix (ix_listK K rfl) (pv 3) (pe_un un_neg pe_int) (fun _ _ => rfl)) pe_int) (fun _ _ => rfl)) (pv 2) (nomark _))
            (pss_one (ps_expr (pe_bmK K rfl PySem.F.plainAttrs_list PySem.F.slot_list_append PySem.F.type_list_append mt_append (pv 3) (pa_cons (pe_ix (ix_listK K rfl) (pv 0) (pe_op op_sub (pe_ix (ix_listK K rfl) (pv 3) (pe_un un_neg pe_int) (fun _ _ => rfl)) pe_int) (fun _ _ => rfl)) pa_nil)))))
          (pss_one (ps_set (i := 1) sc__law_rounds.nd rfl (.inl rfl) (pe_op op_cat (pv 1) (pe_op op_rep (pe_lst (pa_cons (pv 3) pa_nil)) (pe_callTy call_int1 (by rfl) z_int bt_int (pa_cons (pe_cmpR op_eq (pe_callB (cr_minK K rfl rfl) (by rfl) z_min bt_min (pa_cons (pv 3) pa_nil)) (pv 2) (nomark _)) pa_nil)))))))))
      (pss_one (ps_ret (pv 1))))), ?_⟩
    have hl : (iv (arrL n p)).length = n := by rw [iv_len, arrL_len]
    refine ⟨by decide, fun t0 ht0 => ⟨_, rfl, a, _, rfl, .inl ((sA ht0).seq ha), _, _, rfl, rfl, _, _, rfl, ⟨by omega, by omega, by omega, by omega⟩, for_range (lo := 1) (n := (((iv (arrL n p)).length : Int) + 1 - 1).toNat)
      (fun i σ H2 => ∃ (t : Addr) (y2 y3 : Option V) (rs : List (Addr × List Int)), σ = [some (.ref a), some (.ref t), y2, y3] ∧ vals rs = ((cellsTo i).filter (lead n p)).map (ring n p) ∧ rs.length ≤ i ∧ Loc H H2 ((t, .lst (refs rs)) :: rowL rs)) ?_ ?_ ?_⟩⟩
    · exact ⟨t0, none, none, [], rfl, rfl, Nat.le_refl _, (Loc.refl H).alloc ht0⟩
    · rintro i σ H2 hi ⟨t, y2, y3, rs, rfl, ev, rl, l⟩
      have hi' : i < n := by omega
      have hc : (1 : Int) ≤ 1 + i ∧ (1 : Int) + i ≤ n := by omega
      obtain ⟨M, M1, M2, M3, M4, Me⟩ := hp.ring_eq hc
      refine ⟨_, rfl, sl1, fun r hr => ?_⟩
      have l0 := l.alloc (o := .lst (iv (tab 1 fun j => it p j (1 + i)))) hr
      refine ⟨fun m σ H3 => ∃ (k : Nat), σ = [some (.ref a), some (.ref t), some (.int (1 + i)), some (.ref r)] ∧ k < M ∧ m = M - k ∧ Loc H H3 ((r, .lst (iv (tab (k + 1) fun j => it p j (1 + i)))) :: (t, .lst (refs rs)) :: rowL rs),
        ⟨_, 0, rfl, by omega, rfl, l0⟩, ?_⟩
      rintro m σ H3 ⟨k, rfl, hk, rfl, l1⟩
      have wn : (tab (k + 1) fun j => it p j (1 + i)) ≠ [] := fun z => by have := congrArg List.length z; rw [tab_len] at this; cases this
      have wl := at_lastI wn
      rw [tab_succ, last_snoc, ← tab_succ] at wl
      have ik := hp.it_in hc k
      have ha3 := l1.same.seq ha
      refine ⟨_, rfl, _, rfl, _, rfl, r, _, _, _, rfl, rfl, SqL.of l1.at0, wl, _, _, rfl, rfl, a, _, _, _, rfl, rfl, ha3, at_of (j := (it p k (1 + i) - 1).toNat) (by omega) (iv_get (arrL_get ik)), _, rfl, rfl, _, rfl, ite2 (fun hb => ?_) (fun hb => ?_)⟩
      · have ne : it p (k + 1) (1 + i) ≠ 1 + i := by
          show p (it p k (1 + i)) ≠ 1 + i
          simpa using hb
        have hk2 : k + 1 < M := by
          rcases Nat.lt_or_ge (k + 1) M with h | h
          · exact h
          · exact absurd (by have : k + 1 = M := by omega
                             rw [this]; exact M3) ne
        refine ⟨fun σ' H' => ∃ m', m' < M - k ∧ _, fun _ _ z => z, ?_⟩
        refine ⟨_, rfl, .inl ⟨rfl, _, SqL.of l1.at0⟩, _, rfl, _, rfl, _, rfl, r, _, _, _, rfl, rfl, SqL.of l1.at0, wl, _, _, rfl, rfl, a, _, _, _, rfl, rfl, ha3, at_of (j := (it p k (1 + i) - 1).toNat) (by omega) (iv_get (arrL_get ik)), r, _, _, rfl, rfl, l1.at0, ?_, ?_⟩
        · rw [iv_len, tab_len]; exact sl_line' (by omega)
        refine ⟨M - (k + 1), by omega, k + 1, rfl, hk2, rfl, ?_⟩
        have e1 : iv (tab (k + 1 + 1) fun j => it p j (1 + i)) = iv (tab (k + 1) fun j => it p j (1 + i)) ++ [.int (p (it p k (1 + i)))] := by
          rw [tab_succ, iv_snoc]
          rfl
        rw [e1]
        exact l1.put0
      · have eq : it p (k + 1) (1 + i) = 1 + i := by
          show p (it p k (1 + i)) = 1 + i
          simpa using hb
        have hk2 : k + 1 = M := by
          rcases Nat.lt_or_ge (k + 1) M with h | h
          · exact absurd eq (M4 (k + 1) (by omega) h)
          · omega
        have er : (tab (k + 1) fun j => it p j (1 + i)) = ring n p (1 + i) := by rw [Me, hk2]; rfl
        rw [er] at l1
        have rne := (hp.ring_len hc).1
        have ec : (1 : Int) + i = (i : Int) + 1 := by omega
        refine ⟨_, rfl, _, rfl, sl1, fun e he => ?_⟩
        have l2 := l1.alloc (o := .lst [.ref r]) he
        refine ⟨_, rfl, r, ring n p (1 + i), rfl, SqL.of (l2.atIx (i := 1) rfl), by omega, fun mn hmn hle => ⟨_, rfl, rfl, .inr ⟨_, rfl, ?_⟩⟩⟩
        have ld : (decide (V.int mn = V.int (1 + i)) = true) ↔ lead n p (i + 1) = true := by
          rw [← ec]
          unfold lead
          rw [List.all_eq_true, decide_eq_true_eq]
          constructor
          · intro h x hx
            have := hle x hx
            have : mn = 1 + i := by simpa using h
            exact decide_eq_true (by omega)
          · intro h
            have h1 := of_decide_eq_true (h mn hmn)
            have h2 := hle (1 + i) ((hp.mem_ring' hc).mpr Rnd.refl)
            have : mn = 1 + i := by omega
            rw [this]
        by_cases hb : lead n p (i + 1) = true
        · refine ⟨e, _, [.ref r], rfl, rfl, l2.at0, by rw [ld.mpr hb]; decide, by rw [ld.mpr hb]; decide, Nat.le_trans (show _ ≤ 1 from by rw [ld.mpr hb]; simp) (by decide), fun g hgn => ?_⟩
          rw [ld.mpr hb]
          have l3 := l2.alloc (o := .lst [.ref r]) hgn
          refine ⟨t, g, refs rs, [.ref r], rfl, rfl, l3.atIx (i := 3) rfl, l3.at0, by rw [refs_len]; exact Nat.le_of_lt (sl_line' (by simp; omega)), fun u hu => ?_⟩
          have l4 := l3.alloc (o := .lst (refs rs ++ [.ref r])) hu
          refine ⟨u, _, _, rs ++ [(r, ring n p (1 + i))], rfl, ?_, by simp; omega, ?_⟩
          · rw [roundsTo_snoc, if_pos hb, ← ev, ← ec]
            exact List.map_append
          · have er2 : rowL (rs ++ [(r, ring n p (1 + i))]) = rowL rs ++ [(r, .lst (iv (ring n p (1 + i))))] := List.map_append ..
            rw [refs_snoc, er2]
            have l5 := l4.keep (M := (u, .lst (refs rs ++ [.ref r])) :: (r, .lst (iv (ring n p (1 + i)))) :: rowL rs) (.cons_cons _ (.cons _ (.cons _ (.cons_cons _ (.cons _ (List.Sublist.refl _))))))
            exact l5.perm (List.Perm.cons _ (List.perm_append_comm (l₁ := rowL rs) (l₂ := [(r, .lst (iv (ring n p (1 + i))))])))
        · have hf : decide (V.int mn = V.int (1 + i)) = false := Bool.eq_false_iff.mpr fun z => hb (ld.mp z)
          refine ⟨e, _, [.ref r], rfl, rfl, l2.at0, by rw [hf]; decide, by rw [hf]; decide, Nat.le_trans (show _ ≤ 1 from by rw [hf]; simp) (by decide), fun g hgn => ?_⟩
          rw [hf]
          have l3 := l2.alloc (o := .lst []) hgn
          refine ⟨t, g, refs rs, [], rfl, rfl, l3.atIx (i := 3) rfl, l3.at0, by rw [refs_len]; exact Nat.le_of_lt (sl_line' (by simp; omega)), fun u hu => ?_⟩
          have l4 := l3.alloc (o := .lst (refs rs ++ [])) hu
          refine ⟨u, _, _, rs, rfl, ?_, by omega, ?_⟩
          · rw [roundsTo_snoc, if_neg hb, List.append_nil, ev]
          · rw [List.append_nil] at l4 ⊢
            exact l4.keep (.cons_cons _ (.cons _ (.cons _ (.cons _ (.cons _ (List.Sublist.refl _))))))
    · rintro σ H2 ⟨t, y2, y3, rs, rfl, ev, rl, l⟩
      rw [show (((iv (arrL n p)).length : Int) + 1 - 1).toNat = n by omega] at ev
      exact ⟨_, rfl, qq H2 t rs ev l⟩
end

abbrev s__law_right : Stmt := topS 31
theorem sc__law_right : FnScope ["_law_told", "_law_other", "_law_kept", "_law_handed", "_law_box", "_law_due", "_law_turn", "_law_some", "_law_row", "_law_same", "_law_two", "_law_k", "_law_thing"] ["_law_told", "_law_other"] (defScope s__law_right) := ⟨rfl, rfl, rfl, by decide +kernel, rfl, by decide +kernel, by decide +kernel⟩
theorem kit_false {K : PySem.W.Frag} {C : Addr} {T : String} (h1 : PySem.W.isClsIn K C = true) (h2 : PySem.W.typeIn K (.ref C) = some (.type "type")) (h3 : PySem.W.subIn K (.type T) (.ref C) = some false) :
    PySem.W.kitOne K (.type T) (.ref C) = some false ∧ PySem.W.notFirst K C (.type T) = true := by
  constructor
  · unfold PySem.W.kitOne PySem.W.kitCls
    rw [if_neg (by intro z; cases beq_iff_eq.mp z)]
    simp only
    rw [if_pos (by rw [show (PySem.W.clsIn K C).isSome = true from h1, h2]; rfl)]
    exact h3
  · unfold PySem.W.notFirst
    rw [h3]
    simp
theorem notFirst_self {K : PySem.W.Frag} {C : Addr} : PySem.W.notFirst K C (.ref C) = true := by
  unfold PySem.W.notFirst
  simp
section
variable {P : Program} {w : World} {K : PySem.W.Frag} {mg : Str → Option Value} {base : Heap}
theorem arr_sm {n : Nat} {p : Int → Int} (n2 : n ≤ 16) (hp : PermF n p) : Sm 16 1 (dI (arrL n p)) := sm_dI (fun i hi => by have := arrL_in hp i hi; omega) (by rw [arrL_len]; exact n2)
theorem rounds_sm {n : Nat} {p : Int → Int} (n2 : n ≤ 16) (hp : PermF n p) : Sm (16 * 17) 2 (dR (roundsF n p)) := sm_dR (n := 16) (m := 16) (fun r hr => by
  obtain ⟨c, hc, rfl⟩ := List.mem_map.mp hr
  have hc' := mem_cellsTo.mp (List.mem_filter.mp hc).1
  exact ⟨Nat.le_trans (hp.ring_len hc').2 n2, fun i hi => by have := hp.ring_in hc' hi; omega⟩) (by
  unfold roundsF
  rw [List.length_map]
  exact Nat.le_trans (List.length_filter_le _ _) (by rw [cellsTo_len]; exact n2))
def sp__law_right (K : PySem.W.Frag) : Sp := fun vs H Q _ => ∃ (a b : Addr) (n m : Nat) (p r : Int → Int), vs = [.ref a, .ref b] ∧ 1 ≤ n ∧ n ≤ 16 ∧ PermF n p ∧ 1 ≤ m ∧ m ≤ 16 ∧ PermF m r ∧ IsInts K H a (arrL n p) ∧ IsInts K H b (arrL m r) ∧ ∀ H', Same H H' → Q (.bl true) H'
theorem ok__law_right {f C fI ge ga pr gr pe gn gl gi gc : Addr} {fd : FuncData} {k kc kt : Nat} (hkc : kc + 1 ≤ k) (hkt : kt + 1 ≤ k) (F : Fun K "_law_right" "_law_right" s__law_right f fd) (TC : ArrC K mg C) (TI : ArrIK P w K mg base kc C fI) (TA : ArrT P w K mg base kt C ge ga pr gr pe gn gl gi gc)
    (hx_cls : PySem.W.isClsIn K C = true) (hx_ty : PySem.W.typeIn K (.ref C) = some (.type "type")) (hx_non : PySem.W.subIn K (.type "NoneType") (.ref C) = some false) (hx_list : PySem.W.subIn K (.type "list") (.ref C) = some false) (hx_int : PySem.W.subIn K (.type "int") (.ref C) = some false)
    (hx_str : PySem.W.subIn K (.type "str") (.ref C) = some false) (hx_tuple : PySem.W.subIn K (.type "tuple") (.ref C) = some false)
    (z_repr : mg "repr" = none) (z_list : mg "list" = none) (z_range : mg "range" = none) (z_len : mg "len" = none) (z_abs : mg "abs" = none)
    (c__law_rounds : CalG P w K mg base k "_law_rounds" s__law_rounds ["_law_told"] (sp__law_rounds K)) : FG P w K mg base CX0 (k + 1) f fd ["_law_told", "_law_other"] (sp__law_right K) := by
  refine fg_fun F sc__law_right (fun vs H Q E h => ?_) (fun cdv A out s H vs Q E hr hg h => ?_)
  · obtain ⟨_, _, _, _, _, _, rfl, _⟩ := h
    rfl
  · have hu64 := hr.units
    obtain ⟨a, b, n, m, p, r, rfl, n1, n2, hp, m1, m2, hr2, ha, hb, q⟩ := h
    refine ⟨_, (pss_cons (ps_set (i := 2) sc__law_right.nd rfl (.inl rfl) (pe_callB (call_reprDK K rfl hu64 hg) (by rfl) z_repr bt_repr (pa_cons (pv 0) pa_nil)))
      (pss_cons (ps_set (i := 3) sc__law_right.nd rfl (.inl rfl) (pe_callTy (call_list_ofK K rfl) (by rfl) z_list bt_list (pa_cons (pv 0) pa_nil)))
      (pss_cons (ps_set (i := 4) sc__law_right.nd rfl (.inr rfl) (pe_makeG TI.mk TI.init hr (by omega) hg (by rfl) TI.mgC (pa_cons (pv 3) pa_nil)))
      (pss_cons (ps_expr (pe_bm0K K rfl PySem.F.plainAttrs_list PySem.F.slot_list_reverse PySem.F.type_list_reverse mt_reverse (pv 3)))
      (pss_cons (ps_expr (pe_bmK K rfl PySem.F.plainAttrs_list PySem.F.slot_list_append PySem.F.type_list_append mt_append (pv 3) (pa_cons pe_non pa_nil)))
      (pss_cons (ps_set (i := 5) sc__law_right.nd rfl (.inl rfl) (pe_cG c__law_rounds hr (by omega) hg (by rfl) (pa_cons (pv 0) pa_nil)))
      (pss_cons (ps_for PassesOwn.never rfl (pi_range1 (by rfl) z_range (pa_cons pe_int pa_nil)) (pg_name (i := 6) sc__law_right.nd rfl (.inl rfl))
        (pss_cons (ps_if (pt_cmpR op_ne (pe_callB (call_reprDK K rfl hu64 hg) (by rfl) z_repr bt_repr (pa_cons (pe_propG (pv 4) TA.cl TA.p_ends TA.f_ends hr (by omega) hg) pa_nil)) (pe_callB (call_reprDK K rfl hu64 hg) (by rfl) z_repr bt_repr (pa_cons (pv 0) pa_nil)) (nomark _))
            (pss_one (ps_ret pe_bl))
            pss_nil)
          (pss_cons (ps_set (i := 7) sc__law_right.nd rfl (.inl rfl) (pe_lst (pa_cons (pe_propG (pv 4) TA.cl TA.p_ends TA.f_ends hr (by omega) hg) (pa_cons (pe_propG (pv 4) TA.cl TA.p_rounds TA.f_rounds hr (by omega) hg) pa_nil))))
          (pss_cons (ps_if (PW.pt (pw_or (pt_cmpR op_ne (pe_callB (call_reprDK K rfl hu64 hg) (by rfl) z_repr bt_repr (pa_cons (pv 7) pa_nil)) (pe_callB (call_reprDK K rfl hu64 hg) (by rfl) z_repr bt_repr (pa_cons (pe_lst (pa_cons (pv 0) (pa_cons (pv 5) pa_nil))) pa_nil)) (nomark _)) (pw_or1 (pt_cmpR op_ne (pe_callB (call_lenOwn TA.s___len__ TA.f___len__ hr (by omega) hg) (by rfl) z_len bt_len (pa_cons (pv 4) pa_nil)) (pe_callB (call_len_seqK K rfl) (by rfl) z_len bt_len (pa_cons (pv 0) pa_nil)) (nomark _)))))
            (pss_one (ps_ret pe_bl))
            pss_nil)
          (pss_cons (ps_for PassesOwn.never rfl (pi_listK K rfl (pe_ix (ix_listK K rfl) (pv 7) pe_int (fun _ _ => rfl))) (pg_name (i := 8) sc__law_right.nd rfl (.inl rfl))
            (pss_one (ps_expr (pe_bmK K rfl PySem.F.plainAttrs_list PySem.F.slot_list_append PySem.F.type_list_append mt_append (pv 8) (pa_cons pe_non pa_nil)))))
          (pss_cons (ps_expr (pe_bmK K rfl PySem.F.plainAttrs_list PySem.F.slot_list_append PySem.F.type_list_append mt_append (pe_ix (ix_listK K rfl) (pv 7) pe_int (fun _ _ => rfl)) (pa_cons pe_non pa_nil)))
          (pss_one (ps_expr (pe_bmK K rfl PySem.F.plainAttrs_list PySem.F.slot_list_append PySem.F.type_list_append mt_append (pe_ix (ix_listK K rfl) (pv 7) pe_int (fun _ _ => rfl)) (pa_cons pe_non pa_nil))))))))))
      (pss_cons (ps_if (PW.pt (pw_or (pt_cmpR (op_neDK K rfl hu64) (pe_lc (own := [("_law_k", 11)]) (tt := tYes) rfl sc__law_right.nd (pi_range2 (by rfl) z_range (pa_cons pe_int (pa_cons (pe_op op_add (pe_callB (call_len_seqK K rfl) (by rfl) z_len bt_len (pa_cons (pv 0) pa_nil)) pe_int) pa_nil))) (blkOk_by (N := ["_law_told", "_law_other", "_law_kept", "_law_handed", "_law_box", "_law_due", "_law_turn", "_law_some", "_law_row", "_law_same", "_law_two", "_law_k", "_law_thing"]) (sc := defScope s__law_right) (by decide +kernel)) (fun _ _ _ _ _ => (pg_name (i := 11) sc__law_right.nd rfl (Or.inl rfl))) (fun _ _ _ _ _ => pts_nil) (fun _ _ _ _ _ => (pe_ixOwn TA.s___getitem__ TA.f___getitem__ hr (by omega) hg (pv 4) (pv 11)))) (pv 0) (nomark _)) (pw_or1 (pt_cmpR op_ne (pe_op op_add (pe_callB (call_len_seqK K rfl) (by rfl) z_len bt_len (pa_cons (pv 5) pa_nil)) (pe_callB (call_absOwn TA.s___abs__ TA.f___abs__ hr (by omega) hg) (by rfl) z_abs bt_abs (pa_cons (pv 4) pa_nil))) (pe_callB (call_len_seqK K rfl) (by rfl) z_len bt_len (pa_cons (pv 0) pa_nil)) (nomark _)))))
        (pss_one (ps_ret pe_bl))
        pss_nil)
      (pss_cons (ps_par (i := 9) (j := 10) (by rfl) sc__law_right.nd rfl rfl (by decide) rfl rfl (pa_cons (pe_makeGK TI.mk TI.initK hr (by omega) hg (by rfl) TI.mgC (pk_cons (pv 0) pk_nil)) (pa_cons (pe_makeG TI.mk TI.init hr (by omega) hg (by rfl) TI.mgC (pa_cons (pv 1) pa_nil)) pa_nil)) (by rfl))
      (pss_cons (ps_if (PW.pt (pw_or (pt_not (pt_cmpR (op_eqOwnK K rfl TA.s___eq__ TA.f___eq__ hr (by omega) hg) (pv 4) (pv 9) (nomark _))) (pw_or (pt_cmpR op_ne (pe_cmpR (op_eqOwnK K rfl TA.s___eq__ TA.f___eq__ hr (by omega) hg) (pv 4) (pv 10) (nomark _)) (pe_cmpR (op_eqDK K rfl hu64) (pv 0) (pv 1) (nomark _)) (nomark _)) (pw_or1 (pt_cmpR op_ne (pe_cmpR (op_eqOwnK K rfl TA.s___eq__ TA.f___eq__ hr (by omega) hg) (pv 10) (pv 4) (nomark _)) (pe_cmpR (op_eqDK K rfl hu64) (pv 0) (pv 1) (nomark _)) (nomark _))))))
        (pss_one (ps_ret pe_bl))
        pss_nil)
      (pss_one (ps_ret (pe_and (pe_cmpR (op_eqDK K rfl hu64) (pe_lc (own := [("_law_thing", 12)]) rfl sc__law_right.nd (pi_listK K rfl (pe_lst (pa_cons pe_non (pa_cons (pv 0) (pa_cons pe_int (pa_cons pe_str (pa_cons (pe_tup pa_nil) pa_nil))))))) (blkOk_by (N := ["_law_told", "_law_other", "_law_kept", "_law_handed", "_law_box", "_law_due", "_law_turn", "_law_some", "_law_row", "_law_same", "_law_two", "_law_k", "_law_thing"]) (sc := defScope s__law_right) (by decide +kernel)) (fun _ _ _ _ _ => (pg_name (i := 12) sc__law_right.nd rfl (Or.inl rfl))) (fun _ _ _ _ _ => (pts_one (pt_cmpR (op_eqOwnK K rfl TA.s___eq__ TA.f___eq__ hr (by omega) hg) (pv 4) (pv 12) (nomark _)))) (fun _ _ _ _ _ => (pv 12))) (pe_lst pa_nil) (nomark _)) (pe_one (pe_cmpR op_eq (pe_callB (call_reprDK K rfl hu64 hg) (by rfl) z_repr bt_repr (pa_cons (pv 0) pa_nil)) (pv 2) (nomark _)))))))))))))))), ?_⟩
    have smT := arr_sm n2 hp
    have smR := rounds_sm n2 hp
    have hl : (iv (arrL n p)).length = n := by rw [iv_len, arrL_len]
    refine ⟨_, rfl, _, _, rfl, ha.dp, smQ smT (by decide) (by decide) ?_⟩
    refine ⟨_, rfl, a, _, rfl, .inl ha, fun h1 hh1 => ?_⟩
    have l0 := (Loc.refl H).alloc (o := .lst (iv (arrL n p))) hh1
    refine ⟨_, rfl, ?_⟩
    dsimp only [tNil]
    refine mk_ok n1 n2 hp (SqL.of l0.at0) fun H2 o dx t lo => ?_
    have l1 := l0.call lo
    refine ⟨_, rfl, .inl ⟨rfl, _, SqL.of (l1.atIx (i := 3) rfl)⟩, h1, _, rfl, rfl, l1.atIx (i := 3) rfl, ?_⟩
    have l2 := l1.setIx (i := 3) (o' := .lst (iv (arrL n p)).reverse) rfl
    refine ⟨_, rfl, .inl ⟨rfl, _, SqL.of (l2.atIx (i := 3) rfl)⟩, h1, _, _, rfl, rfl, l2.atIx (i := 3) rfl, sl_line' (by rw [List.length_reverse, hl]; omega), ?_⟩
    have l3 := l2.setIx (i := 3) (o' := .lst ((iv (arrL n p)).reverse ++ [.non])) rfl
    have ha3 := ha.grow l3.same
    have hb3 := hb.grow l3.same
    refine ⟨_, rfl, a, n, p, rfl, n2, hp, ha3, fun H4 d rsd erd ld => ?_⟩
    have s4 := l3.same.trans ld.same
    have ha4 := ha3.grow ld.same
    have hb4 := hb3.grow ld.same
    have ho4 : H4 o = some (.ins C dx (told t)) := ld.same _ _ (l3.atIx (i := 0) rfl)
    have at4 : ArrAt C H4 o n p := ⟨dx, t, ho4, ld.same _ _ (l3.atIx (i := 2) rfl)⟩
    have due4 : IsRows K H4 d (roundsF n p) := by rw [← erd]; exact ld.isRows
    have rdl : (refs rsd).length = (roundsF n p).length := by rw [refs_len, ← vals_len, erd]
    have sqd : SqL K H4 d (refs rsd) := SqL.of ld.at0
    clear l0 l1 l2 l3 lo ld ha3 hb3
    refine ⟨_, rfl, by omega, by omega, for_range (lo := 0) (n := (2 : Int).toNat)
      (fun i σ H5 => ∃ y6 y7 y8 : Option V, σ = [some (.ref a), some (.ref b), some (.str (dI (arrL n p)).shown), some (.ref h1), some (.ref o), some (.ref d), y6, y7, y8, none, none, none, none] ∧ Same H4 H5) ⟨none, none, none, rfl, Same.refl _⟩ ?_ ?_⟩
    · rintro i σ H5 hi ⟨y6, y7, y8, rfl, s5⟩
      have ha5 := ha4.grow s5
      have at5 := at4.grow s5
      have due5 := due4.grow s5
      refine ⟨_, rfl, o, dx, told t, rfl, s5 _ _ ho4, o, n, p, rfl, at5, fun e1 he1 => ?_⟩
      have s6 := s5.trans (sA (o := .lst (iv (arrL n p))) he1)
      refine ⟨_, _, rfl, IsInts.dp (ns := arrL n p) (SqL.of upd_same), smQ smT (by decide) (by decide) ⟨_, rfl, _, _, rfl, (ha4.grow s6).dp, smQ smT (by decide) (by decide) ⟨rfl, _, rfl, iteFF (by simp) ?_⟩⟩⟩
      refine ⟨_, rfl, o, dx, told t, rfl, s6 _ _ ho4, o, n, p, rfl, at4.grow s6, fun e2 he2 => ?_⟩
      have s7 := s6.trans (sA (o := .lst (iv (arrL n p))) he2)
      have l7 := (Loc.refl _).alloc (o := .lst (iv (arrL n p))) he2
      refine ⟨_, rfl, o, dx, told t, rfl, s7 _ _ ho4, o, n, p, rfl, n2, hp, at4.grow s7, fun H8 tr rs ers lr => ⟨sl2, fun sm hsm => ?_⟩⟩
      have l8 := (l7.call lr).alloc (o := .lst [.ref e2, .ref tr]) hsm
      have l8' := l8.perm (M := [(sm, .lst [.ref e2, .ref tr]), (e2, .lst (iv (arrL n p))), (tr, .lst (refs rs))] ++ rowL rs) (by
        refine List.Perm.cons _ ?_
        show List.Perm ((e2, _) :: (tr, _) :: rowL rs) (((tr, _) :: rowL rs) ++ [(e2, _)])
        exact (List.perm_append_comm (l₁ := [(e2, HO.lst (iv (arrL n p)))]) (l₂ := (tr, HO.lst (refs rs)) :: rowL rs)))
      have i8e : IsInts K _ e2 (arrL n p) := SqL.of (l8'.atIx (i := 1) rfl)
      have i8r : IsRows K _ tr (roundsF n p) := ⟨rs, ers, SqL.of (l8'.atIx (i := 2) rfl), fun x hx => SqL.of (l8'.here (x.1, .lst (iv x.2)) (List.mem_append_right _ (List.mem_map.mpr ⟨x, hx, rfl⟩)))⟩
      have s8 := s6.trans l8'.same
      refine ⟨_, rfl, _, _, rfl, dp_two (SqL.of (l8'.atIx (i := 0) rfl)) i8e.dp i8r.dp, smQ (sm_two (smT.mono (by decide) (by decide)) smR) (by decide) (by decide) ?_⟩
      refine ⟨_, rfl, _, rfl, sl2, fun e3 he3 => ?_⟩
      have l9 := (l8'.alloc (o := .lst [.ref a, .ref d]) he3)
      have s9 := s8.trans (sA (o := .lst [.ref a, .ref d]) he3)
      refine ⟨_, _, rfl, dp_two (SqL.of l9.at0) (ha4.grow s9).dp (due4.grow s9).dp, smQ (sm_two (smT.mono (by decide) (by decide)) smR) (by decide) (by decide) ⟨rfl, _, rfl, iteFF (by simp) ?_⟩⟩
      refine ⟨_, rfl, o, dx, told t, rfl, s9 _ _ ho4, o, n, p, rfl, at4.grow s9, n, rfl, Nat.lt_of_le_of_lt n2 (by decide), _, rfl, a, _, rfl, .inl (ha4.grow s9), rfl, _, rfl, iteFF (by rw [hl]; simp) ?_⟩
      have lA := l9.drop1
      have rlen : rs.length ≤ n := by
        rw [← vals_len rs, ers]
        unfold roundsF
        rw [List.length_map]
        exact Nat.le_trans (List.length_filter_le _ _) (by rw [cellsTo_len]; exact Nat.le_refl _)
      refine ⟨_, rfl, sm, _, _, _, rfl, rfl, SqL.of (lA.atIx (i := 0) rfl), at_of (j := 1) rfl rfl, tr, rfl, ⟨_, SqL.of (lA.atIx (i := 2) rfl)⟩, for_list (K := K) (a := tr) (xs := refs rs)
        (fun j σ H' => ∃ y8 : Option V, σ = [some (.ref a), some (.ref b), some (.str (dI (arrL n p)).shown), some (.ref h1), some (.ref o), some (.ref d), some (.int (0 + i)), some (.ref sm), y8, none, none, none, none] ∧
          Loc (upd H5 e1 (.lst (iv (arrL n p)))) H' ([(sm, .lst [.ref e2, .ref tr]), (e2, .lst (iv (arrL n p))), (tr, .lst (refs rs))] ++ rowN j rs)) ?_ ?_ ?_ ?_⟩
      · exact ⟨y8, rfl, lA⟩
      · rintro j σ H' _ ⟨_, _, l⟩
        exact SqL.of (l.atIx (i := 2) rfl)
      · rintro j x σ H' hx ⟨y8', rfl, l⟩
        obtain ⟨⟨rr, row⟩, hq, rfl⟩ := refs_inv hx
        obtain ⟨hy, l2⟩ := l.rowNon hq
        have hrl : row.length ≤ 16 := by
          have : row ∈ roundsF n p := by rw [← ers]; exact List.mem_map.mpr ⟨_, List.mem_of_getElem? hq, rfl⟩
          obtain ⟨c, hc, rfl⟩ := List.mem_map.mp this
          exact Nat.le_trans (hp.ring_len (mem_cellsTo.mp (List.mem_filter.mp hc).1)).2 n2
        refine ⟨_, rfl, .inl ⟨rfl, _, SqL.of hy⟩, rr, _, _, rfl, rfl, hy, sl_line' (by rw [iv_len]; omega), ?_⟩
        exact ⟨_, rfl, l2⟩
      · rintro σ H' ⟨y8', rfl, l⟩
        refine ⟨_, rfl, sm, _, _, _, rfl, rfl, SqL.of (l.atIx (i := 0) rfl), at_of (j := 0) rfl rfl, .inl ⟨rfl, _, SqL.of (l.atIx (i := 1) rfl)⟩, e2, _, _, rfl, rfl, l.atIx (i := 1) rfl, sl_line' (by rw [hl]; omega), ?_⟩
        have la := l.setIx (i := 1) (o' := .lst (iv (arrL n p) ++ [.non])) rfl
        refine ⟨_, rfl, sm, _, _, _, rfl, rfl, SqL.of (la.atIx (i := 0) rfl), at_of (j := 1) rfl rfl, .inl ⟨rfl, _, SqL.of (la.atIx (i := 2) rfl)⟩, tr, _, _, rfl, rfl, la.atIx (i := 2) rfl, sl_line' (by rw [refs_len]; omega), ?_⟩
        have lb := la.setIx (i := 2) (o' := .lst (refs rs ++ [.non])) rfl
        exact ⟨_, _, _, rfl, s6.trans lb.same⟩
    · rintro σ H5 ⟨y6, y7, y8, rfl, s5⟩
      have ha5 := ha4.grow s5
      have hb5 := hb4.grow s5
      have at5 := at4.grow s5
      refine ⟨_, rfl, a, _, rfl, .inl ha5, _, _, rfl, rfl, _, _, rfl, ⟨by omega, by omega, by omega, by omega⟩, fun D hD => lc_range (lo := 1) (n := (((iv (arrL n p)).length : Int) + 1 - 1).toNat)
        (fun j H6 => Loc H5 H6 [(D, .lst (iv (tab j fun c => p (c + 1))))]) ((Loc.refl H5).alloc hD) ?_ ?_⟩
      · intro j H6 hj l
        have hj' : j < n := by omega
        refine ⟨rfl, _, rfl, _, rfl, o, dx, told t, rfl, l.same _ _ (s5 _ _ ho4), o, n, p, 1 + j, rfl, at5.grow l.same, by omega, by omega, _, l.at0, sl_line' (by rw [iv_len, tab_len]; omega), ?_⟩
        show Loc _ _ _
        rw [tab_succ, iv_snoc, show (1 : Int) + j = j + 1 by omega]
        exact l.put0
      intro H6 l6
      rw [show (((iv (arrL n p)).length : Int) + 1 - 1).toNat = n by omega] at l6
      refine ⟨_, rfl, dI (arrL n p), dI (arrL n p), IsInts.dp (SqL.of l6.at0), IsInts.dp (ha5.grow l6.same), shaped_dI _, shaped_dI _, ?_⟩
      rw [eqv_dI, decide_eq_true rfl]
      have s6 := s5.trans l6.same
      have due6 := due4.grow s6
      refine ⟨_, rfl, iteFF rfl ?_⟩
      refine ⟨_, rfl, d, _, rfl, .inl (s6.seq sqd), _, rfl, o, dx, told t, rfl, s6 _ _ ho4, o, n, p, rfl, n2, hp, at4.grow s6, fun H7 s7 => ⟨_, _, rfl, rfl, _, rfl, a, _, rfl, .inl ((ha4.grow s6).grow s7), rfl, _, rfl, iteFF ?_ ?_⟩⟩
      · show (!decide (V.int (((refs rsd).length : Int) + ((n : Int) - (roundsF n p).length)) = V.int ((iv (arrL n p)).length : Int))) = false
        rw [rdl, hl, show ((roundsF n p).length : Int) + ((n : Int) - (roundsF n p).length) = n by omega]
        simp
      have s7' := s6.trans s7
      refine ⟨_, rfl, rfl, ?_⟩
      dsimp only [turn1, tNil]
      refine mk_ok n1 n2 hp ((ha4.grow s7')) fun H8 o2 dx2 t2 l2 => ?_
      have o2at := SqL.of (K := K) (l2.atIx (i := 2) rfl)
      have s8 := s7'.trans l2.same
      refine ⟨_, rfl, ?_⟩
      dsimp only [turn1, tNil]
      refine mk_ok m1 m2 hr2 (hb4.grow s8) fun H9 o3 dx3 t3 l3 => ?_
      have s9 := s8.trans l3.same
      have e4 := s7'.trans (l2.same.trans l3.same)
      have at9 : ArrAt C H9 o n p := (at4.grow (s7'.trans (l2.same.trans l3.same)))
      have box9 := at9
      have same9 : ArrAt C H9 o2 n p := ⟨dx2, t2, l3.same _ _ (l2.atIx (i := 0) rfl), l3.same _ _ (l2.atIx (i := 2) rfl)⟩
      have two9 : ArrAt C H9 o3 m r := ⟨dx3, t3, l3.atIx (i := 0) rfl, l3.atIx (i := 2) rfl⟩
      have ha9 := ha4.grow (s7'.trans (l2.same.trans l3.same))
      have hb9 := hb4.grow (s7'.trans (l2.same.trans l3.same))
      have ho9 : H9 o = some (.ins C dx (told t)) := s9 _ _ ho4
      have hs9 := s4.trans s9
      clear l2 l3 s8 s9 s6 s7 l6
      refine ⟨_, _, rfl, ?_⟩
      have eqB : ∀ {H' : Hp} {x y : Addr} {n1 m1 : Nat} {p1 r1 : Int → Int} {Q' : VK}, ArrAt C H' x n1 p1 → ArrAt C H' y m1 r1 → Q' (.bl (decide (arrL n1 p1 = arrL m1 r1))) H' → rEqOwn K C (sp_Arrangement___eq__ K C) (.ref x) (.ref y) H' Q' := by
        intro H' x y n1 m1 p1 r1 Q' hx hy hq
        obtain ⟨dx', t', ho', ht'⟩ := hx
        exact ⟨x, dx', told t', .ref C, rfl, ho', hy.tyx TC, notFirst_self, .inl ⟨x, y, n1, m1, p1, r1, rfl, ⟨dx', t', ho', ht'⟩, hy, hq⟩⟩
      have eqT : ∀ {H' : Hp} {x : Addr} {y : V} {n1 : Nat} {p1 : Int → Int} {T : String} {Q' : VK}, ArrAt C H' x n1 p1 → TyX K H' y (.type T) → PySem.W.subIn K (.type T) (.ref C) = some false → Q' (.bl false) H' → rEqOwn K C (sp_Arrangement___eq__ K C) (.ref x) y H' Q' := by
        intro H' x y n1 p1 T Q' hx ty hT hq
        obtain ⟨dx', t', ho', ht'⟩ := hx
        obtain ⟨z1, z2⟩ := kit_false hx_cls hx_ty hT
        exact ⟨x, dx', told t', .type T, rfl, ho', ty, z2, .inr ⟨x, y, T, rfl, ty, z1, hq⟩⟩
      refine ⟨_, rfl, _, rfl, eqB box9 same9 ⟨_, rfl, ?_⟩⟩
      rw [decide_eq_true (rfl : arrL n p = arrL n p)]
      refine ⟨_, rfl, _, rfl, eqB box9 two9 ⟨_, rfl, _, rfl, dI (arrL n p), dI (arrL m r), ha9.dp, hb9.dp, shaped_dI _, shaped_dI _, ?_⟩⟩
      rw [eqv_dI]
      have b1 : (!decide (V.bl (decide (arrL n p = arrL m r)) = V.bl (decide (arrL n p = arrL m r)))) = false := by simp
      have b2 : (!decide (V.bl (decide (arrL m r = arrL n p)) = V.bl (decide (arrL n p = arrL m r)))) = false := by
        rw [show decide (arrL m r = arrL n p) = decide (arrL n p = arrL m r) from decide_eq_decide.mpr ⟨Eq.symm, Eq.symm⟩]
        simp
      refine ⟨rfl, _, rfl, iteFF b1 ?_⟩
      refine ⟨_, rfl, _, rfl, eqB two9 box9 ⟨_, rfl, _, rfl, dI (arrL n p), dI (arrL m r), ha9.dp, hb9.dp, shaped_dI _, shaped_dI _, ?_⟩⟩
      rw [eqv_dI]
      refine ⟨rfl, _, rfl, iteFF b2 ?_⟩
      refine ⟨_, rfl, ⟨Nat.zero_le _, fun tp htp => ⟨Nat.le_of_lt (sl_line' (by show 5 < 100000; omega)), fun lt hlt => ?_⟩⟩⟩
      have la := ((Loc.refl H9).alloc (o := .tup []) htp).alloc (o := .lst [.non, .ref a, .int 5, .str "", .ref tp]) hlt
      refine ⟨lt, rfl, ⟨_, SqL.of la.at0⟩, fun D2 hD2 => lc_list (K := K) (a := lt) (xs := [.non, .ref a, .int 5, .str "", .ref tp]) (fun i H' => Loc H9 H' [(D2, .lst []), (lt, .lst [.non, .ref a, .int 5, .str "", .ref tp]), (tp, .tup [])])
        (la.alloc hD2) (fun i H' _ l => SqL.of (l.atIx (i := 1) rfl)) ?_ ?_⟩
      · intro i x H' hx l
        have hat := at9.grow l.same
        obtain ⟨T, ty, hT⟩ : ∃ T, TyX K H' x (.type T) ∧ PySem.W.subIn K (.type T) (.ref C) = some false := by
          match i, hx with
          | 0, hx => cases hx; exact ⟨_, .base .non, hx_non⟩
          | 1, hx => cases hx; exact ⟨_, tyx_list (ha9.grow l.same), hx_list⟩
          | 2, hx => cases hx; exact ⟨_, tyx_int _, hx_int⟩
          | 3, hx => cases hx; exact ⟨_, .base (.str _), hx_str⟩
          | 4, hx => cases hx; exact ⟨_, tyx_tup (SqT.of (l.atIx (i := 2) rfl)), hx_tuple⟩
        refine ⟨rfl, _, rfl, _, rfl, eqT hat ty hT ⟨_, rfl, ?_⟩⟩
        exact l
      · intro H' l
        have sE := s4.trans (e4.trans l.same)
        show tLst tNil _ _ _
        refine ⟨Nat.zero_le _, fun E hE => ⟨dI [], dI [], IsInts.dp (ns := []) (sA hE |>.seq (SqL.of l.at0)), IsInts.dp (ns := []) (SqL.of upd_same), shaped_dI _, shaped_dI _, ?_⟩⟩
        rw [eqv_dI, decide_eq_true rfl]
        have sF := sE.trans (sA (o := .lst []) hE)
        refine ⟨_, rfl, iteT ?_⟩
        refine ⟨_, rfl, _, _, rfl, (ha.grow sF).dp, smQ smT (by decide) (by decide) ⟨_, rfl, rfl, ?_⟩⟩
        show Q (.bl (decide _)) _
        rw [decide_eq_true rfl]
        exact q _ sF
end

abbrev s__law_draws : Stmt := topS 27
theorem sc__law_draws : FnScope ["_law_cell"] ["_law_cell"] (defScope s__law_draws) := ⟨rfl, rfl, rfl, by decide +kernel, rfl, by decide +kernel, by decide +kernel⟩
abbrev s__law_next : Stmt := topS 28
theorem sc__law_next : FnScope ["_law_draws_here", "_law_k", "_law_number"] ["_law_draws_here"] (defScope s__law_next) := ⟨rfl, rfl, rfl, by decide +kernel, rfl, by decide +kernel, by decide +kernel⟩
/-- what the draws hold: a number, how often was drawn, whether by figures -/
def drawO (n k : Int) (b : Bool) : HO := .lst [.int n, .int k, .bl b]
def Draw (H : Hp) (a : Addr) (m : Nat) : Prop := ∃ (n k : Int) (b : Bool), H a = some (drawO n k b) ∧ 0 ≤ n ∧ 0 ≤ k ∧ k ≤ m
section
variable {P : Program} {w : World} {K : PySem.W.Frag} {mg : Str → Option Value} {base : Heap}
def sp__law_draws : Sp := fun vs H Q _ => ∃ c : Int, vs = [.int c] ∧ ∀ (p : Addr) (n : Int) (b : Bool), H p = none → 0 ≤ n → Q (.ref p) (upd H p (drawO n 0 b))
theorem ok__law_draws {f : Addr} {fd : FuncData} {k : Nat} (F : Fun K "_law_draws" "_law_draws" s__law_draws f fd) (z_int : mg "int" = none) : FG P w K mg base CX0 (k + 1) f fd ["_law_cell"] sp__law_draws := by
  refine fg_fun F sc__law_draws (fun vs H Q E h => ?_) (fun cdv A out s H vs Q E hr hg h => ?_)
  · obtain ⟨c, rfl, _⟩ := h
    rfl
  · obtain ⟨c, rfl, q⟩ := h
    refine ⟨_, (pss_one (ps_ret (pe_lst (pa_cons (pe_op op_mod (pe_callTy call_int1 (by rfl) z_int bt_int (pa_cons (pv 0) pa_nil)) (pe_op op_powW (pe_op op_powW (pe_op op_powW pe_int pe_int) pe_int) pe_int)) (pa_cons pe_int (pa_cons (pe_cmpR op_ge (pv 0) (pe_op op_powW pe_int pe_int) (nomark _)) pa_nil)))))), ?_⟩
    have p1 : CPowW 10 60 := ⟨by decide, by decide, by decide, by decide +kernel⟩
    have p2 : CPowW (10 ^ (60 : Int).toNat) 60 := ⟨by decide, by decide, by decide +kernel, by decide +kernel⟩
    have p3 : CPowW ((10 ^ (60 : Int).toNat) ^ (60 : Int).toNat) 4 := ⟨by decide, by decide, by decide +kernel, by decide +kernel⟩
    have p4 : CPowW 10 18 := ⟨by decide, by decide, by decide, by decide +kernel⟩
    have pos : (0 : Int) < ((10 ^ (60 : Int).toNat) ^ (60 : Int).toNat) ^ (4 : Int).toNat := Int.pow_pos (Int.pow_pos (Int.pow_pos (by decide)))
    refine ⟨_, rfl, .inl ⟨_, rfl, ?_⟩⟩
    refine ⟨_, _, rfl, rfl, p1, _, _, rfl, rfl, p2, _, _, rfl, rfl, p3, _, _, rfl, rfl, pos, ?_⟩
    refine ⟨_, rfl, _, _, rfl, rfl, p4, _, _, rfl, rfl, ?_⟩
    exact ⟨sl3, fun p hp => q p _ _ hp (Int.emod_nonneg _ (by omega))⟩
def sp__law_next : Sp := fun vs H Q _ => ∃ (a : Addr) (m : Nat), vs = [.ref a] ∧ Draw H a m ∧ m ≤ 1000000 ∧ ∀ (n k : Int) (b : Bool) (r : Int), 0 ≤ n → 0 ≤ k → k ≤ (m : Int) + 1 → 0 ≤ r → Q (.int r) (upd H a (drawO n k b))
theorem ok__law_next {f : Addr} {fd : FuncData} {k : Nat} (F : Fun K "_law_next" "_law_next" s__law_next f fd) (z_int : mg "int" = none) : FG P w K mg base CX0 (k + 1) f fd ["_law_draws_here"] sp__law_next := by
  refine fg_fun F sc__law_next (fun vs H Q E h => ?_) (fun cdv A out s H vs Q E hr hg h => ?_)
  · obtain ⟨a, m, rfl, _⟩ := h
    rfl
  · obtain ⟨a, m, rfl, ⟨n, k, b, ha, n0, k0, km⟩, hm, q⟩ := h
    refine ⟨_, (pss_cons (ps_asg (pe_op op_add (pe_ix (ix_listK K rfl) (pv 0) pe_int (fun _ _ => rfl)) pe_int) (pg_sub (pv 0) pe_int set_list))
      (pss_cons (ps_set (i := 1) sc__law_next.nd rfl (.inl rfl) (pe_ix (ix_listK K rfl) (pv 0) pe_int (fun _ _ => rfl)))
      (pss_cons (ps_if (pt_truthK K rfl (pe_ix (ix_listK K rfl) (pv 0) pe_int (fun _ _ => rfl)) (by intro _; rfl))
        (pss_cons (ps_set (i := 2) sc__law_next.nd rfl (.inl rfl) (pe_op op_mod (pe_callTy call_int1 (by rfl) z_int bt_int (pa_cons (pe_ix (ix_listK K rfl) (pv 0) pe_int (fun _ _ => rfl)) pa_nil)) (pe_op op_powW pe_int pe_int)))
          (pss_cons (ps_asg (pe_op op_fdivW (pe_ix (ix_listK K rfl) (pv 0) pe_int (fun _ _ => rfl)) (pe_op op_powW pe_int pe_int)) (pg_sub (pv 0) pe_int set_list))
          (pss_one (ps_ret (pv 2)))))
        pss_nil)
      (pss_cons (ps_set (i := 2) sc__law_next.nd rfl (.inl rfl) (pe_op op_mod (pe_callTy call_int1 (by rfl) z_int bt_int (pa_cons (pe_op op_mulW (pe_op op_add (pe_op op_add (pe_op op_mod (pe_callTy call_int1 (by rfl) z_int bt_int (pa_cons (pe_ix (ix_listK K rfl) (pv 0) pe_int (fun _ _ => rfl)) pa_nil)) pe_int) (pe_op op_mulW (pe_op op_mulW (pv 1) (pv 1)) pe_int)) (pv 1)) pe_int) pa_nil)) pe_int))
      (pss_cons (ps_set (i := 2) sc__law_next.nd rfl (.inl rfl) (pe_op op_mod (pe_callTy call_int1 (by rfl) z_int bt_int (pa_cons (pe_op op_mulW (pv 2) (pv 2)) pa_nil)) pe_int))
      (pss_one (ps_ret (pe_op op_fdivW (pe_op op_mod (pe_callTy call_int1 (by rfl) z_int bt_int (pa_cons (pe_op op_mulW (pv 2) (pe_op op_add (pv 2) pe_int)) pa_nil)) pe_int) pe_int)))))))), ?_⟩
    have h1 : upd H a (drawO n (k + 1) b) a = some (drawO n (k + 1) b) := upd_same
    have p6 : CPowW 10 6 := ⟨by decide, by decide, by decide, by decide +kernel⟩
    have m1 : (0 : Int) < 10 ^ (6 : Int).toNat := by decide
    have m2 : (0 : Int) < 1000003 := by decide
    have m3 : (0 : Int) < 2147483629 := by decide
    have m4 : (0 : Int) < 2147483587 := by decide
    have m5 : (0 : Int) < 2147483579 := by decide
    have s1 : SqL K (upd H a (drawO n (k + 1) b)) a [.int n, .int (k + 1), .bl b] := SqL.of h1
    refine ⟨_, rfl, _, _, _, _, rfl, rfl, SqL.of ha, at_of (j := 1) rfl rfl, _, _, rfl, rfl, _, rfl, a, _, _, 1, rfl, rfl, ha, rfl, ?_⟩
    refine ⟨_, rfl, _, _, _, _, rfl, rfl, s1, at_of (j := 1) rfl rfl, ?_⟩
    refine ⟨_, rfl, _, _, _, _, rfl, rfl, s1, at_of (j := 2) rfl rfl, b, rfl, ?_⟩
    cases b with
    | true =>
      refine iteT ?_
      refine ⟨_, rfl, _, _, _, _, rfl, rfl, s1, at_of (j := 0) rfl rfl, .inl ⟨_, rfl, ?_⟩⟩
      refine ⟨_, _, rfl, rfl, p6, _, _, rfl, rfl, m1, ?_⟩
      refine ⟨_, rfl, _, _, _, _, rfl, rfl, s1, at_of (j := 0) rfl rfl, _, _, rfl, rfl, p6, _, _, rfl, rfl, ⟨by decide, by decide +kernel⟩, _, rfl, a, _, _, 0, rfl, rfl, h1, rfl, ?_⟩
      refine ⟨_, rfl, ?_⟩
      have := q (n / 10 ^ (6 : Int).toNat) (k + 1) true (n % 10 ^ (6 : Int).toNat) (Int.ediv_nonneg n0 (by decide)) (by omega) (by omega) (Int.emod_nonneg _ (by decide))
      rw [← L2.upd_upd (o := drawO n (k + 1) true)] at this
      exact this
    | false =>
      refine iteF ?_
      have kl : k + 1 ≤ 2000000 := by omega
      have b1 : (k + 1).natAbs < 2 ^ 21 := by omega
      have b2 : ((k + 1) * (k + 1)).natAbs < 2 ^ (21 + 21) := wide_lt b1 b1
      have b3 : ((k + 1) * (k + 1) * 7919).natAbs < 2 ^ (21 + 21 + 13) := wide_lt b2 (by decide)
      have b4 : (n % 1000003).natAbs < 2 ^ 20 := by omega
      have b5 : (n % 1000003 + (k + 1) * (k + 1) * 7919 + (k + 1)).natAbs < 2 ^ 60 := by omega
      refine ⟨_, rfl, _, _, _, _, rfl, rfl, s1, at_of (j := 0) rfl rfl, .inl ⟨_, rfl, _, _, rfl, rfl, m2, ?_⟩⟩
      refine ⟨_, rfl, _, rfl, _, _, rfl, rfl, wide_mul b1 b1 (by decide) (by decide) (by decide), _, _, rfl, rfl, wide_mul b2 (by decide : (7919 : Int).natAbs < 2 ^ 13) (by decide) (by decide) (by decide), _, _, rfl, rfl, ?_⟩
      have b6 : ((n % 1000003 + (k + 1) * (k + 1) * 7919 + (k + 1)) * 48271 % 2147483629).natAbs < 2 ^ 31 := by omega
      refine ⟨_, rfl, _, _, rfl, rfl, _, _, rfl, rfl, wide_mul b5 (by decide : (48271 : Int).natAbs < 2 ^ 16) (by decide) (by decide) (by decide), .inl ⟨_, rfl, _, _, rfl, rfl, m3, ?_⟩⟩
      refine ⟨_, rfl, _, rfl, _, _, rfl, rfl, wide_mul b6 b6 (by decide) (by decide) (by decide), .inl ⟨_, rfl, _, _, rfl, rfl, m4, ?_⟩⟩
      have b7 : (((n % 1000003 + (k + 1) * (k + 1) * 7919 + (k + 1)) * 48271 % 2147483629) * ((n % 1000003 + (k + 1) * (k + 1) * 7919 + (k + 1)) * 48271 % 2147483629) % 2147483587).natAbs < 2 ^ 31 := by omega
      have b8 : ((((n % 1000003 + (k + 1) * (k + 1) * 7919 + (k + 1)) * 48271 % 2147483629) * ((n % 1000003 + (k + 1) * (k + 1) * 7919 + (k + 1)) * 48271 % 2147483629) % 2147483587) + 2).natAbs < 2 ^ 32 := by omega
      refine ⟨_, rfl, _, rfl, _, _, rfl, rfl, _, _, rfl, rfl, wide_mul b7 b8 (by decide) (by decide) (by decide), .inl ⟨_, rfl, _, _, rfl, rfl, m5, _, _, rfl, rfl, ⟨by decide, by decide +kernel⟩, ?_⟩⟩
      exact q n (k + 1) false _ n0 (by omega) (by omega) (by omega)
end

/-- all but the draws' own list stays -/
def SameX (a : Addr) (H H' : Hp) : Prop := ∀ b o, b ≠ a → H b = some o → H' b = some o
/-- as Loc, the draws' list may have changed -/
def DLoc (H : Hp) (a : Addr) (m : Nat) (H2 : Hp) (L : Led) : Prop := ∃ (n k : Int) (b : Bool), Loc (upd H a (drawO n k b)) H2 L ∧ 0 ≤ n ∧ 0 ≤ k ∧ k ≤ m
section
variable {H H2 : Hp} {a p : Addr} {m m' : Nat} {L M : Led} {o o' : HO}
theorem Draw.dloc (h : Draw H a m) : DLoc H a m H [] := by
  obtain ⟨n, k, b, h1, h2, h3, h4⟩ := h
  exact ⟨n, k, b, Loc.start h1, h2, h3, h4⟩
theorem DLoc.draw (l : DLoc H a m H2 L) : Draw H2 a m := by
  obtain ⟨n, k, b, l, h⟩ := l
  exact ⟨n, k, b, l.own, h⟩
theorem DLoc.mono (l : DLoc H a m H2 L) (h : m ≤ m') : DLoc H a m' H2 L := by
  obtain ⟨n, k, b, l, h1, h2, h3⟩ := l
  exact ⟨n, k, b, l, h1, h2, by omega⟩
theorem DLoc.next (l : DLoc H a m H2 L) {n k : Int} {b : Bool} (h1 : 0 ≤ n) (h2 : 0 ≤ k) (h3 : k ≤ (m : Int) + 1) : DLoc H a (m + 1) (upd H2 a (drawO n k b)) L := by
  obtain ⟨_, _, _, l, _⟩ := l
  exact ⟨n, k, b, l.bump, h1, h2, by omega⟩
theorem DLoc.alloc (l : DLoc H a m H2 L) (hp : H2 p = none) : DLoc H a m (upd H2 p o) ((p, o) :: L) := by
  obtain ⟨n, k, b, l, h⟩ := l
  exact ⟨n, k, b, l.alloc hp, h⟩
theorem DLoc.setIx (l : DLoc H a m H2 L) {i : Nat} (h : L[i]? = some (p, o)) : DLoc H a m (upd H2 p o') (L.set i (p, o')) := by
  obtain ⟨n, k, b, l, h'⟩ := l
  exact ⟨n, k, b, l.setIx h, h'⟩
theorem DLoc.atIx (l : DLoc H a m H2 L) {i : Nat} (h : L[i]? = some (p, o)) : H2 p = some o := by
  obtain ⟨n, k, b, l, _⟩ := l
  exact l.atIx h
theorem DLoc.here (l : DLoc H a m H2 L) {q : Addr × HO} (h : q ∈ L) : H2 q.1 = some q.2 := by
  obtain ⟨n, k, b, l, _⟩ := l
  exact l.here q h
theorem DLoc.keep (l : DLoc H a m H2 L) (s : M.Sublist L) : DLoc H a m H2 M := by
  obtain ⟨n, k, b, l, h⟩ := l
  exact ⟨n, k, b, l.keep s, h⟩
theorem DLoc.perm (l : DLoc H a m H2 L) (s : M.Perm L) : DLoc H a m H2 M := by
  obtain ⟨n, k, b, l, h⟩ := l
  exact ⟨n, k, b, l.perm s, h⟩
theorem DLoc.sameX (l : DLoc H a m H2 L) : SameX a H H2 := by
  obtain ⟨n, k, b, l, _⟩ := l
  intro c o hc e
  exact l.same c o (by rw [upd_ne hc]; exact e)
end
theorem SameX.sqT {K : PySem.W.Frag} {H H' : Hp} {a t : Addr} {m : Nat} {xs : List V} (d : Draw H a m) (s : SameX a H H') (h : SqT K H t xs) : SqT K H' t xs := by
  obtain ⟨_, _, _, e, _⟩ := d
  rcases h with (h | ⟨o, h⟩) | h
  · exact .inl (.inl (s _ _ (fun z => by rw [z, e] at h; cases h) h))
  · exact .inl (.inr ⟨o, s _ _ (fun z => by rw [z, e] at h; cases h) h⟩)
  · exact .inr h
theorem IsPairs.growX {K : PySem.W.Frag} {H H' : Hp} {a t : Addr} {m : Nat} {ps : List (Int × Int)} (d : Draw H a m) (s : SameX a H H') (h : IsPairs K H t ps) : IsPairs K H' t ps := by
  obtain ⟨ts, e, h1, h2⟩ := h
  refine ⟨ts, e, ?_, fun x hx => s.sqT d (h2 x hx)⟩
  obtain ⟨n, k, b, ea, _⟩ := d
  rcases h1 with (h | ⟨o, h⟩) | h
  · refine .inl (.inl (s _ _ (fun z => ?_) h))
    rw [z, ea] at h
    have h' := Option.some.inj h
    unfold drawO at h'
    have h'' : [V.int n, V.int k, V.bl b] = refs ts := by injection h'
    cases ts with
    | nil => cases h''
    | cons x r => cases h''
  · exact .inl (.inr ⟨o, s _ _ (fun z => by rw [z, ea] at h; cases h) h⟩)
  · exact .inr h
theorem refs_erase {α : Type} : ∀ (us : List (Addr × α)) (k : Nat), (refs us).eraseIdx k = refs (us.eraseIdx k)
  | [], _ => rfl
  | _ :: _, 0 => rfl
  | x :: r, k + 1 => by
    show V.ref x.1 :: (refs r).eraseIdx k = V.ref x.1 :: refs (r.eraseIdx k)
    rw [refs_erase r k]
theorem erase_perm {α : Type} : ∀ {us : List α} {k : Nat} {x : α}, us[k]? = some x → us.Perm (x :: us.eraseIdx k)
  | [], _, _, h => by simp at h
  | y :: r, 0, x, h => by
    have e : y = x := by simpa using h
    subst e
    exact List.Perm.refl _
  | y :: r, k + 1, x, h => by
    have h2 : r[k]? = some x := by simpa using h
    exact ((erase_perm h2).cons y).trans (List.Perm.swap _ _ _)
theorem SameX.trans {a : Addr} {H H1 H2 : Hp} (s : SameX a H H1) (t : SameX a H1 H2) : SameX a H H2 := fun b o hb e => t b o hb (s b o hb e)
theorem Same.x {a : Addr} {H H1 : Hp} (s : Same H H1) : SameX a H H1 := fun b o _ e => s b o e
theorem SameX.more {a : Addr} {H H1 H2 : Hp} (s : SameX a H H1) (t : Same H1 H2) : SameX a H H2 := SameX.trans s (Same.x t)
theorem Draw.grow {b : Addr} {m : Nat} {H H' : Hp} (s : Same H H') (h : Draw H b m) : Draw H' b m := by
  obtain ⟨n, k, c, h1, h2⟩ := h
  exact ⟨n, k, c, s _ _ h1, h2⟩
theorem Draw.mono {b : Addr} {m m' : Nat} {H : Hp} (h : Draw H b m) (l : m ≤ m') : Draw H b m' := by
  obtain ⟨n, k, c, h1, h2, h3, h4⟩ := h
  exact ⟨n, k, c, h1, h2, h3, by omega⟩
theorem ValidW.nodup {n : Nat} {web : List (Int × Int)} (h : ValidW n web) : web.Nodup := h.2.imp fun {x y} h e => by
  subst e
  rcases h with h | ⟨_, h⟩ <;> omega
theorem ValidL.perm {n : Nat} {l m : List (Int × Int)} (h : ValidL n l) (p : m.Perm l) : ValidL n m := fun e he => h e (p.mem_iff.mp he)
theorem ValidL.wide {n n' : Nat} {l : List (Int × Int)} (h : ValidL n l) (p : n ≤ n') : ValidL n' l := fun e he => by have := h e he; omega
theorem log_smD {n : Nat} {web : List (Int × Int)} (hn : n ≤ 16) (hv : ValidL n web) (hl : web.length ≤ 300) : Sm 900 2 (dP web) :=
  sm_dP (m := 300) (fun e he => by have := hv e he; omega) hl
section
variable {H H2 H3 : Hp} {a : Addr} {m m' : Nat} {L M : Led}
theorem DLoc.call (l : DLoc H a m H2 L) (c : Loc H2 H3 M) : DLoc H a m H3 (M ++ L) := by
  obtain ⟨n, k, b, h1, h2⟩ := l
  exact ⟨n, k, b, h1.call c, h2⟩
theorem DLoc.ext (l : DLoc H a m H2 L) (c : Same H2 H3) : DLoc H a m H3 L := by
  obtain ⟨n, k, b, h1, h2⟩ := l
  exact ⟨n, k, b, h1.ext c, h2⟩
theorem DLoc.jump (l : DLoc H a m H2 L) (s : SameX a H2 H3) (d : Draw H3 a m') : DLoc H a m' H3 L := by
  obtain ⟨n, k, b, h1, h2⟩ := l
  obtain ⟨n', k', b', e, d2⟩ := d
  refine ⟨n', k', b', ⟨fun c u q => ?_, fun p hp => ?_, fun p hp => ?_, h1.nd⟩, d2⟩
  · by_cases hc : c = a
    · subst hc; rw [upd_same] at q; rw [← q]; exact e
    · rw [upd_ne hc] at q
      exact s c u hc (h1.same c u (by rw [upd_ne hc]; exact q))
  · have ne : p.1 ≠ a := fun z => by have := h1.new p hp; rw [z, upd_same] at this; cases this
    exact s _ _ ne (h1.here p hp)
  · have ne : p.1 ≠ a := fun z => by have := h1.new p hp; rw [z, upd_same] at this; cases this
    have := h1.new p hp
    rw [upd_ne ne] at this ⊢
    exact this
theorem DLoc.ne (l : DLoc H a m H2 L) {p : Addr × HO} (hp : p ∈ L) : p.1 ≠ a := by
  obtain ⟨n, k, b, h1, _⟩ := l
  intro z
  have := h1.new p hp
  rw [z, upd_same] at this
  cases this
end
theorem small_len {n : Nat} {l : List Int} (nd : l.Nodup) (h : ∀ x ∈ l, 1 ≤ x ∧ x ≤ n) : l.length ≤ n := by
  have e : (l.map Int.toNat).length = l.length := List.length_map _
  rw [← e]
  have q := nat_nodup_len (l.map Int.toNat) ((List.range n).map (· + 1)) ?_ ?_
  · rw [List.length_map, List.length_map, List.length_range] at q
    rw [e]
    exact q
  · have g : ∀ l : List Int, l.Nodup → (∀ x ∈ l, 1 ≤ x ∧ x ≤ n) → (l.map Int.toNat).Nodup := by
      intro l
      induction l with
      | nil => intro _ _; exact List.Pairwise.nil
      | cons x r ih =>
        intro h1 h2
        rw [List.nodup_cons] at h1
        rw [List.map_cons, List.nodup_cons]
        refine ⟨fun z => ?_, ih h1.2 fun y hy => h2 y (List.mem_cons_of_mem _ hy)⟩
        obtain ⟨y, hy, e⟩ := List.mem_map.mp z
        have a := h2 y (List.mem_cons_of_mem _ hy)
        have b := h2 x List.mem_cons_self
        have : y = x := by omega
        exact h1.1 (this ▸ hy)
    exact g l nd h
  · intro x hx
    obtain ⟨y, hy, rfl⟩ := List.mem_map.mp hx
    have := h y hy
    exact List.mem_map.mpr ⟨y.toNat - 1, List.mem_range.mpr (by omega), by omega⟩

abbrev s__law_shuffled : Stmt := topS 29
theorem sc__law_shuffled : FnScope ["_law_draws_here", "_law_size", "_law_left", "_law_told"] ["_law_draws_here", "_law_size"] (defScope s__law_shuffled) := ⟨rfl, rfl, rfl, by decide +kernel, rfl, by decide +kernel, by decide +kernel⟩
/-- an arrangement from its list -/
def at1 (ns : List Int) (c : Int) : Int := ns.getD (c - 1).toNat 0
theorem arr_of {n : Nat} {ns : List Int} (h : ns.Perm (cellsTo n)) : PermF n (at1 ns) ∧ ns = arrL n (at1 ns) := by
  have hl : ns.length = n := by rw [h.length_eq, cellsTo_len]
  have nd : ns.Nodup := h.nodup_iff.mpr (cellsTo_nodup n)
  have g : ∀ c : Int, 1 ≤ c ∧ c ≤ n → ns[(c - 1).toNat]? = some (at1 ns c) := fun c hc => by
    unfold at1
    rw [List.getD_eq_getElem?_getD, List.getElem?_eq_getElem (by omega)]
    rfl
  refine ⟨⟨fun c hc => mem_cellsTo.mp (h.mem_iff.mp (List.mem_of_getElem? (g c hc))), fun c d hc hd e => ?_⟩, ?_⟩
  · have h1 := g c hc
    have h2 := g d hd
    rw [e] at h1
    have := nd_ix nd h1 h2
    omega
  · refine of_tab hl fun j hj => ?_
    have := g (j + 1) (by omega)
    rw [show ((j : Int) + 1 - 1).toNat = j by omega] at this
    exact this
theorem iv_erase : ∀ (us : List Int) (k : Nat), (iv us).eraseIdx k = iv (us.eraseIdx k)
  | [], k => by simp [iv]
  | u :: r, 0 => by simp [iv]
  | u :: r, k + 1 => by
    have := iv_erase r k
    unfold iv at this ⊢
    simp only [List.map_cons, List.eraseIdx_cons_succ, this]
theorem rgV_cells (n : Nat) : rgV 1 ((n : Int) + 1) = iv (cellsTo n) := by
  unfold rgV iv cellsTo
  rw [List.map_map, show ((n : Int) + 1 - 1).toNat = n by omega]
  exact List.map_congr_left fun i _ => by show V.int (1 + (i : Nat)) = V.int ((i : Int) + 1); congr 1; omega
section
variable {P : Program} {w : World} {K : PySem.W.Frag} {mg : Str → Option Value} {base : Heap}
def sp__law_shuffled : Sp := fun vs H Q _ => ∃ (a : Addr) (m n : Nat), vs = [.ref a, .int n] ∧ Draw H a m ∧ m ≤ 900000 ∧ n ≤ 16 ∧
  ∀ H' p r, PermF n r → DLoc H a (m + n) H' [(p, .lst (iv (arrL n r)))] → Q (.ref p) H'
theorem ok__law_shuffled {f : Addr} {fd : FuncData} {k : Nat} (F : Fun K "_law_shuffled" "_law_shuffled" s__law_shuffled f fd) (z_list : mg "list" = none) (z_range : mg "range" = none) (z_int : mg "int" = none) (z_len : mg "len" = none)
    (c__law_next : CalG P w K mg base k "_law_next" s__law_next ["_law_draws_here"] sp__law_next) : FG P w K mg base CX0 (k + 1) f fd ["_law_draws_here", "_law_size"] sp__law_shuffled := by
  refine fg_fun F sc__law_shuffled (fun vs H Q E h => ?_) (fun cdv A out s H vs Q E hr hg h => ?_)
  · obtain ⟨a, m, n, rfl, _⟩ := h
    rfl
  · have hu64 := hr.units
    obtain ⟨a, m, n, rfl, hD, hm, hn, q⟩ := h
    refine ⟨_, (pss_cons (ps_set (i := 2) sc__law_shuffled.nd rfl (.inl rfl) (pe_listRg rfl (by rfl) z_list (prg_2 (by rfl) z_range pe_int (pe_op op_add (pv 1) pe_int))))
      (pss_cons (ps_set (i := 3) sc__law_shuffled.nd rfl (.inl rfl) (pe_lst pa_nil))
      (pss_cons (ps_while PassesOwn.never (pt_cmpR (op_neDK K rfl hu64) (pv 2) (pe_lst pa_nil) (nomark _))
        (pss_one (ps_expr (pe_bmK K rfl PySem.F.plainAttrs_list PySem.F.slot_list_append PySem.F.type_list_append mt_append (pv 3) (pa_cons (pe_bmK K rfl PySem.F.plainAttrs_list PySem.F.slot_list_pop PySem.F.type_list_pop mt_popAt (pv 2) (pa_cons (pe_op op_mod (pe_callTy call_int1 (by rfl) z_int bt_int (pa_cons (pe_cG c__law_next hr (by omega) hg (by rfl) (pa_cons (pv 0) pa_nil)) pa_nil)) (pe_callB (call_len_seqK K rfl) (by rfl) z_len bt_len (pa_cons (pv 2) pa_nil))) pa_nil)) pa_nil)))))
      (pss_one (ps_ret (pv 3)))))), ?_⟩
    refine ⟨_, rfl, _, _, rfl, rfl, _, _, rfl, rfl, RgOk.of_le (by omega) (by omega) (by omega) (by omega), fun L hL => ⟨by decide, fun T hT => ?_⟩⟩
    rw [rgV_cells] at hT ⊢
    have l0 := (hD.dloc.alloc (o := .lst (iv (cellsTo n))) hL).alloc (o := .lst []) hT
    refine ⟨fun k σ H2 => ∃ us vs : List Int, σ = [some (.ref a), some (.int n), some (.ref L), some (.ref T)] ∧ us.length = k ∧ (us ++ vs).Perm (cellsTo n) ∧ DLoc H a (m + vs.length) H2 [(T, .lst (iv vs)), (L, .lst (iv us))],
      ⟨_, cellsTo n, [], rfl, rfl, by rw [List.append_nil], l0⟩, ?_⟩
    rintro k σ H2 ⟨us, vs, rfl, ek, pm, l⟩
    have ln : us.length + vs.length = n := by
      have := pm.length_eq
      rw [List.length_append, cellsTo_len] at this
      omega
    refine ⟨_, rfl, by decide, fun e he => ⟨dI us, dI [], IsInts.dp ((sA he).seq (SqL.of (l.atIx (i := 1) rfl))), IsInts.dp (ns := []) (SqL.of upd_same), shaped_dI _, shaped_dI _, _, rfl, ?_⟩⟩
    rw [eqv_dI_nil]
    have l2 := (l.alloc (o := .lst []) he).keep (List.sublist_cons_self _ _)
    refine ite2 (fun hb => ?_) (fun hb => ?_)
    · have ne : us ≠ [] := fun z => by rw [z] at hb; simp at hb
      have pos : 0 < us.length := List.length_pos_iff.mpr ne
      refine ⟨fun σ' H' => ∃ m', m' < k ∧ _, fun _ _ z => z, ?_⟩
      refine ⟨_, rfl, .inl ⟨rfl, _, SqL.of (l2.atIx (i := 0) rfl)⟩, _, rfl, .inl ⟨rfl, _, SqL.of (l2.atIx (i := 1) rfl)⟩, _, rfl, a, _, rfl, l2.draw, by omega, fun n0 k0 b0 r i1 i2 i3 i4 => .inl ⟨_, rfl, ?_⟩⟩
      have l3 := l2.next (b := b0) i1 i2 i3
      have lr : (iv us).length = us.length := iv_len us
      have e1 : 0 ≤ r % ((iv us).length : Int) := Int.emod_nonneg _ (by omega)
      have e2 : r % ((iv us).length : Int) < (iv us).length := Int.emod_lt_of_pos _ (by omega)
      have hk : (r % ((iv us).length : Int)).toNat < us.length := by omega
      obtain ⟨y, hy⟩ : ∃ y, us[(r % ((iv us).length : Int)).toNat]? = some y := ⟨_, List.getElem?_eq_getElem hk⟩
      have lens : (us.eraseIdx (r % ((iv us).length : Int)).toNat).length + 1 = us.length := by
        rw [List.length_eraseIdx_of_lt hk]; omega
      refine ⟨_, rfl, L, _, rfl, .inl (SqL.of (l3.atIx (i := 1) rfl)), _, _, rfl, rfl, (by show (0 : Int) < (iv us).length; omega), L, iv us, _, (r % ((iv us).length : Int)).toNat, .int y, rfl, rfl, l3.atIx (i := 1) rfl, by omega, by omega,
        (ixN_seq (ixI e1 (by omega))).1, iv_get hy, ?_⟩
      rw [iv_erase]
      have l4 := l3.setIx (i := 1) (o' := .lst (iv (us.eraseIdx (r % ((iv us).length : Int)).toNat))) rfl
      refine ⟨T, iv vs, _, rfl, rfl, l4.atIx (i := 0) rfl, sl_line' (by rw [iv_len]; omega), ?_⟩
      have l5 := l4.setIx (i := 0) (o' := .lst (iv vs ++ [.int y])) rfl
      refine ⟨_, ?_, us.eraseIdx (r % ((iv us).length : Int)).toNat, vs ++ [y], rfl, rfl, ?_, ?_⟩
      · omega
      · have p1 := (erase_perm hy).append_right vs
        refine List.Perm.trans ?_ (p1.symm.trans pm)
        rw [← List.append_assoc]
        exact List.perm_append_comm (l₂ := [y])
      · rw [iv_snoc, List.length_append, List.length_singleton, ← Nat.add_assoc]
        exact l5
    · have ue : us = [] := by
        cases us with
        | nil => rfl
        | cons x r => exact absurd (by simp) hb
      subst ue
      have vl : vs.length = n := by simpa using ln
      rw [vl] at l2
      obtain ⟨h1, h2⟩ := arr_of (ns := vs) pm
      have l3 := l2.keep (M := [(T, .lst (iv vs))]) (.cons_cons _ (.cons _ .slnil))
      rw [h2] at l3
      exact ⟨_, rfl, q _ T (at1 vs) h1 l3⟩
end

abbrev s__law_call_right : Stmt := topS 32
theorem sc__law_call_right : FnScope ["_law_draws_here", "_law_told", "_law_box", "_law_things", "_law_some", "_law_kept", "_law_due", "_law_at", "_law_end", "_law_here", "_law_inner", "_law_lists", "_law_moved", "_law_k"] ["_law_draws_here", "_law_told"] (defScope s__law_call_right) := ⟨rfl, rfl, rfl, by decide +kernel, rfl, by decide +kernel, by decide +kernel⟩
theorem dpAll_map {K : PySem.W.Frag} {H : Hp} {α : Type} (f : α → V) (g : α → PyData) : ∀ xs : List α, (∀ x ∈ xs, Dp K H (f x) (g x)) → DpAll K H (xs.map f) (xs.map g)
  | [], _ => .nil
  | x :: r, h => .cons (h x (.head _)) (dpAll_map f g r fun y hy => h y (.tail _ hy))
theorem sm_str1 : Sm 1 0 (.str "a") := ⟨by decide +kernel, by decide +kernel, by decide +kernel, by decide +kernel, by decide +kernel⟩
/-- the things that are moved -/
def thV (l t : Addr) (k : Nat) : V := [V.non, .int 5, .str "a", .ref l, .ref t, .bl true, .str "a"].getD k .non
def thD (k : Nat) : PyData := [PyData.none, .int 5, .str "a", .list [.int 1], .tuple [.int 2], .bool true, .str "a"].getD k .none
theorem thD_dp {K : PySem.W.Frag} {H : Hp} {l t : Addr} (hl : SqL K H l [.int 1]) (ht : SqT K H t [.int 2]) {k : Nat} (hk : k < 7) : Dp K H (thV l t k) (thD k) := by
  match k, hk with
  | 0, _ => exact .non
  | 1, _ => exact .int 5
  | 2, _ => exact .str _
  | 3, _ => exact .lst hl (.cons (.int 1) .nil)
  | 4, _ => exact .tup ht (.cons (.int 2) .nil)
  | 5, _ => exact .bl true
  | 6, _ => exact .str _
theorem thD_sm {k : Nat} (hk : k < 7) : Sm 1 1 (thD k) := by
  match k, hk with
  | 0, _ => exact sm_non.mono (by decide) (by decide)
  | 1, _ => exact (sm_int (by decide)).mono (by decide) (by decide)
  | 2, _ => exact sm_str1.mono (by decide) (by decide)
  | 3, _ => exact (Sm.list (b := 0) (dep := 0) (n := 1) (fun d hd => by cases List.mem_singleton.mp hd; exact sm_int (by decide)) (by decide)).mono (by decide) (by decide)
  | 4, _ => exact (Sm.tuple (b := 0) (dep := 0) (n := 1) (fun d hd => by cases List.mem_singleton.mp hd; exact sm_int (by decide)) (by decide)).mono (by decide) (by decide)
  | 5, _ => exact (sm_bl true).mono (by decide) (by decide)
  | 6, _ => exact sm_str1.mono (by decide) (by decide)
/-- the row of numbers, moved -/
def movK (n : Nat) (p : Int → Int) (ks : List Nat) : List Nat := tab n fun j => ks.getD (inv n p (j + 1) - 1).toNat 0
theorem movV_map {n : Nat} {p : Int → Int} (hp : PermF n p) {ks : List Nat} (hk : ks.length = n) (f : Nat → V) : movV n p (ks.map f) = (movK n p ks).map f := by
  unfold movV movK tab
  rw [List.map_map]
  refine List.map_congr_left fun j hj => ?_
  have hj := List.mem_range.mp hj
  have := hp.inv.into (j + 1) (by omega)
  have hi : (inv n p (j + 1) - 1).toNat < ks.length := by omega
  show (ks.map f).getD _ _ = f (ks.getD _ _)
  rw [List.getD_eq_getElem?_getD, List.getD_eq_getElem?_getD, List.getElem?_map, List.getElem?_eq_getElem hi]
  rfl
theorem movV_const {n : Nat} {p : Int → Int} (hp : PermF n p) (v : V) : movV n p (List.replicate n v) = List.replicate n v := by
  refine List.ext_getElem? fun j => ?_
  unfold movV
  by_cases hj : j < n
  · have := hp.inv.into (j + 1) (by omega)
    rw [tab_get hj, List.getElem?_replicate, if_pos hj, List.getD_eq_getElem?_getD, List.getElem?_replicate, if_pos (by omega)]
    rfl
  · rw [List.getElem?_eq_none (by rw [tab_len]; omega), List.getElem?_eq_none (by rw [List.length_replicate]; omega)]
theorem movK_lt {n : Nat} {p : Int → Int} {ks : List Nat} (h : ∀ k ∈ ks, k < 7) : ∀ k ∈ movK n p ks, k < 7 := by
  intro k hk
  obtain ⟨j, hj, rfl⟩ := tab_mem hk
  rw [List.getD_eq_getElem?_getD]
  cases e : ks[(inv n p (j + 1) - 1).toNat]? with
  | none => decide
  | some y => exact h y (List.mem_of_getElem? e)
/-- the first i values stand at their ends -/
def midV (n : Nat) (p : Int → Int) (xs : List V) (i : Nat) : List V := tab n fun j => if inv n p (j + 1) ≤ i then xs.getD (inv n p (j + 1) - 1).toNat .non else xs.getD j .non
theorem midV_0 {n : Nat} {p : Int → Int} (hp : PermF n p) {xs : List V} (hx : xs.length = n) : midV n p xs 0 = xs := by
  refine List.ext_getElem? fun j => ?_
  unfold midV
  by_cases hj : j < n
  · have := hp.inv.into (j + 1) (by omega)
    rw [tab_get hj, if_neg (by omega), List.getD_eq_getElem?_getD, List.getElem?_eq_getElem (by omega)]
    rfl
  · rw [List.getElem?_eq_none (by rw [tab_len]; omega), List.getElem?_eq_none (by omega)]
theorem midV_n {n : Nat} {p : Int → Int} (hp : PermF n p) {xs : List V} : midV n p xs n = movV n p xs := tab_ext fun j hj => by
  have := hp.inv.into (j + 1) (by omega)
  rw [if_pos (by omega)]
section
variable {P : Program} {w : World} {K : PySem.W.Frag} {mg : Str → Option Value} {base : Heap}
def sp__law_call_right (K : PySem.W.Frag) : Sp := fun vs H Q _ => ∃ (a b : Addr) (c n : Nat) (p : Int → Int), vs = [.ref a, .ref b] ∧ Draw H a c ∧ c ≤ 900000 ∧ 1 ≤ n ∧ n ≤ 16 ∧ PermF n p ∧ H b = some (.lst (iv (arrL n p))) ∧ b ≠ a ∧
  ∀ H', SameX a H H' → Draw H' a (c + n) → Q (.bl true) H'
theorem ok__law_call_right {f C fI ge ga pr gr pe gn gl gi gc : Addr} {fd : FuncData} {k kc kt : Nat} (hkc : kc + 1 ≤ k) (hkt : kt + 1 ≤ k) (F : Fun K "_law_call_right" "_law_call_right" s__law_call_right f fd) (TC : ArrC K mg C) (TI : ArrIK P w K mg base kc C fI) (TA : ArrT P w K mg base kt C ge ga pr gr pe gn gl gi gc)
    (z_int : mg "int" = none) (z_repr : mg "repr" = none) (z_list : mg "list" = none) (z_enumerate : mg "enumerate" = none) (z_len : mg "len" = none)
    (c__law_next : CalG P w K mg base k "_law_next" s__law_next ["_law_draws_here"] sp__law_next) : FG P w K mg base CX0 (k + 1) f fd ["_law_draws_here", "_law_told"] (sp__law_call_right K) := by
  refine fg_fun F sc__law_call_right (fun vs H Q E h => ?_) (fun cdv A out s H vs Q E hr hg h => ?_)
  · obtain ⟨_, _, _, _, _, rfl, _⟩ := h
    rfl
  · have hu64 := hr.units
    obtain ⟨a, b, c, n, p, rfl, hD, hc, n1, n2, hp, hb, ne, q⟩ := h
    refine ⟨_, (pss_cons (ps_set (i := 2) sc__law_call_right.nd rfl (.inl rfl) (pe_makeG TI.mk TI.init hr (by omega) hg (by rfl) TI.mgC (pa_cons (pv 1) pa_nil)))
      (pss_cons (ps_set (i := 3) sc__law_call_right.nd rfl (.inr rfl) (pe_lst (pa_cons pe_non (pa_cons pe_int (pa_cons pe_str (pa_cons (pe_lst (pa_cons pe_int pa_nil)) (pa_cons (pe_tup (pa_cons pe_int pa_nil)) (pa_cons pe_bl (pa_cons pe_str pa_nil)))))))))
      (pss_cons (ps_setLc (i := 4) (own := [("_law_k", 13)]) (tt := tYes) rfl sc__law_call_right.nd rfl rfl (sw_true rfl rfl rfl (by decide +kernel)) (pi_listK K rfl (pv 1)) (blkOk_by (N := ["_law_draws_here", "_law_told", "_law_box", "_law_things", "_law_some", "_law_kept", "_law_due", "_law_at", "_law_end", "_law_here", "_law_inner", "_law_lists", "_law_moved", "_law_k"]) (sc := defScope s__law_call_right) (by decide +kernel)) (fun _ _ _ _ _ => (pg_name (i := 13) sc__law_call_right.nd rfl (Or.inl rfl))) (fun _ _ _ _ _ => pts_nil) (fun _ _ _ _ _ => (pe_ix (ix_listK K rfl) (pv 3) (pe_op op_mod (pe_callTy call_int1 (by rfl) z_int bt_int (pa_cons (pe_cG c__law_next hr (by omega) hg (by rfl) (pa_cons (pv 0) pa_nil)) pa_nil)) pe_int) (fun _ _ => rfl))))
      (pss_cons (ps_set (i := 5) sc__law_call_right.nd rfl (.inl rfl) (pe_callB (call_reprDK K rfl hu64 hg) (by rfl) z_repr bt_repr (pa_cons (pv 4) pa_nil)))
      (pss_cons (ps_set (i := 6) sc__law_call_right.nd rfl (.inl rfl) (pe_callTy (call_list_ofK K rfl) (by rfl) z_list bt_list (pa_cons (pv 4) pa_nil)))
      (pss_cons (ps_for PassesOwn.never rfl (pi_enumK K rfl (by rfl) z_enumerate (pa_cons (pv 1) pa_nil)) (pg_tupK K rfl rfl (pgs_cons (pg_name (i := 7) sc__law_call_right.nd rfl (.inl rfl)) (pgs_cons (pg_name (i := 8) sc__law_call_right.nd rfl (.inl rfl)) pgs_nil)))
        (pss_one (ps_asg (pe_ix (ix_listK K rfl) (pv 4) (pv 7) (fun _ _ => rfl)) (pg_sub (pv 6) (pe_op op_sub (pv 8) pe_int) set_list))))
      (pss_cons (ps_set (i := 9) sc__law_call_right.nd rfl (.inl rfl) (pe_lst (pa_cons (pe_callO (i := 2) TA.s___call__ TA.f___call__ hr (by omega) hg rfl (.inl rfl) (pa_cons (pv 4) pa_nil)) (pa_cons (pe_callOK (i := 2) TA.s___call__ TA.k___call__ hr (by omega) hg rfl (.inl rfl) (pk_cons (pv 4) pk_nil)) pa_nil))))
      (pss_cons (ps_if (PW.pt (pw_or (pt_cmpR op_ne (pe_callB (call_reprDK K rfl hu64 hg) (by rfl) z_repr bt_repr (pa_cons (pv 9) pa_nil)) (pe_callB (call_reprDK K rfl hu64 hg) (by rfl) z_repr bt_repr (pa_cons (pe_lst (pa_cons (pv 6) (pa_cons (pv 6) pa_nil))) pa_nil)) (nomark _)) (pw_or1 (pt_cmpR op_ne (pe_callB (call_reprDK K rfl hu64 hg) (by rfl) z_repr bt_repr (pa_cons (pv 4) pa_nil)) (pv 5) (nomark _)))))
        (pss_one (ps_ret pe_bl))
        pss_nil)
      (pss_cons (ps_expr (pe_bmK K rfl PySem.F.plainAttrs_list PySem.F.slot_list_append PySem.F.type_list_append mt_append (pe_ix (ix_listK K rfl) (pv 9) pe_int (fun _ _ => rfl)) (pa_cons pe_non pa_nil)))
      (pss_cons (ps_if (PW.pt (pw_or (pt_cmpR op_ne (pe_callB (call_reprDK K rfl hu64 hg) (by rfl) z_repr bt_repr (pa_cons (pe_callO (i := 2) TA.s___call__ TA.f___call__ hr (by omega) hg rfl (.inl rfl) (pa_cons (pv 4) pa_nil)) pa_nil)) (pe_callB (call_reprDK K rfl hu64 hg) (by rfl) z_repr bt_repr (pa_cons (pv 6) pa_nil)) (nomark _)) (pw_or1 (pt_cmpR (op_neDK K rfl hu64) (pe_propG (pv 2) TA.cl TA.p_ends TA.f_ends hr (by omega) hg) (pv 1) (nomark _)))))
        (pss_one (ps_ret pe_bl))
        pss_nil)
      (pss_cons (ps_set (i := 10) sc__law_call_right.nd rfl (.inr rfl) (pe_lst (pa_cons pe_int pa_nil)))
      (pss_cons (ps_setLc (i := 11) (own := [("_law_k", 13)]) (tt := tYes) rfl sc__law_call_right.nd rfl rfl (sw_true rfl rfl rfl (by decide +kernel)) (pi_listK K rfl (pv 1)) (blkOk_by (N := ["_law_draws_here", "_law_told", "_law_box", "_law_things", "_law_some", "_law_kept", "_law_due", "_law_at", "_law_end", "_law_here", "_law_inner", "_law_lists", "_law_moved", "_law_k"]) (sc := defScope s__law_call_right) (by decide +kernel)) (fun _ _ _ _ _ => (pg_name (i := 13) sc__law_call_right.nd rfl (Or.inl rfl))) (fun _ _ _ _ _ => pts_nil) (fun _ _ _ _ _ => (pv 10)))
      (pss_cons (ps_set (i := 12) sc__law_call_right.nd rfl (.inl rfl) (pe_callO (i := 2) TA.s___call__ TA.f___call__ hr (by omega) hg rfl (.inl rfl) (pa_cons (pv 11) pa_nil)))
      (pss_cons (ps_expr (pe_bmK K rfl PySem.F.plainAttrs_list PySem.F.slot_list_append PySem.F.type_list_append mt_append (pv 10) (pa_cons pe_int pa_nil)))
      (pss_one (ps_ret (pe_and (pe_cmpR op_eq (pe_callB (call_reprDK K rfl hu64 hg) (by rfl) z_repr bt_repr (pa_cons (pv 12) pa_nil)) (pe_callB (call_reprDK K rfl hu64 hg) (by rfl) z_repr bt_repr (pa_cons (pe_op op_rep (pe_lst (pa_cons (pe_lst (pa_cons pe_int (pa_cons pe_int pa_nil))) pa_nil)) (pe_callB (call_len_seqK K rfl) (by rfl) z_len bt_len (pa_cons (pv 1) pa_nil))) pa_nil)) (nomark _)) (pe_one (pe_cmpR (op_eqDK K rfl hu64) (pe_propG (pv 2) TA.cl TA.p_ends TA.f_ends hr (by omega) hg) (pv 1) (nomark _)))))))))))))))))))), ?_⟩
    have hl : (iv (arrL n p)).length = n := by rw [iv_len, arrL_len]
    refine ⟨_, rfl, ?_⟩
    dsimp only [tNil]
    refine mk_ok n1 n2 hp (SqL.of hb) fun H1 o dx t l1 => ?_
    have hD1 := hD.grow l1.same
    have hb1 := l1.same _ _ hb
    have at1' : ArrAt C H1 o n p := ⟨dx, t, l1.atIx (i := 0) rfl, l1.atIx (i := 2) rfl⟩
    have s01 := l1.same
    have neo : o ≠ a := fun z => by
      have h1 := l1.new _ (List.mem_cons_self (a := (o, _)))
      obtain ⟨_, _, _, h2, _⟩ := hD
      rw [show (o, _).1 = a from z, h2] at h1
      cases h1
    have net : t ≠ a := fun z => by
      have h1 := l1.new _ (List.mem_of_getElem? (i := 2) rfl)
      obtain ⟨_, _, _, h2, _⟩ := hD
      rw [show (t, HO.lst (iv (arrL n p))).1 = a from z, h2] at h1
      cases h1
    have ho1 : H1 o = some (.ins C dx (told t)) := l1.atIx (i := 0) rfl
    have ht1 : H1 t = some (.lst (iv (arrL n p))) := l1.atIx (i := 2) rfl
    clear l1
    refine ⟨Nat.le_of_lt (sl_line' (by show 1 < 100000; omega)), fun L hL => ⟨Nat.le_of_lt (sl_line' (by show 1 < 100000; omega)), fun T hT => ⟨Nat.le_of_lt (sl_line' (by show 7 < 100000; omega)), fun B hB => ?_⟩⟩⟩
    have l3 := ((hD1.dloc.alloc (o := .lst [.int 1]) hL).alloc (o := .tup [.int 2]) hT).alloc (o := .lst [V.non, .int 5, .str "a", .ref L, .ref T, .bl true, .str "a"]) hB
    refine ⟨_, rfl, ?_⟩
    refine ⟨b, rfl, ⟨_, SqL.of (l3.sameX _ _ ne hb1)⟩, fun D hD3 => lc_list (K := K) (a := b) (xs := iv (arrL n p)) (fun i H' => ∃ ks : List Nat, ks.length = i ∧ (∀ k ∈ ks, k < 7) ∧ DLoc H1 a (c + i) H' [(D, .lst (ks.map (thV L T))), (B, .lst [V.non, .int 5, .str "a", .ref L, .ref T, .bl true, .str "a"]), (T, .tup [.int 2]), (L, .lst [.int 1])])
      ⟨[], rfl, (fun _ z => nomatch z), l3.alloc hD3⟩ (fun i H' _ h => by obtain ⟨_, _, _, l⟩ := h; exact SqL.of (l.sameX _ _ ne hb1)) ?_ ?_⟩
    · rintro i x H' hx ⟨ks, kl, k7, l⟩
      have hi := (List.getElem?_eq_some_iff.mp hx).1
      rw [hl] at hi
      refine ⟨rfl, ?_⟩
      refine ⟨_, rfl, _, rfl, a, _, rfl, l.draw, by omega, fun n0 k0 b0 r i1 i2 i3 i4 => .inl ⟨_, rfl, ?_⟩⟩
      have l2 := l.next (b := b0) i1 i2 i3
      have e0 : 0 ≤ r % 7 := Int.emod_nonneg _ (by omega)
      have e1 : r % 7 < 7 := Int.emod_lt_of_pos _ (by omega)
      have hk : (r % 7).toNat < 7 := by omega
      have g : ([V.non, .int 5, .str "a", .ref L, .ref T, .bl true, .str "a"] : List V)[(r % 7).toNat]? = some (thV L T (r % 7).toNat) := by
        unfold thV
        rw [List.getD_eq_getElem?_getD, List.getElem?_eq_getElem (by exact hk)]
        rfl
      refine ⟨_, _, rfl, rfl, (by show (0 : Int) < 7; omega), B, _, _, _, rfl, rfl, SqL.of (l2.atIx (i := 1) rfl), at_of (j := (r % 7).toNat) (by omega) g, ?_⟩
      refine ⟨_, l2.atIx (i := 0) rfl, sl_line' (by rw [List.length_map]; omega), ks ++ [(r % 7).toNat], by simp; omega, ?_, ?_⟩
      · intro k hk2
        rcases List.mem_append.mp hk2 with z | z
        · exact k7 k z
        · cases List.mem_singleton.mp z; exact hk
      · rw [List.map_append, ← Nat.add_assoc]
        exact l2.setIx (i := 0) rfl
    · rintro H' ⟨ks, kl, k7, l⟩
      rw [hl] at kl l
      have hb2 := l.sameX _ _ ne hb1
      have sX := l.sameX
      have hoS := sX _ _ neo ho1
      have htS := sX _ _ net ht1
      have drS := l.draw
      have hDs := l.atIx (i := 0) rfl
      have hLs : SqL K H' L [.int 1] := SqL.of (l.atIx (i := 3) rfl)
      have hTs : SqT K H' T [.int 2] := SqT.of (l.atIx (i := 2) rfl)
      clear l l3 hD1 hb1 ho1 ht1 at1' hL hT hB hD3
      have sXX : SameX a H H' := SameX.trans (Same.x s01) sX
      clear s01 sX
      have xl : (ks.map (thV L T)).length = n := by rw [List.length_map]; exact kl
      have dpx : ∀ ks' : List Nat, (∀ k ∈ ks', k < 7) → ∀ H2 d, Same H' H2 → SqL K H2 d (ks'.map (thV L T)) → Dp K H2 (.ref d) (.list (ks'.map thD)) := fun ks' h7 H2 d s2 hd =>
        .lst hd (dpAll_map _ _ _ fun k hk => thD_dp (s2.seq hLs) (Same.sqT s2 hTs) (h7 k hk))
      have smx : ∀ ks' : List Nat, (∀ k ∈ ks', k < 7) → ks'.length ≤ 16 → Sm 32 2 (.list (ks'.map thD)) := fun ks' h7 h16 =>
        Sm.list (n := 16) (b := 1) (dep := 1) (fun d hd => by obtain ⟨k, hk, rfl⟩ := List.mem_map.mp hd; exact thD_sm (h7 k hk)) (by rw [List.length_map]; exact h16)
      refine ⟨_, rfl, _, _, rfl, dpx ks k7 _ _ (Same.refl _) (SqL.of hDs), smQ (smx ks k7 (by omega)) (by decide) (by decide) ?_⟩
      refine ⟨_, rfl, D, _, rfl, .inl (SqL.of hDs), fun du hdu => ?_⟩
      have l0 := (Loc.refl H').alloc (o := .lst (ks.map (thV L T))) hdu
      have e0 := midV_0 hp xl
      refine ⟨_, rfl, b, iv (arrL n p), rfl, l0.same.seq (SqL.of hb2), for_enum (K := K) (a := b) (xs := iv (arrL n p)) (fun i σ H3 => ∃ y7 y8 : Option V, σ = [some (.ref a), some (.ref b), some (.ref o), some (.ref B), some (.ref D), some (.str (PyData.list (ks.map thD)).shown), some (.ref du), y7, y8, none, none, none, none, none] ∧ Loc H' H3 [(du, .lst (midV n p (ks.map (thV L T)) i))]) ⟨none, none, rfl, by rw [e0]; exact l0⟩ ?_ ?_ ?_⟩
      · rintro i σ H3 ⟨_, _, _, l3⟩
        exact l3.same.seq (SqL.of hb2)
      · rintro i x σ H3 Tp hx ⟨y7, y8, rfl, l3⟩ hTp
        obtain ⟨c', hc', rfl⟩ := iv_inv hx
        obtain ⟨hi, rfl⟩ := arrL_at hc'
        have hb1 := hp.into (i + 1) (by omega)
        have l4 := l3.alloc (o := .tup [.int (i : Nat), .int (p (i + 1))]) hTp
        refine ⟨Tp, _, rfl, .inl (.inl upd_same), rfl, _, _, rfl, _, _, rfl, rfl, ?_⟩
        have g : (ks.map (thV L T))[i]? = some ((ks.map (thV L T)).getD i .non) := by
          rw [List.getD_eq_getElem?_getD, List.getElem?_eq_getElem (by omega)]; rfl
        refine ⟨_, rfl, _, rfl, D, _, _, _, rfl, rfl, SqL.of (l4.same _ _ hDs), atI_nat g, ?_⟩
        refine ⟨_, rfl, _, rfl, _, _, rfl, rfl, du, _, _, (p (i + 1) - 1).toNat, rfl, rfl, l4.atIx (i := 1) rfl, ixI (by omega) (by unfold midV; rw [tab_len]; omega), ?_⟩
        have l5 := (l4.setIx (i := 1) (o' := .lst ((midV n p (ks.map (thV L T)) i).set (p (i + 1) - 1).toNat ((ks.map (thV L T)).getD i .non))) rfl).drop1
        have es : (midV n p (ks.map (thV L T)) i).set (p (i + 1) - 1).toNat ((ks.map (thV L T)).getD i .non) = midV n p (ks.map (thV L T)) (i + 1) := by
          unfold midV
          rw [tab_set]
          refine tab_ext fun j hj => ?_
          by_cases z : j = (p (i + 1) - 1).toNat
          · have : ((j : Int) + 1) = p (i + 1) := by omega
            rw [if_pos z, this, hp.inv_p (by omega), if_pos (by omega)]
            congr 1
            omega
          · rw [if_neg z]
            have ne : inv n p (j + 1) ≠ i + 1 := fun e => by
              have := hp.p_inv (x := j + 1) (by omega)
              rw [e] at this
              omega
            by_cases y : inv n p (j + 1) ≤ (i : Nat)
            · rw [if_pos y, if_pos (by omega)]
            · rw [if_neg y, if_neg (by omega)]
        exact ⟨_, _, rfl, by rw [← es]; exact l5⟩
      · rintro σ H3 ⟨y7, y8, rfl, l3⟩
        rw [hl, midV_n hp, movV_map hp kl] at l3
        have at3 : ∀ {H2 : Hp}, Same H' H2 → ArrAt C H2 o n p := fun s2 => ⟨dx, t, s2 _ _ hoS, s2 _ _ htS⟩
        have s3 := l3.same
        have call : ∀ {H2 : Hp} {Q2 : VK} {d : Addr} {xs : List V}, Same H' H2 → SqL K H2 d xs → xs.length = n → (∀ H3 m, Loc H2 H3 [(m, .lst (movV n p xs))] → Q2 (.ref m) H3) → sp_Arrangement___call__ K C [.ref o, .ref d] H2 Q2 E0 :=
          fun s2 hd hx q2 => ⟨o, _, n, p, _, rfl, n2, hp, at3 s2, hd, hx, q2⟩
        refine ⟨o, rfl, _, rfl, dx, told t, s3 _ _ hoS, call s3 (SqL.of (s3 _ _ hDs)) xl fun H4 m1 l4 => ?_⟩
        rw [movV_map hp kl] at l4
        have s4 := s3.trans l4.same
        refine ⟨o, rfl, _, rfl, rfl, dx, told t, s4 _ _ hoS, call s4 (SqL.of (s4 _ _ hDs)) xl fun H5 m2 l5 => ?_⟩
        rw [movV_map hp kl] at l5
        refine ⟨sl2, fun he hhe => ?_⟩
        have l6 := ((l3.call l4).call l5).alloc (o := .lst [.ref m1, .ref m2]) hhe
        have k7' : ∀ k ∈ movK n p ks, k < 7 := movK_lt k7
        have smK : Sm 32 2 (.list ((movK n p ks).map thD)) := smx _ k7' (by unfold movK; rw [tab_len]; exact n2)
        have smS := smx ks k7 (by omega)
        refine ⟨_, rfl, _, _, rfl, dp_two (SqL.of (l6.atIx (i := 0) rfl)) (dpx _ k7' _ _ l6.same (SqL.of (l6.atIx (i := 2) rfl))) (dpx _ k7' _ _ l6.same (SqL.of (l6.atIx (i := 1) rfl))), smQ (sm_two smK smK) (by decide) (by decide) ?_⟩
        refine ⟨_, rfl, _, rfl, sl2, fun e2 he2 => ?_⟩
        have l7 := l6.alloc (o := .lst [.ref du, .ref du]) he2
        refine ⟨_, _, rfl, dp_two (SqL.of l7.at0) (dpx _ k7' _ _ l7.same (SqL.of (l7.atIx (i := 4) rfl))) (dpx _ k7' _ _ l7.same (SqL.of (l7.atIx (i := 4) rfl))), smQ (sm_two smK smK) (by decide) (by decide) ⟨rfl, _, rfl, iteFF (by simp) ?_⟩⟩
        have l8 := l7.drop1
        refine ⟨_, rfl, _, _, rfl, dpx ks k7 _ _ l7.same (SqL.of (l7.same _ _ hDs)), smQ smS (by decide) (by decide) ⟨_, rfl, rfl, _, rfl, iteFF (by simp) ?_⟩⟩
        refine ⟨_, rfl, he, _, _, _, rfl, rfl, SqL.of (l8.atIx (i := 0) rfl), at_of (j := 0) rfl rfl, .inl ⟨rfl, _, SqL.of (l8.atIx (i := 2) rfl)⟩, m1, _, _, rfl, rfl, l8.atIx (i := 2) rfl, sl_line' (by rw [List.length_map]; unfold movK; rw [tab_len]; omega), ?_⟩
        have l9 := l8.setIx (i := 2) (o' := .lst ((movK n p ks).map (thV L T) ++ [.non])) rfl
        refine ⟨o, rfl, _, rfl, dx, told t, l9.same _ _ hoS, call l9.same (SqL.of (l9.same _ _ hDs)) xl fun H10 m3 l10 => ?_⟩
        rw [movV_map hp kl] at l10
        have lB := l9.call l10
        refine ⟨_, _, rfl, dpx _ k7' _ _ lB.same (SqL.of (lB.atIx (i := 0) rfl)), smQ smK (by decide) (by decide) ⟨_, rfl, _, _, rfl, dpx _ k7' _ _ lB.same (SqL.of (lB.atIx (i := 4) rfl)), smQ smK (by decide) (by decide) ⟨rfl, _, rfl, iteFF (by simp) ?_⟩⟩⟩
        have sB := lB.same
        clear l0 l3 l4 l5 l6 l7 l8 l9 l10 lB
        refine ⟨_, rfl, o, dx, told t, rfl, sB _ _ hoS, o, n, p, rfl, at3 sB, fun eC heC => ⟨_, rfl, dI (arrL n p), dI (arrL n p), IsInts.dp (SqL.of upd_same), IsInts.dp (SqL.of ((sB.trans (sA heC)) _ _ hb2)), shaped_dI _, shaped_dI _, ?_⟩⟩
        rw [eqv_dI, decide_eq_true rfl]
        have sC := sB.trans (sA (o := .lst (iv (arrL n p))) heC)
        refine ⟨_, rfl, iteFF rfl ?_⟩
        refine ⟨Nat.le_of_lt (sl_line' (by show 1 < 100000; omega)), fun iN hiN => ?_⟩
        have lD := (Loc.of sC).alloc (o := .lst [.int 7]) hiN
        refine ⟨_, rfl, b, rfl, ⟨_, SqL.of (lD.same _ _ hb2)⟩, fun Z hZ => lc_list (K := K) (a := b) (xs := iv (arrL n p)) (fun i H2 => Loc H' H2 [(Z, .lst (List.replicate i (.ref iN))), (iN, .lst [.int 7])]) (lD.alloc hZ) (fun i H2 _ l => SqL.of (l.same _ _ hb2)) ?_ ?_⟩
        · rintro i x H2 hx l
          have hi := (List.getElem?_eq_some_iff.mp hx).1
          rw [hl] at hi
          refine ⟨rfl, _, rfl, _, l.at0, sl_line' (by rw [List.length_replicate]; omega), ?_⟩
          rw [← List.replicate_succ']
          exact l.put0
        · intro H2 l
          rw [hl] at l
          refine ⟨o, rfl, _, rfl, dx, told t, l.same _ _ hoS, call l.same (SqL.of l.at0) (List.length_replicate ..) fun H11 m4 l11 => ?_⟩
          rw [movV_const hp] at l11
          have lE := l.call l11
          refine ⟨_, rfl, .inl ⟨rfl, _, SqL.of (lE.atIx (i := 2) rfl)⟩, iN, _, _, rfl, rfl, lE.atIx (i := 2) rfl, sl_line' (by show 1 < 100000; omega), ?_⟩
          have lF := lE.setIx (i := 2) (o' := .lst [.int 7, .int 8]) rfl
          have dp78 : ∀ {H2 : Hp} {x : Addr}, SqL K H2 x [.int 7, .int 8] → Dp K H2 (.ref x) (dI [7, 8]) := fun h => IsInts.dp (ns := [7, 8]) h
          have sm78 : Sm (16 * 3) 2 (.list (List.replicate n (dI [7, 8]))) := Sm.list (n := 16) (b := 2) (dep := 1) (fun d hd => by
            rw [List.eq_of_mem_replicate hd]
            exact sm_dI (n := 2) (by intro i hi; simp only [List.mem_cons, List.not_mem_nil, or_false] at hi; rcases hi with rfl | rfl <;> decide) (by decide)) (by rw [List.length_replicate]; exact n2)
          have dpr : ∀ {H2 : Hp} {x : Addr}, SqL K H2 x [.int 7, .int 8] → ∀ m, DpAll K H2 (List.replicate m (.ref x)) (List.replicate m (dI [7, 8])) := by
            intro H2 x hx m
            induction m with
            | zero => exact .nil
            | succ m ih => exact .cons (dp78 hx) ih
          refine ⟨_, rfl, _, _, rfl, .lst (SqL.of (lF.atIx (i := 0) rfl)) (dpr (SqL.of (lF.atIx (i := 2) rfl)) n), smQ sm78 (by decide) (by decide) ?_⟩
          refine ⟨Nat.le_of_lt (sl_line' (by show 2 < 100000; omega)), fun g1 hg1 => ⟨Nat.le_of_lt (sl_line' (by show 1 < 100000; omega)), fun g2 hg2 => ?_⟩⟩
          have lG := (lF.alloc (o := .lst [.int 7, .int 8]) hg1).alloc (o := .lst [.ref g1]) hg2
          refine ⟨_, rfl, b, _, rfl, .inl (SqL.of (lG.same _ _ hb2)), ?_⟩
          refine ⟨g2, ((iv (arrL n p)).length : Int), _, rfl, rfl, lG.at0, by omega, by rw [hl]; omega, by rw [hl, show ((n : Int)).toNat = n by omega]; exact Nat.le_of_lt (sl_line' (by show 1 * n < 100000; omega)), fun g3 hg3 => ?_⟩
          have fl : (List.replicate ((iv (arrL n p)).length : Int).toNat [V.ref g1]).flatten = List.replicate n (V.ref g1) := by
            rw [hl, show ((n : Int)).toNat = n by omega]
            generalize n = m
            induction m with
            | zero => rfl
            | succ m ih => rw [List.replicate_succ, List.flatten_cons, ih]; rfl
          rw [fl]
          have lH := lG.alloc (o := .lst (List.replicate n (.ref g1))) hg3
          refine ⟨_, _, rfl, .lst (SqL.of lH.at0) (dpr (SqL.of (lH.atIx (i := 2) rfl)) n), smQ sm78 (by decide) (by decide) ⟨rfl, _, rfl, iteTT (decide_eq_true rfl) ?_⟩⟩
          have sH := lH.same
          refine ⟨_, rfl, o, dx, told t, rfl, sH _ _ hoS, o, n, p, rfl, at3 sH, fun eI heI => ⟨_, rfl, dI (arrL n p), dI (arrL n p), IsInts.dp (SqL.of upd_same), IsInts.dp (SqL.of ((sH.trans (sA heI)) _ _ hb2)), shaped_dI _, shaped_dI _, ?_⟩⟩
          rw [eqv_dI, decide_eq_true rfl]
          have sI := sH.trans (sA (o := .lst (iv (arrL n p))) heI)
          exact q _ (SameX.more sXX sI) (Draw.grow sI drS)
end

abbrev s_law : Stmt := topS 33
theorem sc_law : FnScope ["_law_script", "_law_draws_here", "_law_turn", "_law_size", "_law_told", "_law_other", "_law_cell"] ["_law_script"] (defScope s_law) := ⟨rfl, rfl, rfl, by decide +kernel, rfl, by decide +kernel, by decide +kernel⟩
theorem SameX.draw {a b : Addr} {m : Nat} {H H' : Hp} (s : SameX a H H') (hb : b ≠ a) (h : Draw H b m) : Draw H' b m := by
  obtain ⟨n, k, c, h1, h2⟩ := h
  exact ⟨n, k, c, s _ _ hb h1, h2⟩



theorem IsPairs.nil {K : PySem.W.Frag} {H : Hp} {a : Addr} (h : SqL K H a []) : IsPairs K H a [] := ⟨[], rfl, h, (fun _ z => nomatch z)⟩
theorem validW_nil {n : Nat} : ValidW n [] := ⟨(fun _ z => nomatch z), List.Pairwise.nil⟩


theorem DLoc.ne1 {H H2 : Hp} {a p : Addr} {m m' : Nat} {o : HO} {L : Led} (l : DLoc H a m H2 ((p, o) :: L)) (_ : Draw H a m') : p ≠ a := by
  obtain ⟨n, k, b, l, _⟩ := l
  intro e
  have h := l.new _ (List.mem_cons_self (a := (p, o)))
  rw [show (p, o).1 = a from e, upd_same] at h
  cases h
def drawL (ds : List (Addr × Int × Bool)) : Led := ds.map fun q => (q.1, drawO q.2.1 0 q.2.2)
section
variable {P : Program} {w : World} {K : PySem.W.Frag} {mg : Str → Option Value} {base : Heap}
def sp_law (K : PySem.W.Frag) : Sp := fun vs H Q _ => ∃ (a : Addr) (ns : List Int), vs = [.ref a] ∧ ns.length ≤ 63 ∧ SqL K H a (iv ns) ∧ ∀ H', Q (.bl true) H'
theorem ok_law {f C fI ge ga pr gr pe gn gl gi gc : Addr} {fd : FuncData} {k kc kt : Nat} (hkc : kc + 1 ≤ k) (hkt : kt + 1 ≤ k) (F : Fun K "law" "law" s_law f fd) (TC : ArrC K mg C) (TI : ArrIK P w K mg base kc C fI) (TA : ArrT P w K mg base kt C ge ga pr gr pe gn gl gi gc)
    (z_range : mg "range" = none) (z_int : mg "int" = none) (z_abs : mg "abs" = none)
    (c__law_draws : CalG P w K mg base k "_law_draws" s__law_draws ["_law_cell"] sp__law_draws) (c__law_next : CalG P w K mg base k "_law_next" s__law_next ["_law_draws_here"] sp__law_next) (c__law_shuffled : CalG P w K mg base k "_law_shuffled" s__law_shuffled ["_law_draws_here", "_law_size"] sp__law_shuffled)
    (c__law_right : CalG P w K mg base k "_law_right" s__law_right ["_law_told", "_law_other"] (sp__law_right K)) (c__law_call_right : CalG P w K mg base k "_law_call_right" s__law_call_right ["_law_draws_here", "_law_told"] (sp__law_call_right K)) :
    FG P w K mg base CX0 (k + 1) f fd ["_law_script"] (sp_law K) := by
  refine fg_fun F sc_law (fun vs H Q E h => ?_) (fun cdv A out s H vs Q E hr hg h => ?_)
  · obtain ⟨a, ns, rfl, _⟩ := h
    rfl
  · obtain ⟨a, ns, rfl, nl, hs, q⟩ := h
    have hu64 := hr.units
    refine ⟨_, (pss_cons (ps_for PassesOwn.never rfl (pi_listK K rfl (pe_lc (own := [("_law_cell", 6)]) (tt := tYes) rfl sc_law.nd (pi_listK K rfl (pe_op op_cat (pe_slice (sl_listK K rfl) (pv 0) po_none (po_some pe_int)) (pe_lst (pa_cons pe_int pa_nil)))) (blkOk_by (N := ["_law_script", "_law_draws_here", "_law_turn", "_law_size", "_law_told", "_law_other", "_law_cell"]) (sc := defScope s_law) (by decide +kernel)) (fun _ _ _ _ _ => (pg_name (i := 6) sc_law.nd rfl (Or.inl rfl))) (fun _ _ _ _ _ => pts_nil) (fun _ _ _ _ _ => (pe_cG c__law_draws hr (by omega) hg (by rfl) (pa_cons (pv 6) pa_nil))))) (pg_name (i := 1) sc_law.nd rfl (.inl rfl))
        (pss_one (ps_for PassesOwn.never rfl (pi_range1 (by rfl) z_range (pa_cons pe_int pa_nil)) (pg_name (i := 2) sc_law.nd rfl (.inl rfl))
            (pss_cons (ps_set (i := 3) sc_law.nd rfl (.inl rfl) (pe_op op_add pe_int (pe_op op_mod (pe_callTy call_int1 (by rfl) z_int bt_int (pa_cons (pe_cG c__law_next hr (by omega) hg (by rfl) (pa_cons (pv 1) pa_nil)) pa_nil)) pe_int)))
              (pss_cons (ps_set (i := 4) sc_law.nd rfl (.inl rfl) (pe_cG c__law_shuffled hr (by omega) hg (by rfl) (pa_cons (pv 1) (pa_cons (pv 3) pa_nil))))
              (pss_cons (ps_set (i := 5) sc_law.nd rfl (.inl rfl) (pe_ifExp (pt_cmpR op_eq (pe_op op_mod (pe_callTy call_int1 (by rfl) z_int bt_int (pa_cons (pe_cG c__law_next hr (by omega) hg (by rfl) (pa_cons (pv 1) pa_nil)) pa_nil)) pe_int) pe_int (nomark _)) (pv 4) (pe_cG c__law_shuffled hr (by omega) hg (by rfl) (pa_cons (pv 1) (pa_cons (pv 3) pa_nil)))))
              (pss_one (ps_if (PW.pt (pw_or (pt_not (pt_val (pe_cG c__law_right hr (by omega) hg (by rfl) (pa_cons (pv 4) (pa_cons (pv 5) pa_nil))))) (pw_or (pt_not (pt_val (pe_cG c__law_right hr (by omega) hg (by rfl) (pa_cons (pv 4) (pa_cons (pe_lst (pa_cons pe_int pa_nil)) pa_nil))))) (pw_or1 (pt_not (pt_val (pe_cG c__law_call_right hr (by omega) hg (by rfl) (pa_cons (pv 1) (pa_cons (pv 4) pa_nil)))))))))
                (pss_one (ps_ret pe_bl))
                pss_nil))))))))
      (pss_one (ps_ret (pe_and (pe_cmpR (op_eqDK K rfl hu64) (pe_propG (pe_makeG TI.mk TI.init hr (by omega) hg (by rfl) TI.mgC (pa_cons (pe_lst (pa_cons pe_int (pa_cons pe_int (pa_cons pe_int (pa_cons pe_int pa_nil))))) pa_nil)) TA.cl TA.p_rounds TA.f_rounds hr (by omega) hg) (pe_lst (pa_cons (pe_lst (pa_cons pe_int (pa_cons pe_int (pa_cons pe_int pa_nil)))) (pa_cons (pe_lst (pa_cons pe_int pa_nil)) pa_nil))) (nomark _)) (pe_one (pe_cmpR op_eq (pe_callB (call_absOwn TA.s___abs__ TA.f___abs__ hr (by omega) hg) (by rfl) z_abs bt_abs (pa_cons (pe_makeG TI.mk TI.init hr (by omega) hg (by rfl) TI.mgC (pa_cons (pe_lst (pa_cons pe_int pa_nil)) pa_nil)) pa_nil)) pe_int (nomark _))))))), ?_⟩
    have ec : cutV (iv ns) none (some 6) = iv (ns.take 6) := (cut_to (xs := iv ns) (k := 6)).trans List.map_take.symm
    refine ⟨_, rfl, _, rfl, a, iv ns, rfl, hs, fun p1 hp1 => ⟨sl1, fun p2 hp2 => ?_⟩⟩
    rw [ec] at hp2 ⊢
    have m1 : upd (upd H p1 (.lst (iv (ns.take 6)))) p2 (.lst [.int 0]) p1 = some (.lst (iv (ns.take 6))) := by
      rw [upd_ne (ne_of_none upd_same hp2)]; exact upd_same
    have tl : (ns.take 6).length ≤ 6 := List.length_take_le _ _
    refine ⟨p1, p2, _, _, rfl, rfl, m1, upd_same, by rw [iv_len]; exact Nat.le_of_lt (sl_line' (by simp; omega)), fun p3 hp3 => ⟨p3, rfl, ⟨_, SqL.of upd_same⟩, fun D hD => ?_⟩⟩
    generalize hH0 : upd (upd (upd H p1 (.lst (iv (ns.take 6)))) p2 (.lst [.int 0])) p3 (.lst (iv (ns.take 6) ++ [.int 0])) = H0 at hD ⊢
    have s3 : SqL K H0 p3 (iv (ns.take 6 ++ [0])) := by rw [← hH0, iv_snoc]; exact SqL.of upd_same
    clear hH0
    refine lc_list (K := K) (a := p3) (xs := iv (ns.take 6 ++ [0])) (fun i H1 => ∃ ds : List (Addr × Int × Bool), ds.length = i ∧ (∀ q ∈ ds, 0 ≤ q.2.1) ∧ Loc H0 H1 ((D, .lst (refs ds)) :: drawL ds))
      ⟨[], rfl, (fun _ z => nomatch z), (Loc.refl H0).alloc hD⟩ (fun i H1 _ h => by obtain ⟨_, _, _, l⟩ := h; exact l.same.seq s3) ?_ ?_
    · rintro i x H1 hx ⟨ds, dl, dn, l⟩
      obtain ⟨c, hc, rfl⟩ := iv_inv hx
      have hi : i < (ns.take 6 ++ [0]).length := (List.getElem?_eq_some_iff.mp hc).1
      rw [List.length_append, List.length_singleton] at hi
      refine ⟨rfl, _, rfl, c, rfl, fun p n b hp n0 => ⟨refs ds, (l.alloc hp).atIx (i := 1) rfl, sl_line' (by rw [refs_len]; omega), ds ++ [(p, n, b)], by simp; omega, ?_, ?_⟩⟩
      · intro q hq
        rcases List.mem_append.mp hq with hq | hq
        · exact dn q hq
        · cases List.mem_singleton.mp hq; exact n0
      · have l2 := (l.alloc (o := drawO n 0 b) hp).setIx (i := 1) (o' := .lst (refs ds ++ [.ref p])) rfl
        have e : drawL (ds ++ [(p, n, b)]) = drawL ds ++ [(p, drawO n 0 b)] := List.map_append ..
        rw [refs_snoc, e]
        exact l2.perm (M := ((D, .lst (refs ds ++ [.ref p])) :: drawL ds) ++ [(p, _)]) List.perm_append_comm
    · rintro H1 ⟨ds, dl, dn, l⟩
      have nd := l.nd
      have fst : (drawL ds).map Prod.fst = ds.map Prod.fst := by unfold drawL; rw [List.map_map]; rfl
      rw [List.map_cons, fst, List.nodup_cons] at nd
      obtain ⟨ndD, nd⟩ := nd
      have neD : ∀ q ∈ ds, D ≠ q.1 := fun q hq e => ndD (by rw [e]; exact List.mem_map.mpr ⟨q, hq, rfl⟩)
      have neI : ∀ (i j : Nat) (q r : Addr × Int × Bool), ds[i]? = some q → ds[j]? = some r → i ≠ j → r.1 ≠ q.1 := fun i j q r h1 h2 h3 e => by
        refine h3 (nd_ix nd (by rw [List.getElem?_map, h1]; rfl) (by rw [List.getElem?_map, h2, ← e]; rfl))
      have start : ∀ q ∈ ds, Draw H1 q.1 0 := fun q hq => ⟨q.2.1, 0, q.2.2, l.here (q.1, drawO q.2.1 0 q.2.2) (List.mem_cons_of_mem _ (List.mem_map.mpr ⟨q, hq, rfl⟩)), dn q hq, by omega, by omega⟩
      refine ⟨D, rfl, ⟨_, SqL.of l.at0⟩, for_list (K := K) (a := D) (xs := refs ds)
        (fun i σ H2 => ∃ y1 y2 y3 y4 y5 : Option V, σ = [some (.ref a), y1, y2, y3, y4, y5, none] ∧ H2 D = some (.lst (refs ds)) ∧ ∀ j q, i ≤ j → ds[j]? = some q → Draw H2 q.1 0) ?_ ?_ ?_ ?_⟩
      · exact ⟨none, none, none, none, none, rfl, l.at0, fun j q _ hq => start q (List.mem_of_getElem? hq)⟩
      · intro i σ H2 _ h
        obtain ⟨_, _, _, _, _, _, h, _⟩ := h
        exact SqL.of h
      · rintro i x σ H2 hx ⟨y1, y2, y3, y4, y5, rfl, hD2, hdr⟩
        obtain ⟨⟨b, z⟩, hq, rfl⟩ := refs_inv hx
        refine ⟨_, rfl, by omega, by omega, for_range (lo := 0) (n := (3 : Int).toNat)
          (fun t σ H3 => ∃ y2 y3 y4 y5 : Option V, σ = [some (.ref a), some (.ref b), y2, y3, y4, y5, none] ∧ H3 D = some (.lst (refs ds)) ∧ Draw H3 b (512 * t) ∧ ∀ j q, i + 1 ≤ j → ds[j]? = some q → Draw H3 q.1 0) ?_ ?_ ?_⟩
        · exact ⟨_, _, _, _, rfl, hD2, hdr i _ (Nat.le_refl _) hq, fun j q hj h => hdr j q (by omega) h⟩
        · rintro t σ H3 ht ⟨y2, y3, y4, y5, rfl, hD3, hb, hdr3⟩
          have ht3 : t < 3 := ht
          have fin : ∀ H5, SameX b H3 H5 → Draw H5 b (512 * t + 512) → H5 D = some (.lst (refs ds)) ∧ Draw H5 b (512 * (t + 1)) ∧ ∀ j q, i + 1 ≤ j → ds[j]? = some q → Draw H5 q.1 0 := fun H5 sx dr =>
            ⟨sx _ _ (neD _ (List.mem_of_getElem? hq)) hD3, by rwa [show 512 * (t + 1) = 512 * t + 512 from by omega], fun j q hj h => sx.draw (neI i j _ _ hq h (by omega)) (hdr3 j q hj h)⟩
          refine ⟨_, rfl, b, _, rfl, hb, by omega, fun n0 k0 b0 r i1 i2 i3 i4 => .inl ⟨_, rfl, _, _, rfl, rfl, (by show (0 : Int) < 16; omega), _, _, rfl, rfl, ?_⟩⟩
          have e0 : 0 ≤ r % 16 := Int.emod_nonneg _ (by omega)
          have e1 : r % 16 < 16 := Int.emod_lt_of_pos _ (by omega)
          obtain ⟨n, hn⟩ : ∃ n : Nat, (n : Int) = 1 + r % 16 := ⟨(1 + r % 16).toNat, by omega⟩
          have l1 := hb.dloc.next (b := b0) i1 i2 i3
          have en : V.int (1 + r % 16) = .int n := by rw [hn]
          have l1d := l1.draw
          refine ⟨_, rfl, _, rfl, b, _, n, congrArg (fun v => [V.ref b, v]) en, l1d, by omega, by omega, fun H5 tl p hp l5 => ?_⟩
          have l5d := l5.draw
          have tne : tl ≠ b := l5.ne1 l1d
          have htl : H5 tl = some (.lst (iv (arrL n p))) := l5.atIx (i := 0) rfl
          have sx1 : SameX b H3 _ := l1.sameX
          have sx2 := sx1.trans l5.sameX
          refine ⟨_, rfl, b, _, rfl, l5d, by omega, fun n1 k1 b1 r1 j1 j2 j3 j4 => .inl ⟨_, rfl, _, _, rfl, rfl, (by show (0 : Int) < 2; omega), ?_⟩⟩
          have l6 := l5d.dloc.next (b := b1) j1 j2 j3
          have sx6 : SameX b H5 _ := l6.sameX
          have l6d := l6.draw
          have pre : ∃ c : Nat, c ≤ 512 * t + 40 ∧ Draw (upd H5 b (drawO n1 k1 b1)) b c := ⟨_, by omega, l6d⟩
          clear l6 l5 l1 l5d l1d
          generalize upd H5 b (drawO n1 k1 b1) = H6 at sx6 l6d pre ⊢
          refine ⟨rfl, _, rfl, ite2 (fun hz => ?_) (fun hz => ?_)⟩
          · have hr2 : PermF n p := hp
            have ho2 : IsInts K H6 tl (arrL n p) := SqL.of (sx6 _ _ tne htl)
            have htl7 : H6 tl = some (.lst (iv (arrL n p))) := sx6 _ _ tne htl
            have dr7 : ∃ c : Nat, c ≤ 512 * t + 80 ∧ Draw H6 b c := by
              obtain ⟨c, hc, hd⟩ := pre
              exact ⟨c, by omega, hd⟩
            have sx7 := sx6
            clear sx6 pre l6d htl
            refine ⟨_, rfl, ?_⟩
            obtain ⟨c7, hc7, dr7⟩ := dr7
            refine ⟨_, rfl, _, rfl, tl, _, n, n, p, _, rfl, by omega, by omega, hp, by omega, by omega, hr2, SqL.of htl7, ho2, fun H8 s8 => ⟨_, rfl, ?_⟩⟩
            refine iteFF rfl ⟨_, rfl, Nat.le_of_lt (sl_line' (by show 1 < 100000; omega)), fun eA heA => ⟨tl, eA, n, 1, p, at1 [1], rfl, by omega, by omega, hp, by decide, by decide, (arr_of (n := 1) (ns := [1]) (by decide)).1, SqL.of ((sA heA) _ _ (s8 _ _ htl7)), SqL.of upd_same, fun H9 s9 => ⟨_, rfl, ?_⟩⟩⟩
            have sN := s8.trans ((sA (o := .lst [.int 1]) heA).trans s9)
            refine iteFF rfl ⟨_, rfl, _, rfl, b, tl, c7, n, p, rfl, Draw.grow sN dr7, by omega, by omega, by omega, hp, sN _ _ htl7, tne, fun H10 sx10 dr10 => ⟨_, rfl, ?_⟩⟩
            obtain ⟨f1, f2, f3⟩ := fin H10 (sx2.trans ((SameX.more sx7 sN).trans sx10)) (dr10.mono (by omega))
            exact iteFF rfl ⟨_, _, _, _, rfl, f1, f2, f3⟩
          · refine ⟨_, rfl, _, rfl, b, _, n, congrArg (fun v => [V.ref b, v]) en, l6d, by omega, by omega, fun H7 ot r2 hr2 l7 => ?_⟩
            have ho2 : IsInts K H7 ot (arrL n r2) := SqL.of (l7.atIx (i := 0) rfl)
            have dr7 : ∃ c : Nat, c ≤ 512 * t + 80 ∧ Draw H7 b c := ⟨_, by omega, l7.draw⟩
            have sx7 : SameX b H5 H7 := sx6.trans l7.sameX
            have htl7 : H7 tl = some (.lst (iv (arrL n p))) := sx7 _ _ tne htl
            clear l7 sx6 pre l6d htl
            obtain ⟨c7, hc7, dr7⟩ := dr7
            refine ⟨_, rfl, _, rfl, tl, _, n, n, p, _, rfl, by omega, by omega, hp, by omega, by omega, hr2, SqL.of htl7, ho2, fun H8 s8 => ⟨_, rfl, ?_⟩⟩
            refine iteFF rfl ⟨_, rfl, Nat.le_of_lt (sl_line' (by show 1 < 100000; omega)), fun eA heA => ⟨tl, eA, n, 1, p, at1 [1], rfl, by omega, by omega, hp, by decide, by decide, (arr_of (n := 1) (ns := [1]) (by decide)).1, SqL.of ((sA heA) _ _ (s8 _ _ htl7)), SqL.of upd_same, fun H9 s9 => ⟨_, rfl, ?_⟩⟩⟩
            have sN := s8.trans ((sA (o := .lst [.int 1]) heA).trans s9)
            refine iteFF rfl ⟨_, rfl, _, rfl, b, tl, c7, n, p, rfl, Draw.grow sN dr7, by omega, by omega, by omega, hp, sN _ _ htl7, tne, fun H10 sx10 dr10 => ⟨_, rfl, ?_⟩⟩
            obtain ⟨f1, f2, f3⟩ := fin H10 (sx2.trans ((SameX.more sx7 sN).trans sx10)) (dr10.mono (by omega))
            exact iteFF rfl ⟨_, _, _, _, rfl, f1, f2, f3⟩
        · rintro σ H3 ⟨y2, y3, y4, y5, rfl, hD3, hb, hdr3⟩
          exact ⟨_, _, _, _, _, rfl, hD3, hdr3⟩
      · rintro σ H2 ⟨y1, y2, y3, y4, y5, rfl, hD2, hdr⟩
        clear hdr hD2 neI neD start fst
        have q4 := arr_of (n := 4) (ns := [2, 3, 1, 4]) (by decide)
        have q1 := arr_of (n := 1) (ns := [1]) (by decide)
        refine ⟨Nat.le_of_lt (sl_line' (by show 4 < 100000; omega)), fun eA heA => ?_⟩
        dsimp only [tNil]
        refine mk_ok (n := 4) (p := at1 [2, 3, 1, 4]) (by decide) (by decide) q4.1 (by rw [← q4.2]; exact SqL.of upd_same) fun H3 o dx t l => ?_
        have ro : roundsF 4 (at1 [2, 3, 1, 4]) = [[1, 2, 3], [4]] := by decide +kernel
        refine ⟨o, dx, told t, rfl, l.atIx (i := 0) rfl, o, 4, _, rfl, by decide, q4.1, ⟨dx, t, l.atIx (i := 0) rfl, l.atIx (i := 2) rfl⟩, fun H4 d rs er l4 => ?_⟩
        rw [ro] at er
        refine ⟨Nat.le_of_lt (sl_line' (by show 3 < 100000; omega)), fun g1 h1 => ⟨Nat.le_of_lt (sl_line' (by show 1 < 100000; omega)), fun g2 h2 => ⟨sl2, fun g3 h3 => ?_⟩⟩⟩
        have sg := (sA (o := .lst [.int 1, .int 2, .int 3]) h1).trans ((sA (o := .lst [.int 4]) h2).trans (sA (o := .lst [.ref g1, .ref g2]) h3))
        have l5 := (((l4.alloc (o := .lst [.int 1, .int 2, .int 3]) h1).alloc (o := .lst [.int 4]) h2).alloc (o := .lst [.ref g1, .ref g2]) h3)
        have dA := IsRows.dp (l4.isRows (K := K) |>.grow sg)
        rw [er] at dA
        have dB : Dp K _ (.ref g3) (dR [[1, 2, 3], [4]]) := IsRows.dp ⟨[(g1, [1, 2, 3]), (g2, [4])], rfl, SqL.of (l5.atIx (i := 0) rfl), fun x hx => by
          rcases List.mem_cons.mp hx with rfl | hx
          · exact SqL.of (l5.atIx (i := 2) rfl)
          · cases List.mem_singleton.mp hx
            exact SqL.of (l5.atIx (i := 1) rfl)⟩
        refine ⟨_, _, dA, dB, shaped_dR _, shaped_dR _, ?_⟩
        rw [eqv_dR, decide_eq_true rfl]
        refine ⟨_, rfl, iteT ?_⟩
        refine ⟨Nat.le_of_lt (sl_line' (by show 1 < 100000; omega)), fun eB heB => ?_⟩
        dsimp only [tNil]
        refine mk_ok (n := 1) (p := at1 [1]) (by decide) (by decide) q1.1 (by rw [← q1.2]; exact SqL.of upd_same) fun H6 o2 dx2 t2 l6 => ?_
        refine ⟨o2, dx2, told t2, rfl, l6.atIx (i := 0) rfl, o2, 1, _, rfl, by decide, q1.1, ⟨dx2, t2, l6.atIx (i := 0) rfl, l6.atIx (i := 2) rfl⟩, fun H7 s7 => ⟨rfl, ?_⟩⟩
        show Q (.bl (decide _)) _
        have rl : roundsF 1 (at1 [1]) = [[1]] := by decide +kernel
        rw [rl, decide_eq_true (by rfl)]
        exact q _
end

theorem all_mk {l : PySem.W.OpenLaw} {w : World} {K : PySem.W.Frag} {h : Heap} {mg : Str → Option Value} {fa : Addr} (X : K.In h) (G : h.Ns mainGlobals mg) (hfa : mg "law" = some (.ref fa))
    {C : Addr}
    (aC : PySem.W.nsIn K mainGlobals "Arrangement" = some (some (.ref C)))
    (pgC : PySem.W.plainGet K C Str.empty = true)
    (hdC : PySem.W.hasDictIn K C = true)
    (poC : PySem.W.plainOver K C = true)
    (saC : PySem.W.findIn K (.ref C) "__setattr__" = some (some (.builtin "object.__setattr__")))
    (nTC : PySem.W.findIn K (.ref C) "told" = some none)
    (sfC : PySem.W.selfFirst K C = true)
    (caC : PySem.W.findIn K (.ref C) "__class__" = some (some (.builtin "object.__class__")))
    (cnC : PySem.W.specialIn K (.builtin "object.__class__") "__get__" = some (some (.builtin "getset_descriptor.__get__")))
    (ctC : PySem.W.takesIn K (.builtin "object.__class__") = some true)
    (cmC : PySem.W.mroIn K C (.type "object") = some true)
    (mkC : PySem.W.makesIn K C = true)
    (kpC : PySem.W.keepIn K (.ref C) = true)
    (hx_cls : PySem.W.isClsIn K C = true)
    (hx_ty : PySem.W.typeIn K (.ref C) = some (.type "type"))
    (hx_non : PySem.W.subIn K (.type "NoneType") (.ref C) = some false)
    (hx_list : PySem.W.subIn K (.type "list") (.ref C) = some false)
    (hx_int : PySem.W.subIn K (.type "int") (.ref C) = some false)
    (hx_str : PySem.W.subIn K (.type "str") (.ref C) = some false)
    (hx_tuple : PySem.W.subIn K (.type "tuple") (.ref C) = some false)
    {oc1 kV1 dc1 pm1 cd1 ct1 : Value} {od1 an1 : Option Addr} {sl1 : Array (Option Value)} {f1 : Addr}
    (a1 : PySem.W.nsIn K mainGlobals "is_whole" = some (some (.ref f1)))
    (l1 : K.lookup f1 = some ⟨oc1, od1, .func (PySem.W.fnOf "is_whole" "is_whole" (defArgs s_is_whole) (defBody s_is_whole) (defScope s_is_whole) .none kV1 dc1 pm1 an1 cd1 ct1), sl1⟩)
    (c1 : PySem.W.codeIn K cd1 "is_whole" = true)
    (k1 : PySem.W.keepIn K (.ref f1) = true)
    {oc2 kV2 dc2 pm2 cd2 ct2 : Value} {od2 an2 : Option Addr} {sl2 : Array (Option Value)} {f2 : Addr}
    (a2 : PySem.W.nsIn K mainGlobals "rounds_of" = some (some (.ref f2)))
    (l2 : K.lookup f2 = some ⟨oc2, od2, .func (PySem.W.fnOf "rounds_of" "rounds_of" (defArgs s_rounds_of) (defBody s_rounds_of) (defScope s_rounds_of) .none kV2 dc2 pm2 an2 cd2 ct2), sl2⟩)
    (c2 : PySem.W.codeIn K cd2 "rounds_of" = true)
    (k2 : PySem.W.keepIn K (.ref f2) = true)
    {oc3 kV3 dc3 pm3 cd3 ct3 : Value} {od3 an3 : Option Addr} {sl3 : Array (Option Value)} {f3 : Addr}
    (a3 : PySem.W.nsIn K mainGlobals "turned_back" = some (some (.ref f3)))
    (l3 : K.lookup f3 = some ⟨oc3, od3, .func (PySem.W.fnOf "turned_back" "turned_back" (defArgs s_turned_back) (defBody s_turned_back) (defScope s_turned_back) .none kV3 dc3 pm3 an3 cd3 ct3), sl3⟩)
    (c3 : PySem.W.codeIn K cd3 "turned_back" = true)
    (k3 : PySem.W.keepIn K (.ref f3) = true)
    {oc4 kV4 dc4 pm4 cd4 ct4 : Value} {od4 an4 : Option Addr} {sl4 : Array (Option Value)} {f4 : Addr}
    (a4 : PySem.W.findIn K (.ref C) "__eq__" = some (some (.ref f4)))
    (b4 : PySem.W.isFn K (.ref f4) = true)
    (d4 : PySem.W.fnIn K f4 = true)
    (l4 : K.lookup f4 = some ⟨oc4, od4, .func (PySem.W.fnOf "__eq__" "Arrangement.__eq__" (defArgs s_Arrangement___eq__) (defBody s_Arrangement___eq__) (defScope s_Arrangement___eq__) .none kV4 dc4 pm4 an4 cd4 ct4), sl4⟩)
    (c4 : PySem.W.codeIn K cd4 "Arrangement.__eq__" = true)
    (k4 : PySem.W.keepIn K (.ref f4) = true)
    {oc5 kV5 dc5 pm5 cd5 ct5 : Value} {od5 an5 : Option Addr} {sl5 : Array (Option Value)} {f5 : Addr}
    (a5 : PySem.W.findIn K (.ref C) "__len__" = some (some (.ref f5)))
    (b5 : PySem.W.isFn K (.ref f5) = true)
    (d5 : PySem.W.fnIn K f5 = true)
    (l5 : K.lookup f5 = some ⟨oc5, od5, .func (PySem.W.fnOf "__len__" "Arrangement.__len__" (defArgs s_Arrangement___len__) (defBody s_Arrangement___len__) (defScope s_Arrangement___len__) .none kV5 dc5 pm5 an5 cd5 ct5), sl5⟩)
    (c5 : PySem.W.codeIn K cd5 "Arrangement.__len__" = true)
    (k5 : PySem.W.keepIn K (.ref f5) = true)
    {oc6 kV6 dc6 pm6 cd6 ct6 : Value} {od6 an6 : Option Addr} {sl6 : Array (Option Value)} {f6 : Addr}
    {q6 : Addr} {r6 : List Value}
    (a6 : PySem.W.findIn K (.ref C) "ends" = some (some (.ref q6)))
    (b6 : PySem.W.specialIn K (.ref q6) "__get__" = some (some (.builtin "property.__get__")))
    (d6 : PySem.W.takesIn K (.ref q6) = some true)
    (e6 : PySem.W.recIn K q6 "property" = some (.ref f6 :: r6))
    (l6 : K.lookup f6 = some ⟨oc6, od6, .func (PySem.W.fnOf "ends" "Arrangement.ends" (defArgs s_Arrangement_ends) (defBody s_Arrangement_ends) (defScope s_Arrangement_ends) .none kV6 dc6 pm6 an6 cd6 ct6), sl6⟩)
    (c6 : PySem.W.codeIn K cd6 "Arrangement.ends" = true)
    (k6 : PySem.W.keepIn K (.ref f6) = true)
    {oc7 kV7 dc7 pm7 cd7 ct7 : Value} {od7 an7 : Option Addr} {sl7 : Array (Option Value)} {f7 : Addr}
    (a7 : PySem.W.nsIn K mainGlobals "_law_draws" = some (some (.ref f7)))
    (l7 : K.lookup f7 = some ⟨oc7, od7, .func (PySem.W.fnOf "_law_draws" "_law_draws" (defArgs s__law_draws) (defBody s__law_draws) (defScope s__law_draws) .none kV7 dc7 pm7 an7 cd7 ct7), sl7⟩)
    (c7 : PySem.W.codeIn K cd7 "_law_draws" = true)
    (k7 : PySem.W.keepIn K (.ref f7) = true)
    {oc8 kV8 dc8 pm8 cd8 ct8 : Value} {od8 an8 : Option Addr} {sl8 : Array (Option Value)} {f8 : Addr}
    (a8 : PySem.W.nsIn K mainGlobals "_law_next" = some (some (.ref f8)))
    (l8 : K.lookup f8 = some ⟨oc8, od8, .func (PySem.W.fnOf "_law_next" "_law_next" (defArgs s__law_next) (defBody s__law_next) (defScope s__law_next) .none kV8 dc8 pm8 an8 cd8 ct8), sl8⟩)
    (c8 : PySem.W.codeIn K cd8 "_law_next" = true)
    (k8 : PySem.W.keepIn K (.ref f8) = true)
    {oc9 kV9 dc9 pm9 cd9 ct9 : Value} {od9 an9 : Option Addr} {sl9 : Array (Option Value)} {f9 : Addr}
    (a9 : PySem.W.nsIn K mainGlobals "_law_rounds" = some (some (.ref f9)))
    (l9 : K.lookup f9 = some ⟨oc9, od9, .func (PySem.W.fnOf "_law_rounds" "_law_rounds" (defArgs s__law_rounds) (defBody s__law_rounds) (defScope s__law_rounds) .none kV9 dc9 pm9 an9 cd9 ct9), sl9⟩)
    (c9 : PySem.W.codeIn K cd9 "_law_rounds" = true)
    (k9 : PySem.W.keepIn K (.ref f9) = true)
    {oc10 kV10 dc10 pm10 cd10 ct10 : Value} {od10 an10 : Option Addr} {sl10 : Array (Option Value)} {f10 : Addr}
    (a10 : PySem.W.nsIn K mainGlobals "check_cell" = some (some (.ref f10)))
    (l10 : K.lookup f10 = some ⟨oc10, od10, .func (PySem.W.fnOf "check_cell" "check_cell" (defArgs s_check_cell) (defBody s_check_cell) (defScope s_check_cell) .none kV10 dc10 pm10 an10 cd10 ct10), sl10⟩)
    (c10 : PySem.W.codeIn K cd10 "check_cell" = true)
    (k10 : PySem.W.keepIn K (.ref f10) = true)
    {oc11 kV11 dc11 pm11 cd11 ct11 : Value} {od11 an11 : Option Addr} {sl11 : Array (Option Value)} {f11 : Addr}
    (a11 : PySem.W.nsIn K mainGlobals "check_ends" = some (some (.ref f11)))
    (l11 : K.lookup f11 = some ⟨oc11, od11, .func (PySem.W.fnOf "check_ends" "check_ends" (defArgs s_check_ends) (defBody s_check_ends) (defScope s_check_ends) .none kV11 dc11 pm11 an11 cd11 ct11), sl11⟩)
    (c11 : PySem.W.codeIn K cd11 "check_ends" = true)
    (k11 : PySem.W.keepIn K (.ref f11) = true)
    {oc12 kV12 dc12 pm12 cd12 ct12 : Value} {od12 an12 : Option Addr} {sl12 : Array (Option Value)} {f12 : Addr}
    (a12 : PySem.W.findIn K (.ref C) "__abs__" = some (some (.ref f12)))
    (b12 : PySem.W.isFn K (.ref f12) = true)
    (d12 : PySem.W.fnIn K f12 = true)
    (l12 : K.lookup f12 = some ⟨oc12, od12, .func (PySem.W.fnOf "__abs__" "Arrangement.__abs__" (defArgs s_Arrangement___abs__) (defBody s_Arrangement___abs__) (defScope s_Arrangement___abs__) .none kV12 dc12 pm12 an12 cd12 ct12), sl12⟩)
    (c12 : PySem.W.codeIn K cd12 "Arrangement.__abs__" = true)
    (k12 : PySem.W.keepIn K (.ref f12) = true)
    {oc13 kV13 dc13 pm13 cd13 ct13 : Value} {od13 an13 : Option Addr} {sl13 : Array (Option Value)} {f13 : Addr}
    (a13 : PySem.W.findIn K (.ref C) "__call__" = some (some (.ref f13)))
    (b13 : PySem.W.isFn K (.ref f13) = true)
    (d13 : PySem.W.fnIn K f13 = true)
    (l13 : K.lookup f13 = some ⟨oc13, od13, .func (PySem.W.fnOf "__call__" "Arrangement.__call__" (defArgs s_Arrangement___call__) (defBody s_Arrangement___call__) (defScope s_Arrangement___call__) .none kV13 dc13 pm13 an13 cd13 ct13), sl13⟩)
    (c13 : PySem.W.codeIn K cd13 "Arrangement.__call__" = true)
    (k13 : PySem.W.keepIn K (.ref f13) = true)
    {oc14 kV14 dc14 pm14 cd14 ct14 : Value} {od14 an14 : Option Addr} {sl14 : Array (Option Value)} {f14 : Addr}
    {q14 : Addr} {r14 : List Value}
    (a14 : PySem.W.findIn K (.ref C) "rounds" = some (some (.ref q14)))
    (b14 : PySem.W.specialIn K (.ref q14) "__get__" = some (some (.builtin "property.__get__")))
    (d14 : PySem.W.takesIn K (.ref q14) = some true)
    (e14 : PySem.W.recIn K q14 "property" = some (.ref f14 :: r14))
    (l14 : K.lookup f14 = some ⟨oc14, od14, .func (PySem.W.fnOf "rounds" "Arrangement.rounds" (defArgs s_Arrangement_rounds) (defBody s_Arrangement_rounds) (defScope s_Arrangement_rounds) .none kV14 dc14 pm14 an14 cd14 ct14), sl14⟩)
    (c14 : PySem.W.codeIn K cd14 "Arrangement.rounds" = true)
    (k14 : PySem.W.keepIn K (.ref f14) = true)
    {oc15 kV15 dc15 pm15 cd15 ct15 : Value} {od15 an15 : Option Addr} {sl15 : Array (Option Value)} {f15 : Addr}
    (a15 : PySem.W.nsIn K mainGlobals "_law_shuffled" = some (some (.ref f15)))
    (l15 : K.lookup f15 = some ⟨oc15, od15, .func (PySem.W.fnOf "_law_shuffled" "_law_shuffled" (defArgs s__law_shuffled) (defBody s__law_shuffled) (defScope s__law_shuffled) .none kV15 dc15 pm15 an15 cd15 ct15), sl15⟩)
    (c15 : PySem.W.codeIn K cd15 "_law_shuffled" = true)
    (k15 : PySem.W.keepIn K (.ref f15) = true)
    {oc16 kV16 dc16 pm16 cd16 ct16 : Value} {od16 an16 : Option Addr} {sl16 : Array (Option Value)} {f16 : Addr}
    (a16 : PySem.W.findIn K (.ref C) "__getitem__" = some (some (.ref f16)))
    (b16 : PySem.W.isFn K (.ref f16) = true)
    (d16 : PySem.W.fnIn K f16 = true)
    (l16 : K.lookup f16 = some ⟨oc16, od16, .func (PySem.W.fnOf "__getitem__" "Arrangement.__getitem__" (defArgs s_Arrangement___getitem__) (defBody s_Arrangement___getitem__) (defScope s_Arrangement___getitem__) .none kV16 dc16 pm16 an16 cd16 ct16), sl16⟩)
    (c16 : PySem.W.codeIn K cd16 "Arrangement.__getitem__" = true)
    (k16 : PySem.W.keepIn K (.ref f16) = true)
    {oc17 kV17 dc17 pm17 cd17 ct17 : Value} {od17 an17 : Option Addr} {sl17 : Array (Option Value)} {f17 : Addr}
    (a17 : PySem.W.findIn K (.ref C) "__init__" = some (some (.ref f17)))
    (b17 : PySem.W.isFn K (.ref f17) = true)
    (d17 : PySem.W.fnIn K f17 = true)
    (l17 : K.lookup f17 = some ⟨oc17, od17, .func (PySem.W.fnOf "__init__" "Arrangement.__init__" (defArgs s_Arrangement___init__) (defBody s_Arrangement___init__) (defScope s_Arrangement___init__) .none kV17 dc17 pm17 an17 cd17 ct17), sl17⟩)
    (c17 : PySem.W.codeIn K cd17 "Arrangement.__init__" = true)
    (k17 : PySem.W.keepIn K (.ref f17) = true)
    {oc18 kV18 dc18 pm18 cd18 ct18 : Value} {od18 an18 : Option Addr} {sl18 : Array (Option Value)} {f18 : Addr}
    (a18 : PySem.W.nsIn K mainGlobals "_law_right" = some (some (.ref f18)))
    (l18 : K.lookup f18 = some ⟨oc18, od18, .func (PySem.W.fnOf "_law_right" "_law_right" (defArgs s__law_right) (defBody s__law_right) (defScope s__law_right) .none kV18 dc18 pm18 an18 cd18 ct18), sl18⟩)
    (c18 : PySem.W.codeIn K cd18 "_law_right" = true)
    (k18 : PySem.W.keepIn K (.ref f18) = true)
    {oc19 kV19 dc19 pm19 cd19 ct19 : Value} {od19 an19 : Option Addr} {sl19 : Array (Option Value)} {f19 : Addr}
    (a19 : PySem.W.nsIn K mainGlobals "_law_call_right" = some (some (.ref f19)))
    (l19 : K.lookup f19 = some ⟨oc19, od19, .func (PySem.W.fnOf "_law_call_right" "_law_call_right" (defArgs s__law_call_right) (defBody s__law_call_right) (defScope s__law_call_right) .none kV19 dc19 pm19 an19 cd19 ct19), sl19⟩)
    (c19 : PySem.W.codeIn K cd19 "_law_call_right" = true)
    (k19 : PySem.W.keepIn K (.ref f19) = true)
    {oc20 kV20 dc20 pm20 cd20 ct20 : Value} {od20 an20 : Option Addr} {sl20 : Array (Option Value)} {f20 : Addr}
    (a20 : PySem.W.nsIn K mainGlobals "law" = some (some (.ref f20)))
    (l20 : K.lookup f20 = some ⟨oc20, od20, .func (PySem.W.fnOf "law" "law" (defArgs s_law) (defBody s_law) (defScope s_law) .none kV20 dc20 pm20 an20 cd20 ct20), sl20⟩)
    (c20 : PySem.W.codeIn K cd20 "law" = true)
    (k20 : PySem.W.keepIn K (.ref f20) = true)
    (z_abs : PySem.W.nsIn K mainGlobals "abs" = some none)
    (z_bool : PySem.W.nsIn K mainGlobals "bool" = some none)
    (z_enumerate : PySem.W.nsIn K mainGlobals "enumerate" = some none)
    (z_int : PySem.W.nsIn K mainGlobals "int" = some none)
    (z_isinstance : PySem.W.nsIn K mainGlobals "isinstance" = some none)
    (z_len : PySem.W.nsIn K mainGlobals "len" = some none)
    (z_list : PySem.W.nsIn K mainGlobals "list" = some none)
    (z_min : PySem.W.nsIn K mainGlobals "min" = some none)
    (z_range : PySem.W.nsIn K mainGlobals "range" = some none)
    (z_repr : PySem.W.nsIn K mainGlobals "repr" = some none)
    {tg_MOST_CELLS : Nat}
    (g_MOST_CELLS : PySem.W.nsIn K mainGlobals "MOST_CELLS" = some (some (.int 16 tg_MOST_CELLS)))
    : ∃ fd : FuncData, (∀ (s : Shared) (u : Value), BindsTo s fd ⟨[u], []⟩ [("_law_script", u)]) ∧ ∀ base : Heap, K.In base → base.Ns mainGlobals mg → FG l.prog w K mg base CX0 6 fa fd ["_law_script"] (sp_law K) := by
  have e := hfa.symm.trans (PySem.W.mg_of X G a20)
  cases e
  have F1 := fun_mk (st := s_is_whole) l1 c1 k1
  have F2 := fun_mk (st := s_rounds_of) l2 c2 k2
  have F3 := fun_mk (st := s_turned_back) l3 c3 k3
  have F4 := fun_mk (st := s_Arrangement___eq__) l4 c4 k4
  have F5 := fun_mk (st := s_Arrangement___len__) l5 c5 k5
  have F6 := fun_mk (st := s_Arrangement_ends) l6 c6 k6
  have F7 := fun_mk (st := s__law_draws) l7 c7 k7
  have F8 := fun_mk (st := s__law_next) l8 c8 k8
  have F9 := fun_mk (st := s__law_rounds) l9 c9 k9
  have F10 := fun_mk (st := s_check_cell) l10 c10 k10
  have F11 := fun_mk (st := s_check_ends) l11 c11 k11
  have F12 := fun_mk (st := s_Arrangement___abs__) l12 c12 k12
  have F13 := fun_mk (st := s_Arrangement___call__) l13 c13 k13
  have F14 := fun_mk (st := s_Arrangement_rounds) l14 c14 k14
  have F15 := fun_mk (st := s__law_shuffled) l15 c15 k15
  have F16 := fun_mk (st := s_Arrangement___getitem__) l16 c16 k16
  have F17 := fun_mk (st := s_Arrangement___init__) l17 c17 k17
  have F18 := fun_mk (st := s__law_right) l18 c18 k18
  have F19 := fun_mk (st := s__law_call_right) l19 c19 k19
  have F20 := fun_mk (st := s_law) l20 c20 k20
  have z_abs' := PySem.W.mg_none_of X G z_abs
  have z_bool' := PySem.W.mg_none_of X G z_bool
  have z_enumerate' := PySem.W.mg_none_of X G z_enumerate
  have z_int' := PySem.W.mg_none_of X G z_int
  have z_isinstance' := PySem.W.mg_none_of X G z_isinstance
  have z_len' := PySem.W.mg_none_of X G z_len
  have z_list' := PySem.W.mg_none_of X G z_list
  have z_min' := PySem.W.mg_none_of X G z_min
  have z_range' := PySem.W.mg_none_of X G z_range
  have z_repr' := PySem.W.mg_none_of X G z_repr
  have g_MOST_CELLS' := PySem.W.mg_of X G g_MOST_CELLS
  have TC : ArrC K mg C := ⟨⟨pgC, hdC, poC, saC⟩, nTC, PySem.W.mg_of X G aC, sfC, caC, cnC, ctC, cmC⟩
  refine ⟨PySem.W.fnOf "law" "law" (defArgs s_law) (defBody s_law) (defScope s_law) .none kV20 dc20 pm20 an20 cd20 ct20, fun s v => .of_eq rfl, fun base _ _ => ?_⟩
  have C1 : CalG l.prog w K mg base 1 "is_whole" s_is_whole ["thing"] (sp_is_whole K) := ⟨⟨f1, _, ok_is_whole (P := l.prog) (w := w) (K := K) (mg := mg) (base := base) (k := 0) (F := F1) (z_int := z_int') (z_isinstance := z_isinstance') (z_bool := z_bool'), PySem.W.mg_of X G a1, F1⟩, fun _ _ _ _ _ _ us hl => match us, hl with | [_], _ => rfl⟩
  have C2 : CalG l.prog w K mg base 1 "rounds_of" s_rounds_of ["ends"] (sp_rounds_of K) := ⟨⟨f2, _, ok_rounds_of (P := l.prog) (w := w) (K := K) (mg := mg) (base := base) (k := 0) (F := F2) (z_len := z_len') (z_range := z_range') (z_min := z_min'), PySem.W.mg_of X G a2, F2⟩, fun _ _ _ _ _ _ us hl => match us, hl with | [_], _ => rfl⟩
  have C3 : CalG l.prog w K mg base 1 "turned_back" s_turned_back ["row"] (sp_turned_back K) := ⟨⟨f3, _, ok_turned_back (P := l.prog) (w := w) (K := K) (mg := mg) (base := base) (k := 0) (F := F3) (z_enumerate := z_enumerate'), PySem.W.mg_of X G a3, F3⟩, fun _ _ _ _ _ _ us hl => match us, hl with | [_], _ => rfl⟩
  have G4 : FnG l.prog w K mg base 1 f4 ["self", "other"] (sp_Arrangement___eq__ K C) := ⟨⟨_, ok_Arrangement___eq__ (P := l.prog) (w := w) (K := K) (mg := mg) (base := base) (k := 0) (F := F4) (TC := TC) (z_isinstance := z_isinstance') (hkit := by unfold PySem.W.kitOne; simp), fun s us hl => BindsTo.of_eq (match us, hl with | [_, _], _ => rfl)⟩⟩
  have G5 : FnG l.prog w K mg base 1 f5 ["self"] (sp_Arrangement___len__ C) := ⟨⟨_, ok_Arrangement___len__ (P := l.prog) (w := w) (K := K) (mg := mg) (base := base) (k := 0) (F := F5) (TC := TC) (z_len := z_len'), fun s us hl => BindsTo.of_eq (match us, hl with | [_], _ => rfl)⟩⟩
  have G6 : FnG l.prog w K mg base 1 f6 ["self"] (sp_Arrangement_ends C) := ⟨⟨_, ok_Arrangement_ends (P := l.prog) (w := w) (K := K) (mg := mg) (base := base) (k := 0) (F := F6) (TC := TC) (z_list := z_list'), fun s us hl => BindsTo.of_eq (match us, hl with | [_], _ => rfl)⟩⟩
  have C7 : CalG l.prog w K mg base 1 "_law_draws" s__law_draws ["_law_cell"] sp__law_draws := ⟨⟨f7, _, ok__law_draws (P := l.prog) (w := w) (K := K) (mg := mg) (base := base) (k := 0) (F := F7) (z_int := z_int'), PySem.W.mg_of X G a7, F7⟩, fun _ _ _ _ _ _ us hl => match us, hl with | [_], _ => rfl⟩
  have C8 : CalG l.prog w K mg base 1 "_law_next" s__law_next ["_law_draws_here"] sp__law_next := ⟨⟨f8, _, ok__law_next (P := l.prog) (w := w) (K := K) (mg := mg) (base := base) (k := 0) (F := F8) (z_int := z_int'), PySem.W.mg_of X G a8, F8⟩, fun _ _ _ _ _ _ us hl => match us, hl with | [_], _ => rfl⟩
  have C9 : CalG l.prog w K mg base 1 "_law_rounds" s__law_rounds ["_law_told"] (sp__law_rounds K) := ⟨⟨f9, _, ok__law_rounds (P := l.prog) (w := w) (K := K) (mg := mg) (base := base) (k := 0) (F := F9) (z_len := z_len') (z_range := z_range') (z_min := z_min') (z_int := z_int'), PySem.W.mg_of X G a9, F9⟩, fun _ _ _ _ _ _ us hl => match us, hl with | [_], _ => rfl⟩
  have C10 : CalG l.prog w K mg base 2 "check_cell" s_check_cell ["cell", "cells"] sp_check_cell := ⟨⟨f10, _, ok_check_cell (P := l.prog) (w := w) (K := K) (mg := mg) (base := base) (k := 1) (F := F10) (c_is_whole := C1.mono (by decide)), PySem.W.mg_of X G a10, F10⟩, fun _ _ _ _ _ _ us hl => match us, hl with | [_, _], _ => rfl⟩
  have C11 : CalG l.prog w K mg base 2 "check_ends" s_check_ends ["cells", "ends"] (sp_check_ends K) := ⟨⟨f11, _, ok_check_ends (P := l.prog) (w := w) (K := K) (mg := mg) (base := base) (k := 1) (F := F11) (z_list := z_list') (z_isinstance := z_isinstance') (z_len := z_len') (z_enumerate := z_enumerate') (c_is_whole := C1.mono (by decide)), PySem.W.mg_of X G a11, F11⟩, fun _ _ _ _ _ _ us hl => match us, hl with | [_, _], _ => rfl⟩
  have G12 : FnG l.prog w K mg base 2 f12 ["self"] (sp_Arrangement___abs__ C) := ⟨⟨_, ok_Arrangement___abs__ (P := l.prog) (w := w) (K := K) (mg := mg) (base := base) (k := 1) (F := F12) (TC := TC) (z_len := z_len') (c_rounds_of := C2.mono (by decide)), fun s us hl => BindsTo.of_eq (match us, hl with | [_], _ => rfl)⟩⟩
  have G13 : FnG l.prog w K mg base 2 f13 ["self", "values"] (sp_Arrangement___call__ K C) := ⟨⟨_, ok_Arrangement___call__ (P := l.prog) (w := w) (K := K) (mg := mg) (base := base) (k := 1) (F := F13) (TC := TC) (z_list := z_list') (z_isinstance := z_isinstance') (z_len := z_len') (c_turned_back := C3.mono (by decide)), fun s us hl => BindsTo.of_eq (match us, hl with | [_, _], _ => rfl)⟩⟩
  have GK13 : FnGK l.prog w K mg base 2 f13 ["self", "values"] 1 ["values"] turn1 turn1 (sp_Arrangement___call__ K C) := ⟨⟨_, ok_Arrangement___call__ (P := l.prog) (w := w) (K := K) (mg := mg) (base := base) (k := 1) (F := F13) (TC := TC) (z_list := z_list') (z_isinstance := z_isinstance') (z_len := z_len') (c_turned_back := C3.mono (by decide)), fun s us ws hl hk => BindsTo.of_eq (match us, ws, hl, hk with | [_], [_], _, _ => rfl)⟩, fun h => turn1_vals h⟩
  have G14 : FnG l.prog w K mg base 2 f14 ["self"] (sp_Arrangement_rounds C) := ⟨⟨_, ok_Arrangement_rounds (P := l.prog) (w := w) (K := K) (mg := mg) (base := base) (k := 1) (F := F14) (TC := TC) (c_rounds_of := C2.mono (by decide)), fun s us hl => BindsTo.of_eq (match us, hl with | [_], _ => rfl)⟩⟩
  have C15 : CalG l.prog w K mg base 2 "_law_shuffled" s__law_shuffled ["_law_draws_here", "_law_size"] sp__law_shuffled := ⟨⟨f15, _, ok__law_shuffled (P := l.prog) (w := w) (K := K) (mg := mg) (base := base) (k := 1) (F := F15) (z_list := z_list') (z_range := z_range') (z_int := z_int') (z_len := z_len') (c__law_next := C8.mono (by decide)), PySem.W.mg_of X G a15, F15⟩, fun _ _ _ _ _ _ us hl => match us, hl with | [_, _], _ => rfl⟩
  have G16 : FnG l.prog w K mg base 3 f16 ["self", "cell"] (sp_Arrangement___getitem__ C) := ⟨⟨_, ok_Arrangement___getitem__ (P := l.prog) (w := w) (K := K) (mg := mg) (base := base) (k := 2) (F := F16) (TC := TC) (z_len := z_len') (c_check_cell := C10.mono (by decide)), fun s us hl => BindsTo.of_eq (match us, hl with | [_, _], _ => rfl)⟩⟩
  have G17 : FnG l.prog w K mg base 3 f17 ["self", "ends"] (sp_Arrangement___init__ K C) := ⟨⟨_, ok_Arrangement___init__ (P := l.prog) (w := w) (K := K) (mg := mg) (base := base) (k := 2) (F := F17) (TC := TC) (z_list := z_list') (z_isinstance := z_isinstance') (z_len := z_len') (g_MOST_CELLS := ⟨_, g_MOST_CELLS'⟩) (c_check_ends := C11.mono (by decide)), fun s us hl => BindsTo.of_eq (match us, hl with | [_, _], _ => rfl)⟩⟩
  have GK17 : FnGK l.prog w K mg base 3 f17 ["self", "ends"] 1 ["ends"] turn1 turn1 (sp_Arrangement___init__ K C) := ⟨⟨_, ok_Arrangement___init__ (P := l.prog) (w := w) (K := K) (mg := mg) (base := base) (k := 2) (F := F17) (TC := TC) (z_list := z_list') (z_isinstance := z_isinstance') (z_len := z_len') (g_MOST_CELLS := ⟨_, g_MOST_CELLS'⟩) (c_check_ends := C11.mono (by decide)), fun s us ws hl hk => BindsTo.of_eq (match us, ws, hl, hk with | [_], [_], _, _ => rfl)⟩, fun h => turn1_vals h⟩
  have TI : ArrI l.prog w K mg base 3 C f17 := ⟨⟨mkC, a17, b17, kpC⟩, G17, PySem.W.mg_of X G aC⟩
  have TIK : ArrIK l.prog w K mg base 3 C f17 := ⟨⟨mkC, a17, b17, kpC⟩, G17, PySem.W.mg_of X G aC, GK17⟩
  have TA : ArrT l.prog w K mg base 3 C _ _ _ _ _ _ _ _ _ := {
    cl := TC.cl,
    sf := TC.sf,
    s___eq__ := ⟨a4, b4, d4⟩,
    f___eq__ := G4.mono (by decide),
    s___abs__ := ⟨a12, b12, d12⟩,
    f___abs__ := G12.mono (by decide),
    p_rounds := ⟨a14, b14, d14, ⟨_, e14⟩⟩,
    f_rounds := G14.mono (by decide),
    p_ends := ⟨a6, b6, d6, ⟨_, e6⟩⟩,
    f_ends := G6.mono (by decide),
    s___len__ := ⟨a5, b5, d5⟩,
    f___len__ := G5.mono (by decide),
    s___getitem__ := ⟨a16, b16, d16⟩,
    f___getitem__ := G16.mono (by decide),
    s___call__ := ⟨a13, b13, d13⟩,
    f___call__ := G13.mono (by decide),
    k___call__ := GK13.mono (by decide)
  }
  have C18 : CalG l.prog w K mg base 5 "_law_right" s__law_right ["_law_told", "_law_other"] (sp__law_right K) := ⟨⟨f18, _, ok__law_right (P := l.prog) (w := w) (K := K) (mg := mg) (base := base) (k := 4) (F := F18) (hkc := by decide) (hkt := by decide) (TC := TC) (TI := TIK) (TA := TA) (hx_cls := hx_cls) (hx_ty := hx_ty) (hx_non := hx_non) (hx_list := hx_list) (hx_int := hx_int) (hx_str := hx_str) (hx_tuple := hx_tuple) (z_repr := z_repr') (z_list := z_list') (z_range := z_range') (z_len := z_len') (z_abs := z_abs') (c__law_rounds := C9.mono (by decide)), PySem.W.mg_of X G a18, F18⟩, fun _ _ _ _ _ _ us hl => match us, hl with | [_, _], _ => rfl⟩
  have C19 : CalG l.prog w K mg base 5 "_law_call_right" s__law_call_right ["_law_draws_here", "_law_told"] (sp__law_call_right K) := ⟨⟨f19, _, ok__law_call_right (P := l.prog) (w := w) (K := K) (mg := mg) (base := base) (k := 4) (F := F19) (hkc := by decide) (hkt := by decide) (TC := TC) (TI := TIK) (TA := TA) (z_int := z_int') (z_repr := z_repr') (z_list := z_list') (z_enumerate := z_enumerate') (z_len := z_len') (c__law_next := C8.mono (by decide)), PySem.W.mg_of X G a19, F19⟩, fun _ _ _ _ _ _ us hl => match us, hl with | [_, _], _ => rfl⟩
  exact ok_law (P := l.prog) (w := w) (K := K) (mg := mg) (base := base) (k := 5) (F := F20) (hkc := by decide) (hkt := by decide) (TC := TC) (TI := TIK) (TA := TA) (z_range := z_range') (z_int := z_int') (z_abs := z_abs') (c__law_draws := C7.mono (by decide)) (c__law_next := C8.mono (by decide)) (c__law_shuffled := C15.mono (by decide)) (c__law_right := C18.mono (by decide)) (c__law_call_right := C19.mono (by decide))
end UN
open PySem PySem.W PyProof.Rows
set_option maxHeartbeats 0 in
theorem PySem.Challenge.cw_unnoted_k20_arrangements_holds : PySem.Challenge.rw_unnoted_k20_arrangements.Holds := by
  w_on; o_law; k_head; (case hw => w_witness2)
  k_fill
  refine UN.walk_G (l := PySem.Challenge.rw_unnoted_k20_arrangements) (n := 63) (k := 6) (x := "_law_script") (sp := fun w => UN.sp_law _) rfl (by decide) rfl ⟨rfl, by decide, by decide⟩ (fun w h Y => PySem.W.kIn_of Y) ?F (fun _ _ a ns hl _ hS => ⟨a, ns, rfl, hl, hS, fun _ => rfl⟩)
  case F =>
    intro w mg fa h KX G hmg
    refine' UN.all_mk KX G hmg ?aC ?pgC ?hdC ?poC ?saC ?nTC ?sfC ?caC ?cnC ?ctC ?cmC ?mkC ?kpC ?hx_cls ?hx_ty ?hx_non ?hx_list ?hx_int ?hx_str ?hx_tuple ?a1 ?l1 ?c1 ?k1 ?a2 ?l2 ?c2 ?k2 ?a3 ?l3 ?c3 ?k3 ?a4 ?b4 ?d4 ?l4 ?c4 ?k4 ?a5 ?b5 ?d5 ?l5 ?c5 ?k5 ?a6 ?b6 ?d6 ?e6 ?l6 ?c6 ?k6 ?a7 ?l7 ?c7 ?k7 ?a8 ?l8 ?c8 ?k8 ?a9 ?l9 ?c9 ?k9 ?a10 ?l10 ?c10 ?k10 ?a11 ?l11 ?c11 ?k11 ?a12 ?b12 ?d12 ?l12 ?c12 ?k12 ?a13 ?b13 ?d13 ?l13 ?c13 ?k13 ?a14 ?b14 ?d14 ?e14 ?l14 ?c14 ?k14 ?a15 ?l15 ?c15 ?k15 ?a16 ?b16 ?d16 ?l16 ?c16 ?k16 ?a17 ?b17 ?d17 ?l17 ?c17 ?k17 ?a18 ?l18 ?c18 ?k18 ?a19 ?l19 ?c19 ?k19 ?a20 ?l20 ?c20 ?k20 ?z_abs ?z_bool ?z_enumerate ?z_int ?z_isinstance ?z_len ?z_list ?z_min ?z_range ?z_repr ?g_MOST_CELLS
    (case aC => k_is)
    (case pgC => k_is)
    (case hdC => k_is)
    (case poC => k_is)
    (case saC => k_is)
    (case nTC => k_is)
    (case sfC => k_is)
    (case caC => k_is)
    (case cnC => k_is)
    (case ctC => k_is)
    (case cmC => k_is)
    (case mkC => k_is)
    (case kpC => k_is)
    (case hx_cls => k_is)
    (case hx_ty => k_is)
    (case hx_non => k_is)
    (case hx_list => k_is)
    (case hx_int => k_is)
    (case hx_str => k_is)
    (case hx_tuple => k_is)
    (case a1 => k_is)
    (case l1 => k_is)
    (case c1 => k_is)
    (case k1 => k_is)
    (case a2 => k_is)
    (case l2 => k_is)
    (case c2 => k_is)
    (case k2 => k_is)
    (case a3 => k_is)
    (case l3 => k_is)
    (case c3 => k_is)
    (case k3 => k_is)
    (case a4 => k_is)
    (case b4 => k_is)
    (case d4 => k_is)
    (case l4 => k_is)
    (case c4 => k_is)
    (case k4 => k_is)
    (case a5 => k_is)
    (case b5 => k_is)
    (case d5 => k_is)
    (case l5 => k_is)
    (case c5 => k_is)
    (case k5 => k_is)
    (case a6 => k_is)
    (case b6 => k_is)
    (case d6 => k_is)
    (case e6 => k_is)
    (case l6 => k_is)
    (case c6 => k_is)
    (case k6 => k_is)
    (case a7 => k_is)
    (case l7 => k_is)
    (case c7 => k_is)
    (case k7 => k_is)
    (case a8 => k_is)
    (case l8 => k_is)
    (case c8 => k_is)
    (case k8 => k_is)
    (case a9 => k_is)
    (case l9 => k_is)
    (case c9 => k_is)
    (case k9 => k_is)
    (case a10 => k_is)
    (case l10 => k_is)
    (case c10 => k_is)
    (case k10 => k_is)
    (case a11 => k_is)
    (case l11 => k_is)
    (case c11 => k_is)
    (case k11 => k_is)
    (case a12 => k_is)
    (case b12 => k_is)
    (case d12 => k_is)
    (case l12 => k_is)
    (case c12 => k_is)
    (case k12 => k_is)
    (case a13 => k_is)
    (case b13 => k_is)
    (case d13 => k_is)
    (case l13 => k_is)
    (case c13 => k_is)
    (case k13 => k_is)
    (case a14 => k_is)
    (case b14 => k_is)
    (case d14 => k_is)
    (case e14 => k_is)
    (case l14 => k_is)
    (case c14 => k_is)
    (case k14 => k_is)
    (case a15 => k_is)
    (case l15 => k_is)
    (case c15 => k_is)
    (case k15 => k_is)
    (case a16 => k_is)
    (case b16 => k_is)
    (case d16 => k_is)
    (case l16 => k_is)
    (case c16 => k_is)
    (case k16 => k_is)
    (case a17 => k_is)
    (case b17 => k_is)
    (case d17 => k_is)
    (case l17 => k_is)
    (case c17 => k_is)
    (case k17 => k_is)
    (case a18 => k_is)
    (case l18 => k_is)
    (case c18 => k_is)
    (case k18 => k_is)
    (case a19 => k_is)
    (case l19 => k_is)
    (case c19 => k_is)
    (case k19 => k_is)
    (case a20 => k_is)
    (case l20 => k_is)
    (case c20 => k_is)
    (case k20 => k_is)
    (case z_abs => k_is)
    (case z_bool => k_is)
    (case z_enumerate => k_is)
    (case z_int => k_is)
    (case z_isinstance => k_is)
    (case z_len => k_is)
    (case z_list => k_is)
    (case z_min => k_is)
    (case z_range => k_is)
    (case z_repr => k_is)
    (case g_MOST_CELLS => k_is)
