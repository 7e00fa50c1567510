import PyProof.Rows.All
import Wide.All
import OpenK.AllK
import Wide.FinOn
import HandS.ForMost
import HandS.Style
import HandS.Deep
import HandS.IsInst
import HandS.SortInts
import HandS.SortRule
import HandS.TupSets
import HandS.Wide
import HandS.Conv
import HandS.TupLe
import HandS.RaiseMore
import HandS.Flow
import HandS.ExcValue
import HandS.ExcOwn
import HandS.ExcIs
import HandS.Small
import HandS.ClsMeth
import HandS.SlotsOwn
import HandS.Property
import KE.KOpsOwn
import KE.KCallOwn
import KE.KDictZip
import KE.SortData
import KE.DataMinMax
import PySem.Challenge.RW_unnoted_k18_whole_bridges
set_option Elab.async false
set_option autoImplicit false
set_option linter.all false
set_option maxRecDepth 100000
set_option maxHeartbeats 4000000
/-! Own prelude, part 0: promises of defs where no repr is under way (G), calls by them, the law's end by them -/
namespace UN
open PySem PySem.Spec PyProof.Rows L2

/-- a def's promise; asked only where the guards are known to be none (repr, str of data) -/
structure FG (P : Program) (w : World) (K : PySem.W.Frag) (mg : Str → Option Value) (base : Heap) (C : CXT) (k : Nat) (f : Addr) (fd : FuncData) (ps : List Str) (sp : Sp) : Prop where
  many : ∀ xs H Q E, sp xs H Q E → xs.length = ps.length
  go : ∀ (A : Around) (out : List Env) (s : Shared) (H : Hp) (args : Args) (us : List Value) (xs : List V) (Q : VK) (E : XK),
    Room k A → A.guards = some [] → Env0 P w K mg base A out s H → BindsTo s fd args (ps.zip us) → Vals xs us → sp xs H Q E →
    codeAny (model P w) A (.call (.ref f) args) (CR C out P w H s Q E) s

section
variable {P : Program} {w : World} {K : PySem.W.Frag} {mg : Str → Option Value} {base : Heap} {C : CXT} {k : Nat} {f : Addr} {fd : FuncData} {ps : List Str} {sp : Sp}
theorem FG.of (F : FnOk P w K mg base C k f fd ps sp) : FG P w K mg base C k f fd ps sp :=
  ⟨F.len, fun A out s H args us xs Q E hr _ e0 hb hv hs => F.run A out s H args us xs Q E hr e0 hb hv hs⟩
theorem FG.mono {j : Nat} (F : FG P w K mg base C j f fd ps sp) (h : j ≤ k) : FG P w K mg base C k f fd ps sp :=
  ⟨F.many, fun A out s H args us xs Q E hr => F.go A out s H args us xs Q E (hr.mono h)⟩

/-- by the def's body -/
theorem fg_body {name qual : Str} {params : Arguments} {body : List Stmt} {scope : Scope} {dV kV doc pm cdv ct oc : Value} {an od : Option Addr} {osl : Array (Option Value)} {N : List Str}
    (at_f : K.lookup f = some ⟨oc, od, .func (PySem.W.fnOf name qual params body scope dV kV doc pm an cdv ct), osl⟩) (code : PySem.W.codeIn K cdv qual = true) (S : FnScope N ps scope)
    (many : ∀ xs H Q E, sp xs H Q E → xs.length = ps.length)
    (bd : ∀ (A : Around) (out : List Env) (s : Shared) (H : Hp) (xs : List V) (Q : VK) (E : XK), Room k (A.deeper (envOfC qual scope s.heap.objs.size f cdv)) → A.guards = some [] → sp xs H Q E →
      ∃ t, PSs (cxOf C P w K mg base N qual scope f cdv A out s H E) body t ∧ t { nx := fun _ H' => Q .non H', rt := Q } (start N xs) H) :
    FG P w K mg base C (k + 1) f (PySem.W.fnOf name qual params body scope dV kV doc pm an cdv ct) ps sp := by
  constructor
  · exact many
  intro A out s H args us xs Q E room hg e0 hb rel hs
  have nl := many _ _ _ _ hs
  have kin : K.In s.heap := e0.mod.kin.keeps (fun b o q => (e0.bs b o q).1)
  have nolim : s.heap.NoLimit := e0.mod.nolimit.keeps (fun b o q => (e0.bs b o q).1)
  have kinds : ∀ y ∈ ps.zip us, scope.names.lookup y.1 = some .local ∨ (scope.names.lookup y.1 = some .cell ∧ ((cellsFrom (s.heap.objs.size + 1) scope.names []).lookup y.1).isSome = true) := by
    rintro ⟨n, v⟩ hy
    cases S.par n (List.of_mem_zip hy).1 with
    | inl q => exact Or.inl q
    | inr q => exact Or.inr ⟨q, PySem.W.cellsFrom_some _ _ _ (Or.inl q)⟩
  apply codeAny_call_function room.depth (kin _ _ at_f) rfl S.co S.gen rfl (PySem.W.codeRec_of kin code)
  apply hb
  apply wpAny_newFunctionEnv_cells S.kind kinds
  intro env he s1 x
  cases he
  refine And.intro (nolim.keeps x.toInCall.keep) (codeAny_func ?_)
  obtain ⟨t, pt, ht⟩ := bd A out s H xs Q E (room.deeper _) hg hs
  have J := inv_start (CX := C) (P := P) (w := w) (K := K) (mg := mg) (base := base) (f := f) (cd := cdv) (E := E) S room.hd e0 nl rel x
  apply wpAny_mono (pt.run [] s1 (start N xs) H _ J ht) ?_ (fun _ _ q => q)
  intro fl s' q
  cases fl with
  | next => obtain ⟨_, _, J', q'⟩ := q; exact ⟨V.non, _, J'.os, J'.bare, J'.base, J'.hok, rfl, q'⟩
  | ret u => obtain ⟨_, _, _, J', r', q'⟩ := q; exact ⟨_, _, J'.os, J'.bare, J'.base, J'.hok, r', q'⟩
  | brk => obtain ⟨_, _, _, z⟩ := q; exact z.elim
  | cont => obtain ⟨_, _, _, z⟩ := q; exact z.elim

/-- the same of a def of the text, nothing raised -/
theorem fg_fun {x qual : Str} {st : Stmt} {N : List Str} (F : Fun K x qual st f fd) (S : FnScope N ps (defScope st))
    (many : ∀ xs H Q E, sp xs H Q E → xs.length = ps.length)
    (bd : ∀ (cdv : Value) (A : Around) (out : List Env) (s : Shared) (H : Hp) (xs : List V) (Q : VK) (E : XK),
      Room k (A.deeper (envOfC qual (defScope st) s.heap.objs.size f cdv)) → A.guards = some [] → sp xs H Q E →
      ∃ t, PSs (cxOf CX0 P w K mg base N qual (defScope st) f cdv A out s H E).nox (defBody st) t ∧ t { nx := fun _ H' => Q .non H', rt := Q } (start N xs) H) :
    FG P w K mg base CX0 (k + 1) f fd ps sp := by
  obtain ⟨oc, od, kV, doc, pm, an, cdv, ct, osl, e, lk, hc⟩ := F.ex
  cases e
  refine fg_body lk hc S many ?_
  intro A out s H xs Q E hr hg hs
  obtain ⟨t, h, q⟩ := bd cdv A out s H xs Q E hr hg hs
  exact ⟨t, h.nox, q⟩
end

/-- a def that may be called by its name -/
structure CalG (P : Program) (w : World) (K : PySem.W.Frag) (mg : Str → Option Value) (base : Heap) (k : Nat) (x : Str) (st : Stmt) (ps : List Str) (sp : Sp) : Prop where
  ex : ∃ f fd, FG P w K mg base CX0 k f fd ps sp ∧ mg x = some (.ref f) ∧ Fun K x x st f fd
  bd : ∀ (kV doc pm : Value) (an : Option Addr) (cdv ct : Value) (us : List Value), us.length = ps.length →
    bindArgs (PySem.W.fnOf x x (defArgs st) (defBody st) (defScope st) .none kV doc pm an cdv ct) ⟨us, []⟩ = pure (ps.zip us)
/-- a call by keywords alone: g puts the keywords' values into the parameters' order -/
def KwOk (x : Str) (st : Stmt) (ps ks : List Str) (g : List Value → List Value) (gV : List V → List V) : Prop :=
  (∀ (kV doc pm : Value) (an : Option Addr) (cdv ct : Value) (ws : List Value), ws.length = ks.length →
    bindArgs (PySem.W.fnOf x x (defArgs st) (defBody st) (defScope st) .none kV doc pm an cdv ct) ⟨[], ks.zip ws⟩ = pure (ps.zip (g ws))) ∧
  ∀ {zs : List V} {ws : List Value}, Vals zs ws → Vals (gV zs) (g ws)

def tG (sp : Sp) (t : TA) : TE := fun σ H Q => t σ H fun vs H1 => sp vs H1 Q E0
def tGK (sp : Sp) (n : Nat) (gV : List V → List V) (t : TA) : TE := fun σ H Q => t σ H fun vs H1 => vs.length = n ∧ sp (gV vs) H1 Q E0

section
variable {X : Cx} {k j : Nat} {x : Str} {st : Stmt} {ps ks : List Str} {sp : Sp} {p pos : Pos} {e : Expr} {es : List Expr} {t : TA}
theorem fg_end {pins : List (Addr × Obj)} {σ : L2.St} {H : Hp} {s : Shared} {Q : VK} (J : Inv X pins σ H s) (r : Result) (s' : Shared) : CR CX0 X.stack X.prog X.w H s Q E0 r s' →
    (match r with | .ok (.ret u) => EP X pins σ Q u s' | .ok _ => False | .error e => X.xe e s') := by
  intro h
  cases r with
  | error _ => exact False.elim h
  | ok fl =>
    cases fl with
    | ret _ => exact J.after h
    | next => exact h
    | brk => exact h
    | cont => exact h
theorem pe_cG (c : CalG X.prog X.w X.K X.mg X.base k x st ps sp) (hr : Room j X.A) (hk : k ≤ j) (hg : X.A.guards = some []) (gl : Gl X x) (ha : PA X (e :: es) t)
    (hdb : (x == ("__debug__" : Str)) = false := by decide) (he : starEach (e :: es) X.env = (false, eval e X.env) :: starEach es X.env := by rfl) (hpl : (backTo pos (starEach es X.env)).any (·.1) = false := by rfl) :
    PE X (.Call (.Name x p) (e :: es) [] pos) (tG sp t) := by
  constructor
  intro pins s σ H Q J h
  obtain ⟨f, fd, F, hm, fn⟩ := c.ex
  apply wpAny_Call_Name_kw
  apply ld_glob J gl hm _ hdb
  refine PySem.W.callWith_K (h₀ := X.base) J.ok.mod.kin fn.kp (thn (ha.run pos pins s σ H _ J h) ?_) he hpl
  rintro us s1 ⟨vs, H1, J1, r1, q1⟩
  refine And.intro J1.kIn ?_
  have nl : us.length = ps.length := by rw [← r1.length]; exact F.many _ _ _ _ q1
  have hb : BindsTo s1 fd ⟨us, []⟩ (ps.zip us) := by
    obtain ⟨_, _, kV, doc, pm, an, cdv, ct, _, e, _, _⟩ := fn.ex
    cases e
    exact .of_eq (c.bd kV doc pm an cdv ct us nl)
  apply wpAny_call
  refine codeAny_mono (F.go X.A X.stack s1 H1 ⟨us, []⟩ us vs Q E0 (hr.mono hk) hg J1.env0 hb r1 q1) ?_
  exact fg_end J1
theorem pe_cG0 (c : CalG X.prog X.w X.K X.mg X.base k x st [] sp) (hr : Room j X.A) (hk : k ≤ j) (hg : X.A.guards = some []) (gl : Gl X x)
    (hdb : (x == ("__debug__" : Str)) = false := by decide) : PE X (.Call (.Name x p) [] [] pos) (tG sp tNil) := by
  constructor
  intro pins s σ H Q J h
  obtain ⟨f, fd, F, hm, fn⟩ := c.ex
  apply wpAny_Call_Name_kw
  apply ld_glob J gl hm _ hdb
  refine PySem.W.callWith_K0 J.kIn fn.kp ?_
  have hb : BindsTo s fd ⟨[], []⟩ (([] : List Str).zip []) := by
    obtain ⟨_, _, kV, doc, pm, an, cdv, ct, _, e, _, _⟩ := fn.ex
    cases e
    exact .of_eq (c.bd kV doc pm an cdv ct [] rfl)
  apply wpAny_call
  refine codeAny_mono (F.go X.A X.stack s H ⟨[], []⟩ [] [] Q E0 (hr.mono hk) hg J.env0 hb .nil h) ?_
  exact fg_end J
theorem pe_ckG {kws : List Keyword} {g : List Value → List Value} {gV : List V → List V} (c : CalG X.prog X.w X.K X.mg X.base k x st ps sp) (kb : KwOk x st ps ks g gV) (hr : Room j X.A) (hk : k ≤ j) (hg : X.A.guards = some []) (gl : Gl X x)
    (hkw : PK X kws t) (hall : (backToKw pos (keywordEach kws X.env)).all (·.1.isSome) = true := by rfl) (hks : (backToKw pos (keywordEach kws X.env)).filterMap (·.1) = ks := by rfl)
    (hdb : (x == ("__debug__" : Str)) = false := by decide) (hpl : ((backTo pos (starEach [] X.env)).any (·.1) || (backToKw pos (keywordEach kws X.env)).any (·.1.isNone)) = false := by rfl) :
    PE X (.Call (.Name x p) [] kws pos) (tGK sp ks.length gV t) := by
  constructor
  intro pins s σ H Q J h
  obtain ⟨f, fd, F, hm, fn⟩ := c.ex
  apply wpAny_Call_Name_kw
  apply ld_glob J gl hm _ hdb
  refine PySem.W.callWith_KW0 (h₀ := X.base) J.ok.mod.kin fn.kp hall (thn (hkw.run pos pins s σ H _ J h) ?_) hpl
  rintro ws s1 ⟨zs, H1, J1, r1, ln, q1⟩
  refine And.intro J1.kIn ?_
  rw [hks]
  have r2 := kb.2 r1
  have hb : BindsTo s1 fd ⟨[], ks.zip ws⟩ (ps.zip (g ws)) := by
    obtain ⟨_, _, kV, doc, pm, an, cdv, ct, _, e, _, _⟩ := fn.ex
    cases e
    exact .of_eq (kb.1 kV doc pm an cdv ct ws (by rw [← r1.length]; exact ln))
  apply wpAny_call
  refine codeAny_mono (F.go X.A X.stack s1 H1 ⟨[], ks.zip ws⟩ (g ws) (gV zs) Q E0 (hr.mono hk) hg J1.env0 hb r2 q1) ?_
  exact fg_end J1
end
end UN

namespace UN
open PySem PySem.Spec PyProof.Rows L2

/-! the law's end, by a promise that asks no guards -/
section
variable {P : Program} {w : World} {K : PySem.W.Frag} {mg mb : Str → Option Value} {C : CXT} {k : Nat} {fa a : Addr} {fd : FuncData} {x : Str} {sp : Sp} {s1 : Shared} {vs : List Value} {ns : List Int}
/-- from one abstract heap that holds nothing but (perhaps) the script -/
theorem end_core (kin : K.In s1.heap) (gl : s1.heap.Ns mainGlobals mg) (bl : s1.heap.Ns builtinsNs mb) (bb : ∀ y : Str, y ≠ "__name__" → mb y = bootBuiltins y) (nl : s1.heap.NoLimit) (ng : s1.gens = #[])
    (obj : s1.heap.get? a = some { cls := .type "list", data := .seq vs.toArray }) (room : Room k callerA)
    (F : ∀ base : Heap, K.In base → base.Ns mainGlobals mg → FG P w K mg base C k fa fd [x] sp) (bnd : ∀ (s : Shared) (u : Value), BindsTo s fd ⟨[u], []⟩ [(x, u)])
    (H : Hp) (only : Only H) (hok : HOk P w H s1.heap) (alone : ∀ b u, H b = some u → b = a ∧ K.lookup a = none)
    (ask : sp [.ref a] H (fun v _ => v = .bl true) fun _ _ _ => False) (noX : ∀ G e s', C [] G s1 (fun _ _ _ => False) e s' → False) :
    codeAny (model P w) callerA (.call (.ref fa) ⟨[.ref a], []⟩) (fun r s' => r = .ok (.ret (.bool true)) ∧ PySem.OldK s1.heap s'.heap ∧ s'.os = s1.os ∧ AllBare s'.gens) s1 := by
  have free : ∀ b, b ≠ a → H b = none := by
    intro b hb
    cases q : H b with
    | none => rfl
    | some u => exact absurd (alone b u q).1 hb
  have dict_ne : ∀ {b : Addr} {m : Str → Option Value}, s1.heap.Ns b m → b ≠ a := by
    rintro b m ⟨o, es, ep, e, d, _⟩ z
    rw [z, obj] at e
    cases e
    have d2 : Data.seq vs.toArray _ = Data.dict es ep := d
    cases d2
  have hide : ∀ {b : Addr} {m : Str → Option Value}, s1.heap.Ns b m → (hidT s1.heap H).Ns b m := by
    intro b m n
    have nb := free b (dict_ne n)
    obtain ⟨o, es, ep, e, r⟩ := n
    exact ⟨o, es, ep, hidT_get e nb, r⟩
  have kinH : K.In (hidT s1.heap H) := by
    intro b o e
    apply hidT_get (kin b o e)
    cases q : H b with
    | none => rfl
    | some u =>
      obtain ⟨z, z2⟩ := alone b u q
      rw [z, z2] at e
      cases e
  obtain ⟨ml, l1, l2⟩ := nl
  have M : Mod K mg (hidT s1.heap H) := { kin := kinH, glob := hide gl, blt := ⟨mb, hide bl, bb⟩, nolimit := ⟨ml, hide l1, l2⟩ }
  have E0' : Env0 P w K mg (hidT s1.heap H) callerA [] s1 H :=
    { frames := rfl, mod := M, bs := fun b o e => of_hidT e, bsz := Nat.le_of_eq (hidT_size _ _), funs := trivial, frf := fun b hb => absurd (show b ∈ ([] : List Addr) from hb) (by simp), hok := hok, bare := .of_eq ng }
  have run := (F _ kinH (hide gl)).go callerA [] s1 H ⟨[.ref a], []⟩ [.ref a] [.ref a] _ _ room rfl E0' (bnd s1 (.ref a)) (.cons rfl .nil) ask
  refine codeAny_mono run ?_
  intro r s' q
  cases r with
  | error e => exact (noX H e s' q).elim
  | ok fl =>
    cases fl with
    | next => exact False.elim q
    | brk => exact False.elim q
    | cont => exact False.elim q
    | ret u =>
      obtain ⟨v, G, os, bare, un, okG, rel, tr⟩ := q
      cases (show v = .bl true from tr)
      cases (show u = Value.bool true from rel)
      refine ⟨rfl, PySem.OldK.of_keep ?_, os, bare⟩
      intro b o e
      cases q : H b with
      | none => exact un.keep b o e q (fun z => absurd (show b ∈ ([] : List Addr) from z) (by simp)) (by simp)
      | some u =>
        cases only b with
        | inl z => rw [q] at z; cases z
        | inr z =>
          obtain ⟨ob, xs, z⟩ := z
          have e1 := (hok b _ z).1
          rw [e] at e1
          cases e1
          exact (okG b _ (un.frzs b _ _ z)).1
/-- the script alone -/
def scriptH (a : Addr) (vs : List Value) (ns : List Int) : Hp := fun b => if b = a then some (.frz { cls := .type "list", data := .seq vs.toArray } (.lst (ns.map V.int))) else none
theorem end_call (kin : K.In s1.heap) (gl : s1.heap.Ns mainGlobals mg) (bl : s1.heap.Ns builtinsNs mb) (bb : ∀ y : Str, y ≠ "__name__" → mb y = bootBuiltins y) (nl : s1.heap.NoLimit) (ng : s1.gens = #[])
    (obj : s1.heap.get? a = some { cls := .type "list", data := .seq vs.toArray }) (inx : IntsAre vs ns) (few : ns.length ≤ sizeLine) (room : Room k callerA)
    (F : ∀ base : Heap, K.In base → base.Ns mainGlobals mg → FG P w K mg base C k fa fd [x] sp) (bnd : ∀ (s : Shared) (u : Value), BindsTo s fd ⟨[u], []⟩ [(x, u)])
    (ask : ∀ H : Hp, Only H → SqL K H a (ns.map V.int) → sp [.ref a] H (fun v _ => v = .bl true) fun _ _ _ => False) (noX : ∀ G e s', C [] G s1 (fun _ _ _ => False) e s' → False) :
    codeAny (model P w) callerA (.call (.ref fa) ⟨[.ref a], []⟩) (fun r s' => r = .ok (.ret (.bool true)) ∧ PySem.OldK s1.heap s'.heap ∧ s'.os = s1.os ∧ AllBare s'.gens) s1 := by
  have rv := vals_ints inx
  have ln := inx.length
  cases q : K.lookup a with
  | some o =>
    have e := kin a o q
    rw [obj] at e
    cases e
    have on : Only (fun _ => none) := fun _ => .inl rfl
    refine end_core kin gl bl bb nl ng obj room F bnd (fun _ => none) on (fun b u z => nomatch z) (fun b u z => nomatch z) (ask _ on ?_) noX
    exact .inr ⟨_, vs.toArray, _, q, rfl, rfl, rfl, by rw [List.size_toArray, ln]; exact few, by simpa using rv⟩
  | none =>
    have at_a : scriptH a vs ns a = some (.frz { cls := .type "list", data := .seq vs.toArray } (.lst (ns.map V.int))) := if_pos rfl
    have other : ∀ b, b ≠ a → scriptH a vs ns b = none := fun b hb => if_neg hb
    have on : Only (scriptH a vs ns) := by
      intro b
      by_cases hb : b = a
      · rw [hb]; exact .inr ⟨_, _, at_a⟩
      · exact .inl (other b hb)
    refine end_core kin gl bl bb nl ng obj room F bnd (scriptH a vs ns) on ?_ ?_ (ask _ on (.inl (.inr ⟨_, at_a⟩))) noX
    · intro b u z
      by_cases hb : b = a
      · subst hb
        rw [at_a] at z
        cases z
        exact ⟨obj, by rw [List.length_map]; exact few, vs, _, rv, obj⟩
      · rw [other b hb] at z
        cases z
    · intro b u z
      by_cases hb : b = a
      · exact ⟨hb, q⟩
      · rw [other b hb] at z
        cases z
end

theorem walk_G {l : PySem.W.OpenLaw} {n k : Nat} {q : Program} {loose : List Str} {XP : (Str → Option Value) → Heap → Prop} {YP : World → Heap → Prop} {d : DefRec} {K : Params → PySem.W.Frag} {sp : World → Sp} {x : Str}
    (hn : l.most = some n) (hn2 : n ≤ sizeLine) (hdf : d.params.defaults = []) (hr : Room k callerA)
    (hY : ∀ (w : World) (h : Heap), YP w h → (K w.params).In h)
    (F : ∀ (w : World) (mg : Str → Option Value) (fa : Addr) (h : Heap), (K w.params).In h → h.Ns mainGlobals mg → mg d.name = some (.ref fa) →
      ∃ fd : FuncData, (∀ (s : Shared) (u : Value), BindsTo s fd ⟨[u], []⟩ [(x, u)]) ∧
        ∀ base : Heap, (K w.params).In base → base.Ns mainGlobals mg → FG l.prog w (K w.params) mg base CX0 k fa fd [x] (sp w))
    (hsp : ∀ (w : World) (H : Hp) (a : Addr) (ns : List Int), ns.length ≤ n → Only H → SqL (K w.params) H a (ns.map V.int) → sp w [.ref a] H (fun v _ => v = .bl true) fun _ _ _ => False) :
    PySem.W.WalkO q loose XP YP l.row.toRowW d [] (fun f vs => PySem.call f vs) := by
  apply Att.attach_call hn hdf
  intro w s0 s1 mg mb fa o pm cd doc a vs ns G Y ho hd hcd hmg hobj hints hlen hg
  have kin := hY w _ Y
  obtain ⟨fd, hb, hF⟩ := F w mg fa _ kin G.T.g hmg
  exact end_call kin G.T.g G.T.b G.T.builtins G.T.nolimit hg hobj hints (Nat.le_trans hlen hn2) hr hF hb (fun H hO hS => hsp w H a ns hlen hO hS) (fun _ _ _ z => z)
end UN

namespace UN
open PySem PySem.Spec PyProof.Rows L2

/-! rules that the layer lacks -/
section
variable {X : Cx}
/-- repr of data -/
def rRepr (K : PySem.W.Frag) : List V → Hp → VK → Prop := fun vs H Q => ∃ x d, vs = [x] ∧ Dp K H x d ∧ d.showable = true ∧ d.hasDict = false ∧ d.depth ≤ 60 ∧ d.shown.length ≤ sizeLine ∧ Q (.str d.shown) H
theorem call_reprD (hu : X.A.units + 64 < cLine) (hg : X.A.guards = some []) : CallR X (.builtin "repr") (rRepr X.K) := by
  intro pins s σ H vs us Q J r h
  obtain ⟨x, d, e, dp, sh, nd, dep, sz, q⟩ := h
  subst e
  obtain ⟨u, e, ru⟩ := vals1 r
  subst e
  obtain ⟨as, rd⟩ := Dp.reads J d x u dp ru
  cases dp with
  | non => cases ru; exact PySem.P.repr_of_none ⟨.str _, H, J.tok _, ⟨_, rfl⟩, q⟩
  | bl b => cases ru; cases b <;> exact PySem.P.repr_of_bool ⟨.str _, H, J.tok _, ⟨_, rfl⟩, q⟩
  | int i =>
    obtain ⟨t, rfl⟩ := ru
    exact PySem.P.repr_of_int (of_decide_eq_true sh) ⟨.str _, H, J.tok _, ⟨_, rfl⟩, q⟩
  | str z =>
    obtain ⟨t, rfl⟩ := ru
    exact PySem.P.repr_of_str ⟨.str _, H, J.tok _, ⟨_, rfl⟩, q⟩ sz
  | lst _ _ => cases ru; exact repr_of_reads' rd sh (PyData.noDict_hsm nd) hg (by omega) (fun _ _ z => z) (fun h2 u tk k => ⟨.str _, H, J.kept (t' := tk) k, ⟨_, rfl⟩, q⟩) sz
  | tup _ _ => cases ru; exact repr_of_reads' rd sh (PyData.noDict_hsm nd) hg (by omega) (fun _ _ z => z) (fun h2 u tk k => ⟨.str _, H, J.kept (t' := tk) k, ⟨_, rfl⟩, q⟩) sz

/-- powers of greater numbers -/
def CPowW (i j : Int) : Prop := 0 < j ∧ j ≤ 1000 ∧ 1 < i ∧ i.natAbs.log2 < 100000
theorem op_powW : OpR X (binaryOp .Pow) (rI CPowW fun i j => .int (i ^ j.toNat)) := opI fun i j t u s Q E hc q => by
  obtain ⟨h1, h2, h3, h4⟩ := hc
  refine AutoIntOps.pow_4 (by omega) (by simp; omega) (by simp; omega) (by simp; omega) ?_ q
  unfold Builtin.Int.intTooBig
  have hb : Builtin.Int.intBits i ≤ i.natAbs.log2 + 1 := by
    unfold Builtin.Int.intBits
    split <;> omega
  have e : bitsLine = 134217728 := by decide
  have m : ((Builtin.Int.intBits i : Nat) : Int) * j ≤ 100000 * 1000 := by
    have a : ((Builtin.Int.intBits i : Nat) : Int) ≤ 100000 := by omega
    exact Int.mul_le_mul a h2 (by omega) (by omega)
  rw [e]
  simp
  omega

/-- xs += ys -/
theorem ip_ext : PIp X .Add rExt2 := fun pins s σ H x y v u Q J r1 r2 h => iop_ext pins s σ H x y v u Q J r1 r2 h

/-- a < b < c < d -/
def tChain3 (r r' r'' : R2) (ta tb tc td : TE) : TE := fun σ H Q => ta σ H fun x H1 => tb σ H1 fun y H2 => r x y H2 fun z H3 => ∃ k, z = .bl k ∧
  (if k = true then tc σ H3 fun w H4 => r' y w H4 fun z2 H5 => ∃ k2, z2 = .bl k2 ∧ (if k2 = true then td σ H5 fun v H6 => r'' w v H6 Q else Q (.bl false) H5) else Q (.bl false) H3)
variable {a b c d : Expr} {ta tb tc td : TE} {pos : Pos}
theorem pe_chain3 {o1 o2 o3 : CmpOp} {r r' r'' : R2} (h1 : OpR X (compareOp o1) r) (h2 : OpR X (compareOp o2) r') (h3 : OpR X (compareOp o3) r'') (ha : PE X a ta) (hb : PE X b tb) (hc : PE X c tc) (hd : PE X d td)
    (hm : lastMarks [o1, o2, o3] [b, c, d] = false := by with_unfolding_all rfl) : PE X (.Compare a [o1, o2, o3] [b, c, d] pos) (tChain3 r r' r'' ta tb tc td) := by
  constructor
  intro pins s σ H Q J h
  refine Compare_chain (thn (ha.run pins s σ H _ J h) ?_) hm
  rintro v s1 ⟨x, H1, J1, r1, q1⟩
  refine chain_link (thn (hb.run pins s1 σ H1 _ J1 q1) ?_)
  rintro u s2 ⟨y, H2, J2, r2, q2⟩
  refine thn (h1 pins s2 σ H2 x y v u _ J2 r1 r2 q2) ?_
  rintro d1 s3 ⟨z, H3, J3, r3, k, e, q3⟩
  subst e
  cases r3
  refine wpAny_truthy_bool ?_
  cases k with
  | false => exact ite_ff ⟨.bl false, H3, J3, rfl, q3⟩
  | true =>
    refine ite_tt (chain_link (thn (hc.run pins s3 σ H3 _ J3 q3) ?_))
    rintro w s4 ⟨y2, H4, J4, r4, q4⟩
    refine thn (h2 pins s4 σ H4 y y2 u w _ J4 r2 r4 q4) ?_
    rintro d2 s5 ⟨z2, H5, J5, r5, k2, e2, q5⟩
    subst e2
    cases r5
    refine wpAny_truthy_bool ?_
    cases k2 with
    | false => exact ite_ff ⟨.bl false, H5, J5, rfl, q5⟩
    | true =>
      refine ite_tt (chain_last (thn (hd.run pins s5 σ H5 _ J5 q5) ?_))
      rintro w3 s6 ⟨y3, H6, J6, r6, q6⟩
      exact h3 pins s6 σ H6 y2 y3 w w3 Q J6 r4 r6 q6
end
end UN

namespace UN
open PySem PySem.Spec PyProof.Rows L2

/-! what a def owns: H is H0 with the new objects of L -/
abbrev Led := List (Addr × HO)
structure Loc (H0 H : Hp) (L : Led) : Prop where
  same : Same H0 H
  here : ∀ p ∈ L, H p.1 = some p.2
  new : ∀ p ∈ L, H0 p.1 = none
  nd : (L.map Prod.fst).Nodup
section
variable {H0 H H1 : Hp} {L M A B : Led} {a p : Addr} {o o' : HO}
theorem Loc.refl (H : Hp) : Loc H H [] := ⟨Same.refl H, (fun _ z => nomatch z), (fun _ z => nomatch z), List.Pairwise.nil⟩
theorem Loc.of (h : Same H0 H) : Loc H0 H [] := ⟨h, (fun _ z => nomatch z), (fun _ z => nomatch z), List.Pairwise.nil⟩
theorem Loc.ne (l : Loc H0 H L) (hp : H p = none) : ∀ q ∈ L, q.1 ≠ p := fun q hq => ne_of_none (l.here q hq) hp
theorem Loc.alloc (l : Loc H0 H L) (hp : H p = none) : Loc H0 (upd H p o) ((p, o) :: L) := by
  have n0 : H0 p = none := l.same.free hp
  refine ⟨fun b u e => ?_, ?_, ?_, ?_⟩
  · rw [upd_ne (ne_of_none e n0)]; exact l.same b u e
  · intro q hq
    rcases List.mem_cons.mp hq with rfl | hq
    · exact upd_same
    · rw [upd_ne (l.ne hp q hq)]; exact l.here q hq
  · intro q hq
    rcases List.mem_cons.mp hq with rfl | hq
    · exact n0
    · exact l.new q hq
  · refine List.nodup_cons.mpr ⟨fun z => ?_, l.nd⟩
    obtain ⟨q, hq, e⟩ := List.mem_map.mp z
    exact l.ne hp q hq e
theorem Loc.setIx (l : Loc H0 H L) {i : Nat} (h : L[i]? = some (a, o)) : Loc H0 (upd H a o') (L.set i (a, o')) := by
  have mem : (a, o) ∈ L := List.mem_of_getElem? h
  have n0 : H0 a = none := l.new _ mem
  obtain ⟨hi, e⟩ := List.getElem?_eq_some_iff.mp h
  have fst : (L.set i (a, o')).map Prod.fst = L.map Prod.fst := by
    rw [List.map_set]
    refine List.ext_getElem? fun j => ?_
    rw [List.getElem?_set]
    by_cases hj : i = j
    · subst hj
      rw [if_pos rfl, List.getElem?_map, h, if_pos (by rw [List.length_map]; exact hi)]
      rfl
    · rw [if_neg hj]
  refine ⟨fun b u q => ?_, ?_, ?_, ?_⟩
  · rw [upd_ne (ne_of_none q n0)]; exact l.same b u q
  · intro q hq
    obtain ⟨j, hj⟩ := List.getElem?_of_mem hq
    rw [List.getElem?_set] at hj
    by_cases e1 : i = j
    · subst e1
      rw [if_pos rfl, if_pos hi] at hj
      cases hj
      exact upd_same
    · rw [if_neg e1] at hj
      have mq : q ∈ L := List.mem_of_getElem? hj
      have ne : q.1 ≠ a := by
        intro z
        have j1 : (L.map Prod.fst)[i]? = some a := by rw [List.getElem?_map, h]; rfl
        have j2 : (L.map Prod.fst)[j]? = some a := by rw [List.getElem?_map, hj, ← z]; rfl
        exact e1 (nd_ix l.nd j1 j2)
      rw [upd_ne ne]
      exact l.here q mq
  · intro q hq
    have z : q.1 ∈ (L.set i (a, o')).map Prod.fst := List.mem_map.mpr ⟨q, hq, rfl⟩
    rw [fst] at z
    obtain ⟨r, hr, e2⟩ := List.mem_map.mp z
    rw [← e2]
    exact l.new r hr
  · rw [fst]; exact l.nd
theorem Loc.call (l : Loc H0 H L) (m : Loc H H1 M) : Loc H0 H1 (M ++ L) := by
  refine ⟨l.same.trans m.same, ?_, ?_, ?_⟩
  · intro q hq
    rcases List.mem_append.mp hq with hq | hq
    · exact m.here q hq
    · exact m.same _ _ (l.here q hq)
  · intro q hq
    rcases List.mem_append.mp hq with hq | hq
    · exact l.same.free (m.new q hq)
    · exact l.new q hq
  · rw [List.map_append, List.nodup_append]
    refine ⟨m.nd, l.nd, fun x hx y hy e => ?_⟩
    obtain ⟨q, hq, rfl⟩ := List.mem_map.mp hx
    obtain ⟨r, hr, rfl⟩ := List.mem_map.mp hy
    have e1 := m.new q hq
    rw [e, l.here r hr] at e1
    cases e1
theorem Loc.ext (l : Loc H0 H L) (s : Same H H1) : Loc H0 H1 L := l.call (Loc.of s)
theorem Loc.keep (l : Loc H0 H L) (s : M.Sublist L) : Loc H0 H M :=
  ⟨l.same, fun q hq => l.here q (s.subset hq), fun q hq => l.new q (s.subset hq), l.nd.sublist (s.map _)⟩
theorem Loc.perm (l : Loc H0 H L) (s : M.Perm L) : Loc H0 H M :=
  ⟨l.same, fun q hq => l.here q (s.mem_iff.mp hq), fun q hq => l.new q (s.mem_iff.mp hq), (s.map Prod.fst).nodup_iff.mpr l.nd⟩
theorem Loc.drop1 (l : Loc H0 H ((a, o) :: L)) : Loc H0 H L := l.keep (List.sublist_cons_self _ _)
theorem Loc.put0 (l : Loc H0 H ((a, o) :: L)) : Loc H0 (upd H a o') ((a, o') :: L) := l.setIx (i := 0) rfl
theorem Loc.at0 (l : Loc H0 H ((a, o) :: L)) : H a = some o := l.here _ List.mem_cons_self
theorem Loc.atIx (l : Loc H0 H L) {i : Nat} (h : L[i]? = some (a, o)) : H a = some o := l.here _ (List.mem_of_getElem? h)
/-- the base itself is written at a place that is none of ours -/
theorem Loc.bump (l : Loc (upd H0 a o) H L) : Loc (upd H0 a o') (upd H a o') L := by
  have ne : ∀ q ∈ L, q.1 ≠ a := fun q hq z => by
    have e := l.new q hq
    rw [z, upd_same] at e
    cases e
  refine ⟨fun b u e => ?_, fun q hq => ?_, fun q hq => ?_, l.nd⟩
  · by_cases hb : b = a
    · subst hb; rw [upd_same] at e ⊢; exact e
    · rw [upd_ne hb] at e ⊢
      exact l.same b u (by rw [upd_ne hb]; exact e)
  · rw [upd_ne (ne q hq)]; exact l.here q hq
  · have e := l.new q hq
    rw [upd_ne (ne q hq)] at e ⊢
    exact e
theorem Loc.start (h : H a = some o) : Loc (upd H a o) H [] := by
  have e : upd H a o = H := by
    funext b
    by_cases hb : b = a
    · subst hb; rw [upd_same, h]
    · rw [upd_ne hb]
  rw [e]
  exact Loc.refl H
theorem Loc.own (l : Loc (upd H0 a o) H L) : H a = some o := l.same _ _ upd_same
end

/-! reading: what stays where all that was tracked stays -/
section
variable {K : PySem.W.Frag} {H H1 : Hp} {a : Addr} {xs : List V}
theorem Same.sqT (s : Same H H1) (h : SqT K H a xs) : SqT K H1 a xs := by
  rcases h with (h | ⟨o, h⟩) | h
  · exact .inl (.inl (s _ _ h))
  · exact .inl (.inr ⟨o, s _ _ h⟩)
  · exact .inr h
mutual
theorem Dp.grow (s : Same H H1) : ∀ (d : PyData) (v : V), Dp K H v d → Dp K H1 v d
  | .none, _, h => by cases h; exact .non
  | .bool _, _, h => by cases h; exact .bl _
  | .int _, _, h => by cases h; exact .int _
  | .str _, _, h => by cases h; exact .str _
  | .list ds, _, h => by
    cases h with
    | lst hs ha => exact .lst (s.seq hs) (DpAll.grow s ds _ ha)
  | .tuple ds, _, h => by
    cases h with
    | tup hs ha => exact .tup (Same.sqT s hs) (DpAll.grow s ds _ ha)
  | .dict _, _, h => nomatch h
theorem DpAll.grow (s : Same H H1) : ∀ (ds : List PyData) (vs : List V), DpAll K H vs ds → DpAll K H1 vs ds
  | [], _, h => by cases h; exact .nil
  | d :: ds, _, h => by
    cases h with
    | cons h1 h2 => exact .cons (Dp.grow s d _ h1) (DpAll.grow s ds _ h2)
end
end

/-! lists of lists, of pairs -/
def refs {α : Type} (rs : List (Addr × α)) : List V := rs.map fun p => .ref p.1
def iv (ns : List Int) : List V := ns.map V.int
def rowL (rs : List (Addr × List Int)) : Led := rs.map fun p => (p.1, .lst (iv p.2))
def pairL (rs : List (Addr × Int × Int)) : Led := rs.map fun p => (p.1, .tup [.int p.2.1, .int p.2.2])
def vals {α : Type} (rs : List (Addr × α)) : List α := rs.map Prod.snd
section
variable {K : PySem.W.Frag} {H H1 : Hp} {a : Addr}
def IsInts (K : PySem.W.Frag) (H : Hp) (a : Addr) (ns : List Int) : Prop := SqL K H a (iv ns)
def IsRows (K : PySem.W.Frag) (H : Hp) (a : Addr) (rows : List (List Int)) : Prop := ∃ rs : List (Addr × List Int), vals rs = rows ∧ SqL K H a (refs rs) ∧ ∀ r ∈ rs, SqL K H r.1 (iv r.2)
def IsPairs (K : PySem.W.Frag) (H : Hp) (a : Addr) (ps : List (Int × Int)) : Prop := ∃ ts : List (Addr × Int × Int), vals ts = ps ∧ SqL K H a (refs ts) ∧ ∀ t ∈ ts, SqT K H t.1 [.int t.2.1, .int t.2.2]
theorem IsInts.grow {ns : List Int} (s : Same H H1) (h : IsInts K H a ns) : IsInts K H1 a ns := s.seq h
theorem IsRows.grow {rows : List (List Int)} (s : Same H H1) (h : IsRows K H a rows) : IsRows K H1 a rows := by
  obtain ⟨rs, e, h1, h2⟩ := h
  exact ⟨rs, e, s.seq h1, fun r hr => s.seq (h2 r hr)⟩
theorem IsPairs.grow {ps : List (Int × Int)} (s : Same H H1) (h : IsPairs K H a ps) : IsPairs K H1 a ps := by
  obtain ⟨rs, e, h1, h2⟩ := h
  exact ⟨rs, e, s.seq h1, fun r hr => Same.sqT s (h2 r hr)⟩
theorem refs_set {α : Type} {rs : List (Addr × α)} {i : Nat} {x y : α} (h : rs[i]? = some (a, x)) : refs (rs.set i (a, y)) = refs rs := by
  unfold refs
  rw [List.map_set]
  refine List.ext_getElem? fun j => ?_
  rw [List.getElem?_set]
  by_cases hj : i = j
  · subst hj
    rw [if_pos rfl, List.getElem?_map, h, if_pos (by rw [List.length_map]; exact (List.getElem?_eq_some_iff.mp h).1)]
    rfl
  · rw [if_neg hj]
theorem rowL_set (rs : List (Addr × List Int)) (i : Nat) (r : List Int) : rowL (rs.set i (a, r)) = (rowL rs).set i (a, .lst (iv r)) := by
  unfold rowL
  rw [List.map_set]
theorem vals_set {α : Type} (rs : List (Addr × α)) (i : Nat) (r : α) : vals (rs.set i (a, r)) = (vals rs).set i r := by
  unfold vals
  rw [List.map_set]
theorem vals_get {α : Type} {rs : List (Addr × α)} {i : Nat} {r : α} (h : (vals rs)[i]? = some r) : ∃ a, rs[i]? = some (a, r) := by
  unfold vals at h
  rw [List.getElem?_map] at h
  cases e : rs[i]? with
  | none => rw [e] at h; cases h
  | some q => obtain ⟨b, s⟩ := q; rw [e] at h; cases h; exact ⟨b, rfl⟩
theorem refs_get {α : Type} {rs : List (Addr × α)} {i : Nat} {r : α} (h : rs[i]? = some (a, r)) : (refs rs)[i]? = some (.ref a) := by
  unfold refs
  rw [List.getElem?_map, h]
  rfl
theorem rowL_get {rs : List (Addr × List Int)} {i : Nat} {r : List Int} (h : rs[i]? = some (a, r)) : (rowL rs)[i]? = some (a, .lst (iv r)) := by
  unfold rowL
  rw [List.getElem?_map, h]
  rfl
theorem refs_len {α : Type} (rs : List (Addr × α)) : (refs rs).length = rs.length := List.length_map _
theorem vals_len {α : Type} (rs : List (Addr × α)) : (vals rs).length = rs.length := List.length_map _
theorem iv_len (ns : List Int) : (iv ns).length = ns.length := List.length_map _
theorem iv_get {ns : List Int} {i : Nat} {n : Int} (h : ns[i]? = some n) : (iv ns)[i]? = some (.int n) := by
  unfold iv
  rw [List.getElem?_map, h]
  rfl
theorem iv_snoc (ns : List Int) (n : Int) : iv (ns ++ [n]) = iv ns ++ [.int n] := List.map_append ..
theorem refs_snoc {α : Type} (rs : List (Addr × α)) (q : Addr × α) : refs (rs ++ [q]) = refs rs ++ [.ref q.1] := List.map_append ..
end

/-! sorting whole numbers -/
def srt (l : List Int) : List Int := l.mergeSort (fun a b => decide (a ≤ b))
theorem srt_perm (l : List Int) : (srt l).Perm l := List.mergeSort_perm ..
theorem srt_asc (l : List Int) : (srt l).Pairwise (· ≤ ·) := by
  have h := List.pairwise_mergeSort (le := fun a b : Int => decide (a ≤ b)) (fun a b c h1 h2 => by simp at *; omega) (fun a b => by simp; omega) l
  exact h.imp fun h => of_decide_eq_true h
theorem asc_unique : ∀ {l m : List Int}, l.Perm m → l.Pairwise (· ≤ ·) → m.Pairwise (· ≤ ·) → l = m
  | [], m, p, _, _ => p.nil_eq
  | x :: l, [], p, _, _ => by have := p.length_eq; simp at this
  | x :: l, y :: m, p, h1, h2 => by
    have h1' := List.pairwise_cons.mp h1
    have h2' := List.pairwise_cons.mp h2
    have e : x = y := by
      have a : x ∈ y :: m := p.subset List.mem_cons_self
      have b : y ∈ x :: l := p.symm.subset List.mem_cons_self
      rcases List.mem_cons.mp a with a | a
      · exact a
      · rcases List.mem_cons.mp b with b | b
        · exact b.symm
        · have := h2'.1 x a
          have := h1'.1 y b
          omega
    subst e
    rw [asc_unique (List.Perm.cons_inv p) h1'.2 h2'.2]
theorem srt_of {l m : List Int} (p : m.Perm l) (h : m.Pairwise (· ≤ ·)) : m = srt l := asc_unique (p.trans (srt_perm l).symm) h (srt_asc l)
end UN
namespace UN
open PySem PySem.Spec PyProof.Rows L2
section
variable {H0 H : Hp} {L : Led} {x y : Addr × HO} {t r : Addr} {o : HO}
theorem Loc.rot (l : Loc H0 H (x :: y :: L)) : Loc H0 H (y :: (L ++ [x])) :=
  l.perm ((List.Perm.cons y (List.perm_append_singleton x L)).trans (List.Perm.swap x y L))
theorem refs_inv {α : Type} {ts : List (Addr × α)} {i : Nat} {x : V} (h : (refs ts)[i]? = some x) : ∃ q, ts[i]? = some q ∧ x = .ref q.1 := by
  unfold refs at h
  rw [List.getElem?_map] at h
  cases e : ts[i]? with
  | none => rw [e] at h; cases h
  | some q => rw [e] at h; cases h; exact ⟨q, rfl, rfl⟩
theorem iv_inv {ns : List Int} {i : Nat} {x : V} (h : (iv ns)[i]? = some x) : ∃ n, ns[i]? = some n ∧ x = .int n := by
  unfold iv at h
  rw [List.getElem?_map] at h
  cases e : ns[i]? with
  | none => rw [e] at h; cases h
  | some q => rw [e] at h; cases h; exact ⟨q, rfl, rfl⟩
/-- a row of a new list of new rows grows -/
theorem Loc.rowGrow {rs : List (Addr × List Int)} {k : Nat} {row : List Int} {z : Int} (l : Loc H0 H ((t, .lst (refs rs)) :: rowL rs)) (h : rs[k]? = some (r, row)) :
    Loc H0 (upd H r (.lst (iv row ++ [.int z]))) ((t, .lst (refs (rs.set k (r, row ++ [z])))) :: rowL (rs.set k (r, row ++ [z]))) := by
  have l2 := l.setIx (i := k + 1) (a := r) (o := .lst (iv row)) (o' := .lst (iv row ++ [.int z])) (by rw [List.getElem?_cons_succ]; exact rowL_get h)
  rw [List.set_cons_succ, ← iv_snoc, ← rowL_set] at l2
  rw [refs_set h, ← iv_snoc]
  exact l2
/-- one more new row at the end of a new list of new rows -/
theorem Loc.rowNew {rs : List (Addr × List Int)} {row : List Int} (l : Loc H0 H ((t, .lst (refs rs)) :: rowL rs)) (hr : H r = none) :
    Loc H0 (upd (upd H r (.lst (iv row))) t (.lst (refs rs ++ [.ref r]))) ((t, .lst (refs (rs ++ [(r, row)]))) :: rowL (rs ++ [(r, row)])) := by
  have l2 := ((l.alloc (o := .lst (iv row)) hr).setIx (i := 1) (o' := .lst (refs rs ++ [.ref r])) rfl).rot
  rw [refs_snoc]
  have e : rowL (rs ++ [(r, row)]) = rowL rs ++ [(r, .lst (iv row))] := List.map_append ..
  rw [e]
  exact l2
/-- .. where the row was made by a call -/
theorem Loc.rowAdd {H1 : Hp} {rs : List (Addr × List Int)} {row : List Int} (l : Loc H0 H ((t, .lst (refs rs)) :: rowL rs)) (m : Loc H H1 [(r, .lst (iv row))]) :
    Loc H0 (upd H1 t (.lst (refs rs ++ [.ref r]))) ((t, .lst (refs (rs ++ [(r, row)]))) :: rowL (rs ++ [(r, row)])) := by
  have l2 := ((l.call m).setIx (i := 1) (o' := .lst (refs rs ++ [.ref r])) rfl).rot
  rw [refs_snoc]
  have e : rowL (rs ++ [(r, row)]) = rowL rs ++ [(r, .lst (iv row))] := List.map_append ..
  rw [e]
  exact l2
theorem Loc.isRows {K : PySem.W.Frag} {rs : List (Addr × List Int)} (l : Loc H0 H ((t, .lst (refs rs)) :: rowL rs)) : IsRows K H t (vals rs) :=
  ⟨rs, rfl, SqL.of l.at0, fun q hq => SqL.of (l.here (q.1, .lst (iv q.2)) (List.mem_cons_of_mem _ (List.mem_map.mpr ⟨q, hq, rfl⟩)))⟩
theorem sl_line {n : Nat} (h : n ≤ 100000) : n ≤ sizeLine := Nat.le_trans h (by decide)
theorem sl_line' {n : Nat} (h : n < 100000) : n < sizeLine := Nat.lt_of_lt_of_le h (by decide)
end
end UN

namespace UN
open PySem PySem.Spec PyProof.Rows L2

/-! the layer's rules with the written part told (within a comprehension's block it is the def's) -/
section
variable {X : Cx} (K : PySem.W.Frag) (hK : X.K = K)
include hK
theorem ix_listK : IxR X (rIxL K) := hK ▸ ix_list
theorem ix_tupK : IxR X (rIxT K) := hK ▸ ix_tup
theorem sl_listK : SlR X (rSlL K) := hK ▸ sl_list
theorem op_in_seqK : OpR X (compareOp .In) (rIn K false) := hK ▸ op_in_seq
theorem op_notIn_seqK : OpR X (compareOp .NotIn) (rIn K true) := hK ▸ op_notIn_seq
theorem op_eqDK (hu : X.A.units + 64 < cLine) : OpR X (compareOp .Eq) (rEqD K) := hK ▸ op_eqD hu
theorem op_neDK (hu : X.A.units + 64 < cLine) : OpR X (compareOp .NotEq) (rNeD K) := hK ▸ op_neD hu
theorem op_inDK (hu : X.A.units + 65 < cLine) : OpR X (compareOp .In) (rInD K) := hK ▸ op_inD hu
theorem op_notInDK (hu : X.A.units + 65 < cLine) : OpR X (compareOp .NotIn) (rNotInD K) := hK ▸ op_notInD hu
theorem op_ltTK (hu : X.A.units < cLine) : OpR X (compareOp .Lt) (rLtT K) := hK ▸ op_ltT hu
theorem op_leTK (hu : X.A.units < cLine) : OpR X (compareOp .LtE) (rLeT K) := hK ▸ op_leT hu
theorem op_catTK : OpR X (binaryOp .Add) (rCatT K) := hK ▸ op_catT
def rLenS (K : PySem.W.Frag) : List V → Hp → VK → Prop := fun xs H Q => ∃ p ys, xs = [.ref p] ∧ (SqL K H p ys ∨ SqT K H p ys) ∧ Q (.int ys.length) H
theorem call_len_seqK : CallR X (.builtin "len") (rLenS K) := hK ▸ call_len_seq
def rListOf (K : PySem.W.Frag) : List V → Hp → VK → Prop := fun xs H Q => ∃ p ys, xs = [.ref p] ∧ (SqL K H p ys ∨ SqT K H p ys) ∧ ∀ l, H l = none → Q (.ref l) (upd H l (.lst ys))
theorem call_list_ofK : CallR X (.type "list") (rListOf K) := hK ▸ call_list_of
theorem cr_sumK (hc : X.calm = true) : CallR X (.builtin "sum") (rSum K) := hK ▸ cr_sum hc
theorem cr_maxK (hc : X.calm = true) : CallR X (.builtin "max") (rMax K) := hK ▸ cr_max hc
theorem cr_minK (hc : X.calm = true) : CallR X (.builtin "min") (rMin K) := hK ▸ cr_min hc
theorem cr_anyK (hc : X.calm = true) : CallR X (.builtin "any") (rAny K) := hK ▸ cr_any hc
theorem cr_allK (hc : X.calm = true) : CallR X (.builtin "all") (rAll K) := hK ▸ cr_all hc
theorem cr_sortedIK : CallR X (.builtin "sorted") (rSortedI K) := hK ▸ cr_sortedI
theorem cr_sortedPOK : CallR X (.builtin "sorted") (rSortedPO K) := hK ▸ cr_sortedPO
theorem call_isiK2 : CallR X (.builtin "isinstance") (rIsi K) := hK ▸ call_isi
theorem call_reprDK (hu : X.A.units + 64 < cLine) (hg : X.A.guards = some []) : CallR X (.builtin "repr") (rRepr K) := hK ▸ call_reprD hu hg
theorem pi_listK {tg l : Expr} {tl : TE} (hl : PE X l tl) : PI X tg l (iList K tl) := hK ▸ pi_list hl
theorem pi_tupK {tg l : Expr} {tl : TE} (hl : PE X l tl) : PI X tg l (iTup K tl) := hK ▸ pi_tup hl
theorem pi_enumK {e : Expr} {ta : TA} {p pos tpos : Pos} {elts : List Expr} {kk : Nat} (hg : Gl X "enumerate") (hm : X.mg "enumerate" = none) (ha : PA X [e] ta) (hs : starEach [e] X.env = [(false, eval e X.env)] := by rfl) :
    PI X (.Tuple elts kk tpos) (.Call (.Name "enumerate" p) [e] [] pos) (iEnum K ta) := hK ▸ pi_enum hg hm ha hs
theorem pg_tupK {es : List Expr} {k : Nat} {t : TGs} {n : Nat} {pos : Pos} (hc : X.calm = true) (h : PGs X es t)
    (hn : (assignEach es X.env).length = n := by rfl) (hst : (assignEach es X.env).findIdx? (·.1) = none := by rfl) : PG X (.Tuple es k pos) (gTup K n t) := hK ▸ pg_tup hc h hn hst
theorem pe_revLK {e : Expr} {te : TE} {k : Nat} {p1 p2 p3 pos : Pos} (he : PE X e te) : PE X (.Subscript e (.Slice none none (some (.UnaryOp .USub (.Constant (.int 1) k p1) p2)) p3) pos) (tRevL K te) := hK ▸ pe_revL he
def tTruK (K : PySem.W.Frag) (ta : TE) : TT := fun σ H Q => ta σ H fun x H' => ∃ k, TruV K x H' k ∧ Q k H'
theorem pt_truthK {a : Expr} {ta : TE} (ha : PE X a ta) (he : ∀ whole, isTrue a X.env whole = (do let v ← whole; standAt a.pos; holding [v] (truthy v))) : PT X a (tTruK K ta) := hK ▸ pt_truth ha he
theorem mt_indexK : MtR X "list.index" (rIndex K) := hK ▸ mt_index
theorem mt_lcountK : MtR X "list.count" (fun x xs H Q => ∃ (p : Addr) (ns : List Int) (k : Int), x = .ref p ∧ xs = [.int k] ∧ SqL K H p (ns.map V.int) ∧ Q (.int (ns.count k : Nat)) H) := by
  cases hK
  exact mt_lcount
variable {T : String} {name : Str} {id : String} {r : V → List V → Hp → VK → Prop} {o e : Expr} {es : List Expr} {to : TE} {t : TA} {apos cpos : Pos}
theorem pe_bm0K (pa : PlainAttrs T) (slot : Slot T name id) (hty : typeOf (.builtin id) = pure (.type "method_descriptor")) (hm : MtR X id r) (ho : PE X o to)
    (hbase : attributeBase o name X.env (eval o X.env) = eval o X.env := by rfl) (hline : (apos.endLine == cpos.line) = true := by rfl) : PE X (.Call (.Attribute o name apos) [] [] cpos) (tBM0 K T r to) :=
  hK ▸ pe_bm0 pa slot hty hm ho hbase hline
theorem pe_bmK (pa : PlainAttrs T) (slot : Slot T name id) (hty : typeOf (.builtin id) = pure (.type "method_descriptor")) (hm : MtR X id r) (ho : PE X o to) (ha : PA X (e :: es) t)
    (h1 : attributeBase o name X.env (eval o X.env) = eval o X.env := by rfl)
    (h2 : ((backTo cpos (starEach (e :: es) X.env)).all (fun x => !x.1) && (backToKw cpos (keywordEach [] X.env)).all (fun x => x.1.isSome) && decide ((e :: es).length + ([] : List Keyword).length + (if ([] : List Keyword).isEmpty then 0 else 1) < 30)) = true := by rfl)
    (h3 : (apos.endLine == cpos.line) = true := by rfl) (h4 : starEach (e :: es) X.env = (false, eval e X.env) :: starEach es X.env := by rfl) (h5 : (backTo cpos (starEach es X.env)).any (·.1) = false := by rfl) :
    PE X (.Call (.Attribute o name apos) (e :: es) [] cpos) (tBM K T r to t) := hK ▸ pe_bm pa slot hty hm ho ha h1 h2 h3 h4 h5
end
section
variable {X : Cx} (P : Program) (w : World) (K : PySem.W.Frag)
theorem cr_setOfTK (hP : X.prog = P) (hw : X.w = w) (hK : X.K = K) (hc : X.calm = true) (hu : X.A.units + 64 < cLine) : CallR X (.type "set") (rSetOfT K P w) := by
  cases hP; cases hw; cases hK
  exact cr_setOfT hc hu
theorem cr_sortedTK (hP : X.prog = P) (hw : X.w = w) (hK : X.K = K) (hc : X.calm = true) : CallR X (.builtin "sorted") (rSortedT K P w) := by
  cases hP; cases hw; cases hK
  exact cr_sortedT hc
end

/-! the built-ins by their names -/
theorem bt_len : bootBuiltins "len" = some (.builtin "len") := by first | exact PySem.boot_len | exact PyProof.Rows.boot_len | decide +kernel
theorem bt_range : bootBuiltins "range" = some (.type "range") := by first | exact PySem.boot_range | exact PyProof.Rows.boot_range | decide +kernel
theorem bt_sorted : bootBuiltins "sorted" = some (.builtin "sorted") := by first | exact PySem.boot_sorted | exact PyProof.Rows.boot_sorted | decide +kernel
theorem bt_repr : bootBuiltins "repr" = some (.builtin "repr") := by first | exact PySem.boot_repr | exact PyProof.Rows.boot_repr | decide +kernel
theorem bt_isinstance : bootBuiltins "isinstance" = some (.builtin "isinstance") := by first | exact PySem.boot_isinstance | exact PyProof.Rows.boot_isinstance | decide +kernel
theorem bt_min : bootBuiltins "min" = some (.builtin "min") := by first | exact PySem.boot_min | exact PyProof.Rows.boot_min | decide +kernel
theorem bt_max : bootBuiltins "max" = some (.builtin "max") := by first | exact PySem.boot_max | exact PyProof.Rows.boot_max | decide +kernel
theorem bt_sum : bootBuiltins "sum" = some (.builtin "sum") := by first | exact PySem.boot_sum | exact PyProof.Rows.boot_sum | decide +kernel
theorem bt_any : bootBuiltins "any" = some (.builtin "any") := by first | exact PySem.boot_any | exact PyProof.Rows.boot_any | decide +kernel
theorem bt_all : bootBuiltins "all" = some (.builtin "all") := by first | exact PySem.boot_all | exact PyProof.Rows.boot_all | decide +kernel
theorem bt_abs : bootBuiltins "abs" = some (.builtin "abs") := by first | exact PySem.boot_abs | exact PyProof.Rows.boot_abs | decide +kernel
theorem bt_int : bootBuiltins "int" = some (.type "int") := by first | exact PySem.boot_int | exact PyProof.Rows.boot_int | decide +kernel
theorem bt_bool : bootBuiltins "bool" = some (.type "bool") := by first | exact PySem.boot_bool | exact PyProof.Rows.boot_bool | decide +kernel
theorem bt_str : bootBuiltins "str" = some (.type "str") := by first | exact PySem.boot_str | exact PyProof.Rows.boot_str | decide +kernel
theorem bt_list : bootBuiltins "list" = some (.type "list") := by first | exact PySem.boot_list | exact PyProof.Rows.boot_list | decide +kernel
theorem bt_tuple : bootBuiltins "tuple" = some (.type "tuple") := by first | exact PySem.boot_tuple | exact PyProof.Rows.boot_tuple | decide +kernel
theorem bt_set : bootBuiltins "set" = some (.type "set") := by first | exact PySem.boot_set | exact PyProof.Rows.boot_set | decide +kernel
theorem bt_dict : bootBuiltins "dict" = some (.type "dict") := by first | exact PySem.boot_dict | exact PyProof.Rows.boot_dict | decide +kernel
end UN

namespace UN
open PySem PySem.Spec PyProof.Rows L2
/-! types of values; tests that are known -/
section
variable {K : PySem.W.Frag} {H : Hp} {a : Addr} {xs : List V}
theorem tyx_int (i : Int) : TyX K H (.int i) (.type "int") := .base (.int i)
theorem tyx_bl (b : Bool) : TyX K H (.bl b) (.type "bool") := .base (.bl b)
theorem tyx_list (h : SqL K H a xs) : TyX K H (.ref a) (.type "list") := by
  rcases h with (h | ⟨o, h⟩) | ⟨o, its, n, h, c, _⟩
  · exact .base (.lst h)
  · exact .base (.frz h)
  · exact .kList h c
theorem tyx_tup (h : SqT K H a xs) : TyX K H (.ref a) (.type "tuple") := by
  rcases h with (h | ⟨o, h⟩) | ⟨o, its, n, h, c, _⟩
  · exact .base (.tup h)
  · exact .fTuple h
  · exact .kTuple h c
end
theorem kb_ii : kitB "int" "int" = some true := by decide +kernel
theorem kb_ib : kitB "int" "bool" = some false := by decide +kernel
theorem kb_bi : kitB "bool" "int" = some true := by decide +kernel
theorem kb_bb : kitB "bool" "bool" = some true := by decide +kernel
theorem kb_tt : kitB "tuple" "tuple" = some true := by decide +kernel
theorem kb_ll : kitB "list" "list" = some true := by decide +kernel
theorem iteTr {c A B : Prop} [Decidable c] (h : c) (a : A) : if c then A else B := by rw [if_pos h]; exact a
theorem iteFa {c A B : Prop} [Decidable c] (h : ¬ c) (b : B) : if c then A else B := by rw [if_neg h]; exact b
theorem iteTT {k : Bool} {A B : Prop} (h : k = true) (a : A) : if k = true then A else B := iteTr h a
theorem iteFF {k : Bool} {A B : Prop} (h : k = false) (b : B) : if k = true then A else B := iteFa (by rw [h]; decide) b
/-- isinstance of a built-in class -/
theorem isiA {K : PySem.W.Frag} {x : V} {T U : String} {b : Bool} {H : Hp} {Q : VK} (t : TyX K H x (.type T)) (k : kitB T U = some b) (q : Q (.bl b) H) : rIsi K [x, .ty U] H Q :=
  ⟨x, .ty U, .type T, .type U, b, rfl, .ty U, t, kit_ty k, q⟩
/-- an element of a list, of a tuple at a known place -/
theorem ixLA {K : PySem.W.Frag} {p : Addr} {xs : List V} {i : Int} {j : Nat} {v : V} {H : Hp} {Q : VK} (h : SqL K H p xs) (e : i = (j : Int)) (g : xs[j]? = some v) (q : Q v H) : rIxL K (.ref p) (.int i) H Q :=
  ⟨p, xs, i, v, rfl, rfl, h, at_of e g, q⟩
theorem ixTA {K : PySem.W.Frag} {p : Addr} {xs : List V} {i : Int} {j : Nat} {v : V} {H : Hp} {Q : VK} (h : SqT K H p xs) (e : i = (j : Int)) (g : xs[j]? = some v) (q : Q v H) : rIxT K (.ref p) (.int i) H Q :=
  ⟨p, xs, i, v, rfl, rfl, h, at_of e g, q⟩
theorem lenLA {K : PySem.W.Frag} {p : Addr} {xs : List V} {H : Hp} {Q : VK} (h : SqL K H p xs) (q : Q (.int xs.length) H) : rLenS K [.ref p] H Q := ⟨p, xs, rfl, .inl h, q⟩
theorem lenTA {K : PySem.W.Frag} {p : Addr} {xs : List V} {H : Hp} {Q : VK} (h : SqT K H p xs) (q : Q (.int xs.length) H) : rLenS K [.ref p] H Q := ⟨p, xs, rfl, .inr h, q⟩
end UN
namespace UN
open PySem PySem.Spec PyProof.Rows L2
theorem CalG.mono {P : Program} {w : World} {K : PySem.W.Frag} {mg : Str → Option Value} {base : Heap} {j k : Nat} {x : Str} {st : Stmt} {ps : List Str} {sp : Sp} (c : CalG P w K mg base j x st ps sp) (h : j ≤ k) : CalG P w K mg base k x st ps sp := by
  obtain ⟨f, fd, F, hm, fn⟩ := c.ex
  exact ⟨⟨f, fd, F.mono h, hm, fn⟩, c.bd⟩
end UN
namespace UN
open PySem PySem.Spec PyProof.Rows L2
/-- a loop of n turns over any iterator -/
theorem for_n {J : It} {g : TG} {tb : TS} {D : Ends} {σ : L2.St} {H : Hp} (n : Nat) (Pv : Nat → L2.St → Hp → Prop) (h0 : Pv 0 σ H)
    (go : ∀ i σ H, i < n → Pv i σ H → J.go i H ∧ ∀ x H', J.yld i H x H' → g x σ H' fun σ2 H2 => tb { D with nx := Pv (i + 1), ct := Pv (i + 1), bk := D.nx } σ2 H2)
    (fin : ∀ σ H, Pv n σ H → J.stop n H ∧ D.nx σ H) :
    ∃ W : Nat → Nat → L2.St → Hp → Prop, (∃ m, W 0 m σ H) ∧ ∀ i m σ H, W i m σ H →
      (J.stop i H ∧ D.nx σ H) ∨ (J.go i H ∧ ∃ N : L2.St → Hp → Prop, (∀ σ' H', N σ' H' → ∃ m', m' < m ∧ W (i + 1) m' σ' H') ∧ ∀ x H', J.yld i H x H' → g x σ H' fun σ2 H2 => tb { D with nx := N, ct := N, bk := D.nx } σ2 H2) := by
  refine ⟨fun i m σ H => i + m = n ∧ Pv i σ H, ⟨n, by omega, h0⟩, ?_⟩
  rintro i m σ H ⟨e, p⟩
  by_cases hi : i < n
  · obtain ⟨a, b⟩ := go i σ H hi p
    exact .inr ⟨a, Pv (i + 1), fun σ' H' q => ⟨m - 1, by omega, by omega, q⟩, b⟩
  · have e2 : i = n := by omega
    subst e2
    exact .inl (fin σ H p)
theorem lc_n {J : It} {g : TG} {tt : TT} {te : TE} {vs : List Nat} {σ : L2.St} {H1 : Hp} {D : Addr} {Qd : Hp → Prop} (n : Nat) (Pv : Nat → Hp → Prop) (h0 : Pv 0 (upd H1 D (.lst [])))
    (go : ∀ i H, i < n → Pv i H → J.go i H ∧ ∀ x H', J.yld i H x H' → g x (wipe σ vs) H' fun σ2 H2 => wipe σ2 vs = wipe σ vs ∧ tt σ2 H2 fun b H3 =>
      if b = true then te σ2 H3 fun y H4 => ∃ acc, H4 D = some (.lst acc) ∧ acc.length < sizeLine ∧ Pv (i + 1) (upd H4 D (.lst (acc ++ [y]))) else Pv (i + 1) H3)
    (fin : ∀ H, Pv n H → J.stop n H ∧ Qd H) :
    ∃ W : Nat → Nat → Hp → Prop, (∃ m, W 0 m (upd H1 D (.lst []))) ∧ ∀ i m H, W i m H →
      (J.stop i H ∧ Qd H) ∨ (J.go i H ∧ ∃ Nx : Hp → Prop, (∀ H', Nx H' → ∃ m', m' < m ∧ W (i + 1) m' H') ∧ ∀ x H', J.yld i H x H' → g x (wipe σ vs) H' fun σ2 H2 => wipe σ2 vs = wipe σ vs ∧ tt σ2 H2 fun b H3 =>
        if b = true then te σ2 H3 fun y H4 => ∃ acc, H4 D = some (.lst acc) ∧ acc.length < sizeLine ∧ Nx (upd H4 D (.lst (acc ++ [y]))) else Nx H3) := by
  refine ⟨fun i m H => i + m = n ∧ Pv i H, ⟨n, by omega, h0⟩, ?_⟩
  rintro i m H ⟨e, p⟩
  by_cases hi : i < n
  · obtain ⟨a, b⟩ := go i H hi p
    exact .inr ⟨a, Pv (i + 1), fun H' q => ⟨m - 1, by omega, by omega, q⟩, b⟩
  · have e2 : i = n := by omega
    subst e2
    exact .inl (fin H p)
/-- enumerate over a list that stays -/
theorem for_enum {K : PySem.W.Frag} {a : Addr} {xs : List V} {g : TG} {tb : TS} {D : Ends} {σ : L2.St} {H : Hp} (Pv : Nat → L2.St → Hp → Prop) (h0 : Pv 0 σ H) (hl : ∀ i σ H, Pv i σ H → SqL K H a xs)
    (hs : ∀ i x σ H T, xs[i]? = some x → Pv i σ H → H T = none → g (.ref T) σ (upd H T (.tup [.int (i : Nat), x])) fun σ2 H2 => tb { D with nx := Pv (i + 1), ct := Pv (i + 1), bk := D.nx } σ2 H2) (hd : ∀ σ H, Pv xs.length σ H → D.nx σ H) :
    ∃ W : Nat → Nat → L2.St → Hp → Prop, (∃ m, W 0 m σ H) ∧ ∀ i m σ H, W i m σ H →
      ((Ite K a).stop i H ∧ D.nx σ H) ∨ ((Ite K a).go i H ∧ ∃ N : L2.St → Hp → Prop, (∀ σ' H', N σ' H' → ∃ m', m' < m ∧ W (i + 1) m' σ' H') ∧ ∀ x H', (Ite K a).yld i H x H' → g x σ H' fun σ2 H2 => tb { D with nx := N, ct := N, bk := D.nx } σ2 H2) := by
  refine for_n xs.length Pv h0 (fun i σ H hi p => ?_) fun σ H p => ⟨⟨xs, hl _ _ _ p, Nat.le_refl _⟩, hd _ _ p⟩
  have q := hl _ _ _ p
  refine ⟨⟨xs, xs[i], q, by simp [hi]⟩, ?_⟩
  rintro x H' ⟨T, y, rfl, nT, rfl, f⟩
  exact hs i y σ H T (f xs q) p nT
end UN

namespace UN
open PySem PySem.Spec PyProof.Rows L2
/-! small data -/
structure Sm (b dep : Nat) (d : PyData) : Prop where
  lay : d.canLay0 = true
  sh : d.showable = true
  ls : d.leavesShort 13 = true
  dp : d.depth ≤ dep
  bk : d.bulk ≤ b
section
variable {b c dep e : Nat} {d : PyData} {ds : List PyData}
theorem Sm.mono (h : Sm b dep d) (h1 : b ≤ c) (h2 : dep ≤ e) : Sm c e d := ⟨h.lay, h.sh, h.ls, Nat.le_trans h.dp h2, Nat.le_trans h.bk h1⟩
theorem sm_int {i : Int} (h : i.natAbs < 10 ^ 12) : Sm 0 0 (.int i) := by
  refine ⟨rfl, decide_eq_true ?_, decide_eq_true (PyData.shown_int_le h), Nat.le_refl _, Nat.le_refl _⟩
  by_cases z : i.natAbs = 0
  · rw [z]; decide
  · exact Nat.lt_trans ((Nat.log2_lt z).mpr (Nat.lt_trans h (by decide))) (by decide : 41 < 1920)
theorem sm_bl (x : Bool) : Sm 0 0 (.bool x) := ⟨rfl, rfl, rfl, Nat.le_refl _, Nat.le_refl _⟩
theorem sm_non : Sm 0 0 .none := ⟨rfl, rfl, rfl, Nat.le_refl _, Nat.le_refl _⟩
theorem sm_all (h : ∀ d ∈ ds, Sm b dep d) : PyData.canLayAll0 ds = true ∧ PyData.showableAll ds = true ∧ PyData.leavesShortAll 13 ds = true ∧ PyData.depthAll ds ≤ dep ∧ PyData.bulkAll ds ≤ ds.length * (b + 1) := by
  induction ds with
  | nil => exact ⟨rfl, rfl, rfl, Nat.zero_le _, Nat.zero_le _⟩
  | cons x r ih =>
    obtain ⟨a1, a2, a3, a4, a5⟩ := ih fun d hd => h d (List.mem_cons_of_mem _ hd)
    obtain ⟨b1, b2, b3, b4, b5⟩ := h x List.mem_cons_self
    refine ⟨by simp [PyData.canLayAll0, a1, b1], by simp [PyData.showableAll, a2, b2], by simp [PyData.leavesShortAll, a3, b3], by simp only [PyData.depthAll]; omega, ?_⟩
    simp only [PyData.bulkAll, List.length_cons, Nat.succ_mul]
    omega
theorem sm_lst (h : ∀ d ∈ ds, Sm b dep d) : Sm (ds.length * (b + 1)) (dep + 1) (.list ds) := by
  obtain ⟨a1, a2, a3, a4, a5⟩ := sm_all h
  exact ⟨by simpa only [PyData.canLay0] using a1, by simpa only [PyData.showable] using a2, by simpa only [PyData.leavesShort] using a3, by simp only [PyData.depth]; omega, by simpa only [PyData.bulk] using a5⟩
theorem sm_tup (h : ∀ d ∈ ds, Sm b dep d) : Sm (ds.length * (b + 1)) (dep + 1) (.tuple ds) := by
  obtain ⟨a1, a2, a3, a4, a5⟩ := sm_all h
  exact ⟨by simpa only [PyData.canLay0] using a1, by simpa only [PyData.showable] using a2, by simpa only [PyData.leavesShort] using a3, by simp only [PyData.depth]; omega, by simpa only [PyData.bulk] using a5⟩
theorem Sm.list {n : Nat} (h : ∀ d ∈ ds, Sm b dep d) (l : ds.length ≤ n) : Sm (n * (b + 1)) (dep + 1) (.list ds) := (sm_lst h).mono (Nat.mul_le_mul_right _ l) (Nat.le_refl _)
theorem Sm.tuple {n : Nat} (h : ∀ d ∈ ds, Sm b dep d) (l : ds.length ≤ n) : Sm (n * (b + 1)) (dep + 1) (.tuple ds) := (sm_tup h).mono (Nat.mul_le_mul_right _ l) (Nat.le_refl _)
theorem Sm.shaped (h : Sm b dep d) (hd : dep ≤ 64) : SeqAt.shaped d = true := by
  unfold SeqAt.shaped
  rw [h.lay, decide_eq_true (Nat.le_trans h.dp hd)]
  rfl
theorem Sm.fits (h : Sm b dep d) (hb : b ≤ 2 ^ 20) : d.shown.length ≤ sizeLine := PyData.shown_fits_bulk (by decide) (by decide) h.ls (Nat.le_trans h.bk hb)
variable {K : PySem.W.Frag} {H : Hp} {x y : V} {Q : VK}
theorem reprA (r : Dp K H x d) (h : Sm b dep d) (hd : dep ≤ 60 := by decide) (hb : b ≤ 2 ^ 20 := by decide) (q : Q (.str d.shown) H) : rRepr K [x] H Q :=
  ⟨x, d, rfl, r, h.sh, PyData.hasDict_of_canLay d h.lay, Nat.le_trans h.dp hd, h.fits hb, q⟩
end
/-! data of lists -/
def dI (ns : List Int) : PyData := .list (ns.map PyData.int)
def dR (rows : List (List Int)) : PyData := .list (rows.map dI)
def dE (e : Int × Int) : PyData := .tuple [.int e.1, .int e.2]
def dP (ps : List (Int × Int)) : PyData := .list (ps.map dE)
section
variable {K : PySem.W.Frag} {H : Hp} {a : Addr}
theorem dpAll_ints : ∀ ns : List Int, DpAll K H (iv ns) (ns.map PyData.int)
  | [] => .nil
  | n :: r => .cons (.int n) (dpAll_ints r)
theorem IsInts.dp {ns : List Int} (h : IsInts K H a ns) : Dp K H (.ref a) (dI ns) := .lst h (dpAll_ints ns)
theorem dpAll_refs {α : Type} (f : α → PyData) : ∀ rs : List (Addr × α), (∀ r ∈ rs, Dp K H (.ref r.1) (f r.2)) → DpAll K H (refs rs) ((vals rs).map f)
  | [], _ => .nil
  | r :: t, h => .cons (h r List.mem_cons_self) (dpAll_refs f t fun q hq => h q (List.mem_cons_of_mem _ hq))
theorem IsRows.dp {rows : List (List Int)} (h : IsRows K H a rows) : Dp K H (.ref a) (dR rows) := by
  obtain ⟨rs, rfl, h1, h2⟩ := h
  exact .lst h1 (dpAll_refs dI rs fun r hr => IsInts.dp (h2 r hr))
theorem IsPairs.dp {ps : List (Int × Int)} (h : IsPairs K H a ps) : Dp K H (.ref a) (dP ps) := by
  obtain ⟨ts, rfl, h1, h2⟩ := h
  exact .lst h1 (dpAll_refs dE ts fun r hr => .tup (h2 r hr) (.cons (.int _) (.cons (.int _) .nil)))
theorem sm_dI {ns : List Int} {n : Nat} (h : ∀ i ∈ ns, i.natAbs < 10 ^ 12) (l : ns.length ≤ n) : Sm n 1 (dI ns) :=
  (Sm.list (b := 0) (dep := 0) (n := n) (fun d hd => by obtain ⟨i, hi, rfl⟩ := List.mem_map.mp hd; exact sm_int (h i hi)) (by rw [List.length_map]; exact l)).mono (by omega) (Nat.le_refl _)
theorem sm_dR {rows : List (List Int)} {n m : Nat} (h : ∀ r ∈ rows, r.length ≤ n ∧ ∀ i ∈ r, i.natAbs < 10 ^ 12) (l : rows.length ≤ m) : Sm (m * (n + 1)) 2 (dR rows) :=
  Sm.list (fun d hd => by obtain ⟨r, hr, rfl⟩ := List.mem_map.mp hd; exact sm_dI (h r hr).2 (h r hr).1) (by rw [List.length_map]; exact l)
theorem sm_dE {e : Int × Int} (h1 : e.1.natAbs < 10 ^ 12) (h2 : e.2.natAbs < 10 ^ 12) : Sm 2 1 (dE e) :=
  Sm.tuple (b := 0) (dep := 0) (n := 2) (fun d hd => by
    rcases List.mem_cons.mp hd with rfl | hd
    · exact sm_int h1
    · rcases List.mem_cons.mp hd with rfl | hd
      · exact sm_int h2
      · cases hd) (Nat.le_refl _)
theorem sm_dP {ps : List (Int × Int)} {m : Nat} (h : ∀ e ∈ ps, e.1.natAbs < 10 ^ 12 ∧ e.2.natAbs < 10 ^ 12) (l : ps.length ≤ m) : Sm (m * 3) 2 (dP ps) :=
  Sm.list (fun d hd => by obtain ⟨r, hr, rfl⟩ := List.mem_map.mp hd; exact sm_dE (h r hr).1 (h r hr).2) (by rw [List.length_map]; exact l)
end
/-! membership -/
theorem inV_iv (x : Int) (ns : List Int) : inV (.int x) (iv ns) = decide (x ∈ ns) := by
  unfold inV iv
  rw [List.any_map]
  induction ns with
  | nil => simp
  | cons n r ih =>
    rw [List.any_cons, ih]
    have : ((fun y => eqV y (V.int x)) ∘ V.int) n = decide (n = x) := rfl
    rw [this]
    by_cases h : x = n
    · simp [h]
    · simp [h, Ne.symm h]
theorem iv_flat (ns : List Int) : (iv ns).all flatV = true := by
  unfold iv
  rw [List.all_map, List.all_eq_true]
  intro _ _
  rfl
end UN
namespace UN
open PySem PySem.Spec PyProof.Rows L2
theorem sl1 {x : V} : [x].length ≤ sizeLine := Nat.le_of_lt (sl_line' (by simp))
theorem sl2 {x y : V} : [x, y].length ≤ sizeLine := Nat.le_of_lt (sl_line' (by simp))
theorem sl3 {x y z : V} : [x, y, z].length ≤ sizeLine := Nat.le_of_lt (sl_line' (by simp))
end UN
namespace UN
open PySem PySem.Spec PyProof.Rows L2
theorem dVI (i j : Int) : decide (V.int i = V.int j) = decide (i = j) := by simp
theorem dVS (i j : Str) : decide (V.str i = V.str j) = decide (i = j) := by simp
theorem dVB (i j : Bool) : decide (V.bl i = V.bl j) = decide (i = j) := by simp
end UN

namespace UN
open PySem PySem.Spec PyProof.Rows L2
/-! lists that are written at the end, whatever they hold -/
structure OwnR (H0 H : Hp) (L : Led) (as : List Addr) (b : Nat) : Prop where
  loc : Loc H0 H L
  rows : ∀ a ∈ as, (∀ q ∈ L, q.1 ≠ a) ∧ H0 a = none ∧ ∃ ys, H a = some (.lst ys) ∧ ys.length ≤ b
section
variable {H0 H H1 : Hp} {L : Led} {as : List Addr} {b b' : Nat} {a p : Addr} {o o' : HO}
theorem OwnR.of {rs : List (Addr × List Int)} (l : Loc H0 H (L ++ rowL rs)) (h : ∀ r ∈ rs, r.2.length ≤ b) : OwnR H0 H L (rs.map Prod.fst) b := by
  refine ⟨l.keep (List.sublist_append_left _ _), fun a ha => ?_⟩
  obtain ⟨r, hr, rfl⟩ := List.mem_map.mp ha
  have mem : ((r.1, .lst (iv r.2)) : Addr × HO) ∈ rowL rs := List.mem_map.mpr ⟨r, hr, rfl⟩
  refine ⟨fun q hq e => ?_, l.new _ (List.mem_append_right _ mem), iv r.2, l.here _ (List.mem_append_right _ mem), by rw [iv_len]; exact h r hr⟩
  have nd := l.nd
  rw [List.map_append, List.nodup_append] at nd
  exact nd.2.2 _ (List.mem_map.mpr ⟨q, hq, rfl⟩) _ (List.mem_map.mpr ⟨_, mem, rfl⟩) e
theorem OwnR.app (h : OwnR H0 H L as b) (ha : a ∈ as) {ys : List V} {x : V} (hy : H a = some (.lst ys)) (hl : ys.length ≤ b) : OwnR H0 (upd H a (.lst (ys ++ [x]))) L as (b + 1) := by
  obtain ⟨h1, h2, _⟩ := h.rows a ha
  refine ⟨⟨fun c u e => ?_, fun q hq => ?_, h.loc.new, h.loc.nd⟩, fun c hc => ?_⟩
  · rw [upd_ne (ne_of_none e h2)]; exact h.loc.same c u e
  · rw [upd_ne (h1 q hq)]; exact h.loc.here q hq
  · obtain ⟨g1, g2, ys', g3, g4⟩ := h.rows c hc
    refine ⟨g1, g2, ?_⟩
    by_cases e : c = a
    · subst e
      exact ⟨_, upd_same, by rw [List.length_append]; simp; omega⟩
    · exact ⟨ys', by rw [upd_ne e]; exact g3, by omega⟩
end
/-- two turned -/
def turn2 {α : Type} : List α → List α
  | [a, b] => [b, a]
  | l => l
theorem turn2_vals {zs : List V} {ws : List Value} (h : Vals zs ws) : Vals (turn2 zs) (turn2 ws) := by
  cases h with
  | nil => exact .nil
  | cons h1 h2 =>
    cases h2 with
    | nil => exact .cons h1 .nil
    | cons h3 h4 =>
      cases h4 with
      | nil => exact .cons h3 (.cons h1 .nil)
      | cons h5 h6 => exact .cons h1 (.cons h3 (.cons h5 h6))
theorem two_of {α : Type} {l : List α} (h : l.length = 2) : ∃ a b, l = [a, b] := by
  match l, h with
  | [a, b], _ => exact ⟨a, b, rfl⟩
section
variable {K : PySem.W.Frag} {H : Hp} {a e : Addr} {x y : V} {d d' : PyData} {b c dep dep' : Nat}
theorem dp_two (h : SqL K H e [x, y]) (hx : Dp K H x d) (hy : Dp K H y d') : Dp K H (.ref e) (.list [d, d']) := .lst h (.cons hx (.cons hy .nil))
theorem sm_two (h : Sm b dep d) (h' : Sm b dep d') : Sm (2 * (b + 1)) (dep + 1) (.list [d, d']) := Sm.list (fun z hz => by
  rcases List.mem_cons.mp hz with rfl | hz
  · exact h
  · rcases List.mem_cons.mp hz with rfl | hz
    · exact h'
    · cases hz) (Nat.le_refl _)
end
/-- what repr asks of small data, and what goes on -/
theorem smQ {b dep : Nat} {d : PyData} {R : Prop} (h : Sm b dep d) (hd : dep ≤ 60) (hb : b ≤ 2 ^ 20) (q : R) : d.showable = true ∧ d.hasDict = false ∧ d.depth ≤ 60 ∧ d.shown.length ≤ sizeLine ∧ R :=
  ⟨h.sh, PyData.hasDict_of_canLay d h.lay, Nat.le_trans h.dp hd, h.fits hb, q⟩
theorem cut_to {xs : List V} {k : Nat} : cutV xs none (some (k : Int)) = xs.take k := by
  have e1 : HT.sIx xs.length 0 none = 0 := rfl
  have e2 : HT.sIx xs.length xs.length (some (k : Int)) = min k xs.length := HT.sIx_nat _ _ _
  unfold cutV
  rw [e1, e2, List.drop_zero, Nat.sub_zero]
  by_cases h : k ≤ xs.length
  · rw [Nat.min_eq_left h]
  · rw [Nat.min_eq_right (by omega), List.take_length, List.take_of_length_le (by omega)]
/-! list.count of flat values -/
theorem cnt_eqU {x : V} : ∀ {xs : List V} {us : List Value}, Vals xs us → xs.all flatV = true → us.countP (eqU x) = xs.countP fun y => eqV y x
  | _, _, .nil, _ => rfl
  | y :: xs, u :: us, .cons r t, f => by
    rw [List.all_cons, Bool.and_eq_true] at f
    rw [List.countP_cons, List.countP_cons, eqU_of r f.1, cnt_eqU t f.2]
def rCntV (K : PySem.W.Frag) : V → List V → Hp → VK → Prop := fun x xs H Q => ∃ (p : Addr) (y : V) (ys : List V), x = .ref p ∧ xs = [y] ∧ SqL K H p ys ∧ flatV y = true ∧ ys.all flatV = true ∧ Q (.int (ys.countP fun z => eqV z y : Nat)) H
theorem mt_lcountV {X : Cx} (K : PySem.W.Frag) (hK : X.K = K) : MtR X "list.count" (rCntV K) := by
  cases hK
  intro pins s σ H x xs v us Q J rx rxs h
  obtain ⟨p, y, ys, rfl, rfl, hs, fy, fys, q⟩ := h
  cases rx
  obtain ⟨u, rfl, ru⟩ := rxs.one
  obtain ⟨its, rv, ⟨⟨cls, dd, data, sl⟩, n, ho, hc, hdn, hd⟩, hlen⟩ := J.list hs
  simp only at hc hd
  subst hc hd
  refine call_meets PySem.F.slot_list_count ⟨_, ho, rfl⟩ PySem.F.entry_list_count (PySem.F.args_list_count_2 _ _)
    (SeqAt.list_countAt p its.toArray n dd sl u (eqU y)) ⟨ho, fun z hz => mem_eqAt ru fy rv fys z (by simpa using hz), ?_⟩
  have ec : its.toArray.toList.countP (eqU y) = ys.countP fun z => eqV z y := cnt_eqU rv fys
  refine ⟨.int (ys.countP fun z => eqV z y : Nat), H, J.tok _, ⟨s.toks, ?_⟩, q⟩
  show Value.int ((its.toArray.toList.countP (eqU y) : Nat) : Int) s.toks = _
  rw [ec]
end UN

namespace UN
open PySem PySem.Spec PyProof.Rows L2
section
variable {H0 H : Hp} {A B : Led} {a : Addr} {o o' : HO}
theorem Loc.mid (l : Loc H0 H (A ++ (a, o) :: B)) : Loc H0 (upd H a o') (A ++ (a, o') :: B) :=
  ((l.perm (M := (a, o) :: (A ++ B)) List.perm_middle.symm).put0 (o' := o')).perm List.perm_middle
/-- a row in a ledger's tail grows -/
theorem Loc.rowGrowP {rs : List (Addr × List Int)} {k : Nat} {row : List Int} {z : Int} {r : Addr} (l : Loc H0 H (A ++ rowL rs)) (h : rs[k]? = some (r, row)) :
    Loc H0 (upd H r (.lst (iv row ++ [.int z]))) (A ++ rowL (rs.set k (r, row ++ [z]))) := by
  have hk : k < (rowL rs).length := by unfold rowL; rw [List.length_map]; exact (List.getElem?_eq_some_iff.mp h).1
  have l2 := l.setIx (i := A.length + k) (a := r) (o := .lst (iv row)) (o' := .lst (iv row ++ [.int z])) (by
    rw [List.getElem?_append_right (by omega), Nat.add_sub_cancel_left]; exact rowL_get h)
  rw [List.set_append_right _ _ (by omega), Nat.add_sub_cancel_left, ← iv_snoc, ← rowL_set] at l2
  rw [← iv_snoc]
  exact l2
theorem Loc.rowAt {rs : List (Addr × List Int)} {k : Nat} {row : List Int} {r : Addr} (l : Loc H0 H (A ++ rowL rs)) (h : rs[k]? = some (r, row)) : H r = some (.lst (iv row)) :=
  l.here (r, .lst (iv row)) (List.mem_append_right _ (List.mem_of_getElem? (rowL_get h)))
end
theorem at_lastI {w : List Int} (h : w ≠ []) : atI (iv w) (-1) = some (.int (w.getLastD 0)) := by
  have e : iv w = iv w.dropLast ++ [.int (w.getLastD 0)] := by
    have e1 : w = w.dropLast ++ [w.getLastD 0] := by
      rw [List.getLastD_eq_getLast?, List.getLast?_eq_getLast h]
      exact (List.dropLast_concat_getLast h).symm
    calc iv w = iv (w.dropLast ++ [w.getLastD 0]) := by rw [← e1]
      _ = _ := iv_snoc _ _
  rw [e]
  exact atI_last _ _
theorem ixI {n : Nat} {k : Int} (h0 : 0 ≤ k) (h : k.toNat < n) : ixN n k = some k.toNat := by
  unfold ixN
  rw [if_pos h0, if_pos (by omega)]
/-- rows with a None behind, up to the place i -/
def rowN (i : Nat) (rs : List (Addr × List Int)) : Led := (rs.take i).map (fun q => (q.1, HO.lst (iv q.2 ++ [.non]))) ++ rowL (rs.drop i)
theorem rowN_zero (rs : List (Addr × List Int)) : rowN 0 rs = rowL rs := rfl
theorem Loc.rowNon {H0 H : Hp} {A : Led} {rs : List (Addr × List Int)} {i : Nat} {r : Addr} {row : List Int} (l : Loc H0 H (A ++ rowN i rs)) (h : rs[i]? = some (r, row)) :
    H r = some (.lst (iv row)) ∧ Loc H0 (upd H r (.lst (iv row ++ [.non]))) (A ++ rowN (i + 1) rs) := by
  obtain ⟨hi, e⟩ := List.getElem?_eq_some_iff.mp h
  have ed : rs.drop i = (r, row) :: rs.drop (i + 1) := by rw [List.drop_eq_getElem_cons hi, e]
  have et : rs.take (i + 1) = rs.take i ++ [(r, row)] := by rw [List.take_add_one, h]; rfl
  have e1 : A ++ rowN i rs = (A ++ (rs.take i).map (fun q => (q.1, HO.lst (iv q.2 ++ [.non])))) ++ (r, .lst (iv row)) :: rowL (rs.drop (i + 1)) := by
    unfold rowN
    rw [ed, List.append_assoc]
    rfl
  have e2 : A ++ rowN (i + 1) rs = (A ++ (rs.take i).map (fun q => (q.1, HO.lst (iv q.2 ++ [.non])))) ++ (r, .lst (iv row ++ [.non])) :: rowL (rs.drop (i + 1)) := by
    unfold rowN
    rw [et, List.map_append, List.append_assoc, List.append_assoc]
    rfl
  rw [e1] at l
  refine ⟨l.here (r, .lst (iv row)) (List.mem_append_right _ List.mem_cons_self), ?_⟩
  rw [e2]
  exact l.mid
theorem rowN_at {H0 H : Hp} {A : Led} {rs : List (Addr × List Int)} {q : Addr × List Int} (l : Loc H0 H (A ++ rowN rs.length rs)) (h : q ∈ rs) : H q.1 = some (.lst (iv q.2 ++ [.non])) := by
  refine l.here (q.1, .lst (iv q.2 ++ [.non])) (List.mem_append_right _ (List.mem_append_left _ (List.mem_map.mpr ⟨q, ?_, rfl⟩)))
  rw [List.take_length]
  exact h
theorem cnt_non (ns : List Int) : (iv ns ++ [V.non]).countP (fun z => eqV z .non) = 1 := by
  rw [List.countP_append]
  have : (iv ns).countP (fun z => eqV z .non) = 0 := by
    unfold iv
    rw [List.countP_map, List.countP_eq_zero]
    intro n _
    simp [Function.comp, eqV]
  rw [this]
  rfl
theorem flat_non (ns : List Int) : (iv ns ++ [V.non]).all flatV = true := by
  rw [List.all_append, iv_flat]
  rfl
/-! data of pairs -/
theorem shaped_dP (ps : List (Int × Int)) : SeqAt.shaped (dP ps) = true := by
  have h1 : ∀ ns : List (Int × Int), PyData.canLayAll0 (ns.map dE) = true := fun ns => by
    induction ns with
    | nil => rfl
    | cons n r ih => simp [PyData.canLayAll0, PyData.canLay0, dE, ih]
  have h2 : ∀ ns : List (Int × Int), PyData.depthAll (ns.map dE) ≤ 1 := fun ns => by
    induction ns with
    | nil => exact Nat.zero_le _
    | cons n r ih => simp [PyData.depthAll, PyData.depth, dE]; omega
  unfold SeqAt.shaped dP
  have := h2 ps
  simp [PyData.canLay0, PyData.depth, h1]
  omega
theorem shaped_dE (e : Int × Int) : SeqAt.shaped (dE e) = true := by
  unfold SeqAt.shaped dE
  simp [PyData.canLay0, PyData.canLayAll0, PyData.depth, PyData.depthAll]
theorem eqv_dE (e f : Int × Int) : PyData.eqv (dE e) (dE f) = decide (e = f) := by
  obtain ⟨a, b⟩ := e
  obtain ⟨c, d⟩ := f
  simp [dE, PyData.eqv, PyData.eqvAll, Prod.ext_iff]
  rfl
theorem eqv_dP_nil (ps : List (Int × Int)) : PyData.eqv (dP ps) (dP []) = decide (ps = []) := by
  cases ps with
  | nil => simp [dP, PyData.eqv, PyData.eqvAll]
  | cons n r => simp [dP, PyData.eqv, PyData.eqvAll]
theorem any_dE (e : Int × Int) (ps : List (Int × Int)) : ((ps.map dE).any fun z => PyData.eqv z (dE e)) = decide (e ∈ ps) := by
  rw [List.any_map]
  induction ps with
  | nil => simp
  | cons f r ih =>
    rw [List.any_cons, ih]
    have : ((fun z => PyData.eqv z (dE e)) ∘ dE) f = decide (f = e) := eqv_dE f e
    rw [this]
    by_cases h : e = f
    · simp [h]
    · simp [h, Ne.symm h]
theorem IsPairs.cut {K : PySem.W.Frag} {H : Hp} {a p : Addr} {ps : List (Int × Int)} (h : IsPairs K H a ps) (i : Nat) : ∃ xs, SqL K H a xs ∧ xs.length = ps.length ∧ ∀ H', Same H H' → SqL K H' p (xs.take i) → IsPairs K H' p (ps.take i) := by
  obtain ⟨ts, rfl, h1, h2⟩ := h
  refine ⟨refs ts, h1, by rw [refs_len, vals_len], fun H' sm hs => ⟨ts.take i, List.map_take, ?_, fun t ht => Same.sqT sm (h2 t (List.mem_of_mem_take ht))⟩⟩
  have e : (refs ts).take i = refs (ts.take i) := List.map_take.symm
  rw [← e]
  exact hs
theorem shaped_dI (ns : List Int) : SeqAt.shaped (dI ns) = true := by
  have h1 : ∀ ns : List Int, PyData.canLayAll0 (ns.map PyData.int) = true := fun ns => by
    induction ns with
    | nil => rfl
    | cons n r ih => simp [PyData.canLayAll0, PyData.canLay0, ih]
  have h2 : ∀ ns : List Int, PyData.depthAll (ns.map PyData.int) = 0 := fun ns => by
    induction ns with
    | nil => rfl
    | cons n r ih => simp [PyData.depthAll, PyData.depth, ih]
  unfold SeqAt.shaped dI
  simp [PyData.canLay0, PyData.depth, h1, h2]
theorem eqv_dI_nil (ns : List Int) : PyData.eqv (dI ns) (dI []) = decide (ns = []) := by
  cases ns with
  | nil => simp [dI, PyData.eqv, PyData.eqvAll]
  | cons n r => simp [dI, PyData.eqv, PyData.eqvAll]
section
variable {K : PySem.W.Frag} {H : Hp} {e : Addr} {x y z : V} {d d' d'' : PyData} {b dep : Nat}
theorem dp_three (h : SqL K H e [x, y, z]) (hx : Dp K H x d) (hy : Dp K H y d') (hz : Dp K H z d'') : Dp K H (.ref e) (.list [d, d', d'']) := .lst h (.cons hx (.cons hy (.cons hz .nil)))
theorem sm_three (h : Sm b dep d) (h' : Sm b dep d') (h'' : Sm b dep d'') : Sm (3 * (b + 1)) (dep + 1) (.list [d, d', d'']) := Sm.list (fun z hz => by
  rcases List.mem_cons.mp hz with rfl | hz
  · exact h
  · rcases List.mem_cons.mp hz with rfl | hz
    · exact h'
    · rcases List.mem_cons.mp hz with rfl | hz
      · exact h''
      · cases hz) (Nat.le_refl _)
end
theorem refs_app {α : Type} (a b : List (Addr × α)) : refs (a ++ b) = refs a ++ refs b := List.map_append ..
theorem rowL_app (a b : List (Addr × List Int)) : rowL (a ++ b) = rowL a ++ rowL b := List.map_append ..
end UN

namespace UN
open PySem PySem.Spec PyProof.Rows L2
theorem lay_dI (ns : List Int) : (dI ns).canLay0 = true ∧ (dI ns).depth ≤ 1 := by
  have h := shaped_dI ns
  unfold SeqAt.shaped at h
  rw [Bool.and_eq_true] at h
  refine ⟨h.1, ?_⟩
  have h2 : ∀ ns : List Int, PyData.depthAll (ns.map PyData.int) = 0 := fun ns => by
    induction ns with
    | nil => rfl
    | cons n r ih => simp [PyData.depthAll, PyData.depth, ih]
  unfold dI
  simp only [PyData.depth, h2]
  omega
theorem shaped_dR (rs : List (List Int)) : SeqAt.shaped (dR rs) = true := by
  have h1 : ∀ ns : List (List Int), PyData.canLayAll0 (ns.map dI) = true := fun ns => by
    induction ns with
    | nil => rfl
    | cons n r ih => simp [PyData.canLayAll0, (lay_dI n).1, ih]
  have h2 : ∀ ns : List (List Int), PyData.depthAll (ns.map dI) ≤ 1 := fun ns => by
    induction ns with
    | nil => exact Nat.zero_le _
    | cons n r ih =>
      have := (lay_dI n).2
      simp only [List.map_cons, PyData.depthAll]
      omega
  unfold SeqAt.shaped dR
  have := h2 rs
  simp [PyData.canLay0, PyData.depth, h1]
  omega
theorem eqvAll_ints : ∀ a b : List Int, PyData.eqvAll (a.map PyData.int) (b.map PyData.int) = decide (a = b)
  | [], [] => by simp [PyData.eqvAll]
  | [], _ :: _ => by simp [PyData.eqvAll]
  | _ :: _, [] => by simp [PyData.eqvAll]
  | x :: a, y :: b => by
    have ih := eqvAll_ints a b
    have e : PyData.eqvAll ((x :: a).map PyData.int) ((y :: b).map PyData.int) = (PyData.eqv (.int x) (.int y) && PyData.eqvAll (a.map PyData.int) (b.map PyData.int)) := by simp [PyData.eqvAll]
    have e2 : PyData.eqv (.int x) (.int y) = decide (x = y) := by simp [PyData.eqv]; rfl
    rw [e, e2, ih]
    simp [List.cons.injEq]
theorem eqv_dI (a b : List Int) : PyData.eqv (dI a) (dI b) = decide (a = b) := by
  have : PyData.eqv (dI a) (dI b) = PyData.eqvAll (a.map PyData.int) (b.map PyData.int) := by simp [dI, PyData.eqv]
  rw [this, eqvAll_ints]
theorem eqvAll_rows : ∀ a b : List (List Int), PyData.eqvAll (a.map dI) (b.map dI) = decide (a = b)
  | [], [] => by simp [PyData.eqvAll]
  | [], _ :: _ => by simp [PyData.eqvAll]
  | _ :: _, [] => by simp [PyData.eqvAll]
  | x :: a, y :: b => by
    have ih := eqvAll_rows a b
    have e : PyData.eqvAll ((x :: a).map dI) ((y :: b).map dI) = (PyData.eqv (dI x) (dI y) && PyData.eqvAll (a.map dI) (b.map dI)) := by simp [PyData.eqvAll]
    rw [e, eqv_dI, ih]
    simp [List.cons.injEq]
theorem eqv_dR (a b : List (List Int)) : PyData.eqv (dR a) (dR b) = decide (a = b) := by
  have : PyData.eqv (dR a) (dR b) = PyData.eqvAll (a.map dI) (b.map dI) := by simp [dR, PyData.eqv]
  rw [this, eqvAll_rows]
theorem cut_from {xs : List V} {k : Nat} : cutV xs (some (k : Int)) none = xs.drop k := by
  have e1 : HT.sIx xs.length xs.length none = xs.length := rfl
  have e2 : HT.sIx xs.length 0 (some (k : Int)) = min k xs.length := HT.sIx_nat _ _ _
  unfold cutV
  rw [e1, e2]
  by_cases h : k ≤ xs.length
  · rw [Nat.min_eq_left h, List.take_of_length_le (by rw [List.length_drop]; omega)]
  · rw [Nat.min_eq_right (by omega), List.drop_of_length_le (Nat.le_refl _), List.drop_of_length_le (by omega), List.take_nil]
theorem cut_last {xs : List V} : cutV xs none (some (-1)) = xs.dropLast := by
  have e1 : HT.sIx xs.length 0 none = 0 := rfl
  have e2 : HT.sIx xs.length xs.length (some (-1)) = xs.length - 1 := by
    show (if (-1 : Int) < 0 then ((-1 : Int) + (xs.length : Int)).toNat else min (-1 : Int).toNat xs.length) = _
    rw [if_pos (by decide)]
    omega
  unfold cutV
  rw [e1, e2, List.drop_zero, Nat.sub_zero, List.dropLast_eq_take]
/-- three turned -/
def turn3 {α : Type} : List α → List α
  | [a, b, c] => [c, b, a]
  | l => l
theorem turn3_vals {zs : List V} {ws : List Value} (h : Vals zs ws) : Vals (turn3 zs) (turn3 ws) := by
  cases h with
  | nil => exact .nil
  | cons h1 h2 =>
    cases h2 with
    | nil => exact .cons h1 .nil
    | cons h3 h4 =>
      cases h4 with
      | nil => exact .cons h1 (.cons h3 .nil)
      | cons h5 h6 =>
        cases h6 with
        | nil => exact .cons h5 (.cons h3 (.cons h1 .nil))
        | cons h7 h8 => exact .cons h1 (.cons h3 (.cons h5 (.cons h7 h8)))
end UN

namespace UN
open PySem PySem.Spec PyProof.Rows L2
/-! sorted lists of tuples of ints (any number of ints, fewer than 64 tuples) -/
theorem perm_lift {α β : Type} (f : α → β) : ∀ {ks : List α} {l : List β}, l.Perm (ks.map f) → ∃ ks' : List α, ks'.Perm ks ∧ ks'.map f = l
  | [], l, h => ⟨[], List.Perm.refl _, by rw [List.map_nil] at h; rw [h.eq_nil]; rfl⟩
  | k :: ks, l, h => by
    have hm : f k ∈ l := h.mem_iff.mpr (by simp)
    obtain ⟨l1, l2, rfl⟩ := List.append_of_mem hm
    have h2 : (l1 ++ l2).Perm (ks.map f) := by
      have h3 : (f k :: (l1 ++ l2)).Perm (f k :: ks.map f) := (List.perm_middle.symm).trans h
      exact h3.cons_inv
    obtain ⟨ks', p, e⟩ := perm_lift f h2
    obtain ⟨a, b, rfl, e1, e2⟩ := List.map_eq_append_iff.mp e
    refine ⟨a ++ k :: b, List.perm_middle.trans (p.cons k), ?_⟩
    rw [List.map_append, List.map_cons, e1, e2]
def rSortedTL (K : PySem.W.Frag) : List V → Hp → VK → Prop := fun vs H Q => ∃ (a : Addr) (ks : List (Addr × List Int)) (d : Nat) (B : Int), vs = [V.ref a] ∧ SqL K H a (refs ks) ∧ (∀ p ∈ ks, SqT K H p.1 (iv p.2)) ∧ ks.length < 64 ∧ 1 ≤ d ∧ (∀ p ∈ ks, p.2.length = d ∧ TS.Bd B p.2) ∧
  ∀ (ks' : List (Addr × List Int)) (p : Addr), ks'.Perm ks → ks'.Pairwise (fun q r => TS.code B q.2 ≤ TS.code B r.2) → H p = none → Q (.ref p) (upd H p (.lst (refs ks')))
theorem vals_refs' {α : Type} : ∀ (ks : List (Addr × α)) {us : List Value}, Vals (refs ks) us → us = ks.map fun q => Value.ref q.1
  | [], _, h => by cases h; rfl
  | k :: r, _, h => by
    cases h with
    | cons h1 h2 =>
      cases h1
      rw [vals_refs' r h2]
      rfl
theorem refs_vals {α : Type} : ∀ ks : List (Addr × α), Vals (refs ks) (ks.map fun q => Value.ref q.1)
  | [] => .nil
  | _ :: r => .cons rfl (refs_vals r)
theorem cr_sortedTLK {X : Cx} (K : PySem.W.Frag) (hK : X.K = K) : CallR X (.builtin "sorted") (rSortedTL K) := by
  cases hK
  intro pins s σ H vs us Q J r h
  obtain ⟨a, ks, d, B, rfl, hs, hk, hf, hd, hB, q⟩ := h
  obtain ⟨its, rv, hl, hz⟩ := J.list hs
  obtain ⟨u, rfl, ru⟩ := vals1 r
  obtain rfl : u = Value.ref a := ru
  have e1 := vals_refs' ks rv
  subst e1
  have ti : ∀ p ∈ ks, TS.TupInts s.heap (.ref p.1) p.2 := fun p hp => tupInts_of (J.isT (hk p hp))
  refine TS.sorted_tups (d := d) (B := B) (vs := ks.map fun q => Value.ref q.1) hl.isList (by rw [List.length_map]; exact hf) hd (fun v hv => ?_) fun out h1 h2 => ?_
  · obtain ⟨p, hp, rfl⟩ := List.mem_map.mp hv
    exact ⟨p.2, ti p hp, (hB p hp).1, (hB p hp).2⟩
  · obtain ⟨ks', pm, e⟩ := perm_lift (fun q : Addr × List Int => Value.ref q.1) h1
    have pw : ks'.Pairwise (fun q r => TS.code B q.2 ≤ TS.code B r.2) := by
      rw [← e] at h2
      refine List.Pairwise.imp_of_mem (fun {x y} hx hy hle => ?_) (List.pairwise_map.mp h2)
      have f1 := (ti x (pm.mem_iff.mp hx)).ints
      have f2 := (ti y (pm.mem_iff.mp hy)).ints
      rw [← f1, ← f2]
      exact hle
    have hn : H (s.heap.objs.size + 1) = none := J.hok.fresh (Nat.le_succ _)
    have ho : out = (ks'.map fun q => Value.ref q.1).toArray := by rw [e]
    refine ⟨.ref (s.heap.objs.size + 1), upd H (s.heap.objs.size + 1) (.lst (refs ks')), J.laid (t' := s.toks) (fun b o e => sortedAll_old e) (Nat.le_succ _) ⟨?_, ks'.map fun q => Value.ref q.1, ?_⟩, rfl, q ks' _ pm pw hn⟩
    · rw [refs_len, pm.length_eq]
      exact Nat.le_of_lt (sl_line' (by omega))
    · obtain ⟨n, hn2⟩ := sortedAll_at s.heap (ks.map fun q => Value.ref q.1) out
      refine ⟨n, refs_vals ks', ?_⟩
      rw [← ho]
      exact hn2
/-- a comprehension over enumerate of a list that stays -/
theorem lc_enum {K : PySem.W.Frag} {a : Addr} {xs : List V} {g : TG} {tt : TT} {te : TE} {vs : List Nat} {σ : L2.St} {H1 : Hp} {D : Addr} {Qd : Hp → Prop} (Pv : Nat → Hp → Prop) (h0 : Pv 0 (upd H1 D (.lst []))) (hl : ∀ i H, Pv i H → SqL K H a xs)
    (hs : ∀ i x H T, xs[i]? = some x → Pv i H → H T = none → g (.ref T) (wipe σ vs) (upd H T (.tup [.int (i : Nat), x])) fun σ2 H2 => wipe σ2 vs = wipe σ vs ∧ tt σ2 H2 fun b H3 =>
      if b = true then te σ2 H3 fun y H4 => ∃ acc, H4 D = some (.lst acc) ∧ acc.length < sizeLine ∧ Pv (i + 1) (upd H4 D (.lst (acc ++ [y]))) else Pv (i + 1) H3) (hd : ∀ H, Pv xs.length H → Qd H) :
    ∃ W : Nat → Nat → Hp → Prop, (∃ m, W 0 m (upd H1 D (.lst []))) ∧ ∀ i m H, W i m H →
      ((Ite K a).stop i H ∧ Qd H) ∨ ((Ite K a).go i H ∧ ∃ Nx : Hp → Prop, (∀ H', Nx H' → ∃ m', m' < m ∧ W (i + 1) m' H') ∧ ∀ x H', (Ite K a).yld i H x H' → g x (wipe σ vs) H' fun σ2 H2 => wipe σ2 vs = wipe σ vs ∧ tt σ2 H2 fun b H3 =>
        if b = true then te σ2 H3 fun y H4 => ∃ acc, H4 D = some (.lst acc) ∧ acc.length < sizeLine ∧ Nx (upd H4 D (.lst (acc ++ [y]))) else Nx H3) := by
  refine lc_n xs.length Pv h0 (fun i H hi p => ?_) fun H p => ⟨⟨xs, hl _ _ p, Nat.le_refl _⟩, hd _ p⟩
  have q := hl _ _ p
  refine ⟨⟨xs, xs[i], q, by simp [hi]⟩, ?_⟩
  rintro x H' ⟨T, y, rfl, nT, rfl, f⟩
  exact hs i y H T (f xs q) p nT
end UN

namespace UN
open PySem PySem.Spec PyProof.Rows L2
/-! sum of a list of lists, from an empty list -/
theorem args_sum2U (a b : Value) : argsOk "sum" ⟨[a, b], []⟩ := by unfold argsOk; kernel_rfl
theorem sub_lsU : isSubtype (.type "list") (.type "str") = pure false := by rw [isSubtype_type]; kernel_rfl
theorem sub_lbU : isSubtype (.type "list") (.type "bytes") = pure false := by rw [isSubtype_type]; kernel_rfl
theorem sub_lyU : isSubtype (.type "list") (.type "bytearray") = pure false := by rw [isSubtype_type]; kernel_rfl
def flatK {α : Type} (rv : Nat → List α) (i : Nat) : Nat → List α
  | 0 => []
  | k + 1 => rv i ++ flatK rv (i + 1) k
section
variable {prog : Program} {w : World} {A : Around} {R : Result → Shared → Prop} {I ax S : Addr} {items : Array Value}
theorem sum_loopL (hh : A.in1.handled = none) (hne : ax ≠ I) (ra : Nat → Addr) (rv : Nat → List Value) (hval : ∀ (i : Nat) (v : Value), items[i]? = some v → v = .ref (ra i)) (hSI : S ≠ I) (hSa : S ≠ ax) :
    ∀ (k i : Nat) (s : Shared) (T : Addr) (cur : List Value) (m c : Nat), items.size - i = k → i ≤ items.size → s.heap.IsListIter I ax i → s.heap.IsList ax items →
      s.heap.get? S = some { cls := .type "list", dict := none, data := .seq #[.ref T] c, slots := #[] } →
      s.heap.get? T = some { cls := .type "list", data := .seq cur.toArray m } → T ≠ I → T ≠ S →
      (∀ j, i ≤ j → j < items.size → ra j ≠ I ∧ ra j ≠ S ∧ ∃ m, s.heap.get? (ra j) = some { cls := .type "list", data := .seq (rv j).toArray m }) →
      cur.length + (flatK rv i k).length ≤ sizeLine →
      (∀ h' tk T' m', (∀ b o, b ≠ I → b ≠ S → s.heap.get? b = some o → h'.get? b = some o) → T' ≠ I → T' ≠ S → ((i = items.size ∧ T' = T) ∨ (i < items.size ∧ s.heap.get? T' = none)) →
        h'.get? T' = some { cls := .type "list", data := .seq (cur ++ flatK rv i k).toArray m' } → R (.ok (.ret (.ref T'))) { s with heap := h', toks := tk }) →
      codeAny (model prog w) A (.builtin "sum.loop" ⟨[.ref I, .ref S, rawInt 2, rawInt 0], []⟩) R s := by
  have W := Walks.list (prog := prog) (w := w) (A := A.in1) hh I ax hne items
  intro k
  induction k with
  | zero =>
    intro i s T cur m c hk hi hit hax hS hT hTI hTS hrow hz hR
    have hin : i = items.size := by omega
    subst hin
    refine codeAny_builtin F.entry_sum_loop ?_
    rw [Around.under_plainId F.plain_sum_loop _]
    show wpAny _ A.in1 (seqItems? (.ref S) >>= _) _ _ s
    refine wpAny_bind (wpAny_seqItems hS rfl ?_)
    show wpAny _ A.in1 (tryCatch (pyNext (.ref I)) _ >>= _) _ _ s
    refine wpAny_bind (wpAny_tryCatch (W.done s _ _ ⟨hit, hax⟩ fun h' tk hk' => ?_))
    refine wpAny_pure (hR h' tk T m (fun b o hb1 _ e => hk' b o (by simp [hb1]) e) hTI hTS (.inl ⟨rfl, rfl⟩) ?_)
    have e := hk' T _ (by simp [hTI]) hT
    simpa [flatK] using e
  | succ k ih =>
    intro i s T cur m c hk hi hit hax hS hT hTI hTS hrow hz hR
    have hlt : i < items.size := by omega
    refine codeAny_builtin F.entry_sum_loop ?_
    rw [Around.under_plainId F.plain_sum_loop _]
    show wpAny _ A.in1 (seqItems? (.ref S) >>= _) _ _ s
    refine wpAny_bind (wpAny_seqItems hS rfl ?_)
    show wpAny _ A.in1 (tryCatch (pyNext (.ref I)) _ >>= _) _ _ s
    refine wpAny_bind (wpAny_tryCatch (W.item i s _ _ hlt ⟨hit, hax⟩ fun v h' tk hP hst' hk' => ?_))
    have ev := hval i v hP
    subst ev
    obtain ⟨hrI, hrS, m2, hr⟩ := hrow i (Nat.le_refl _) hlt
    have kept : ∀ b o, b ≠ I → s.heap.get? b = some o → h'.get? b = some o := fun b o hb e => hk' b o (by simp [hb]) e
    have hS' := kept S _ hSI hS
    have hT' := kept T _ hTI hT
    have hr' := kept (ra i) _ hrI hr
    simp only [flatK, List.length_append] at hz
    show wpAny _ A.in1 ((holding [Value.ref (ra i)] (binaryOp .Add (.ref T) (.ref (ra i)))).attempt >>= _) _ _ _
    refine wpAny_bind (wpAny_attempt (wpAny_holding (PySem.P.add_list hT' hr' ?_ (by rw [List.size_toArray, List.size_toArray]; omega))))
    have np : h'.get? h'.objs.size = none := by
      cases q : h'.get? h'.objs.size with
      | none => rfl
      | some o => exact absurd (Heap.lt_size q) (Nat.lt_irrefl _)
    obtain ⟨hit', hax'⟩ := hst'
    have npI : h'.objs.size ≠ I := fun e => by
      obtain ⟨o, ho, _⟩ := hit'
      rw [← e, np] at ho
      cases ho
    have npS : h'.objs.size ≠ S := fun e => by rw [← e, np] at hS'; cases hS'
    have hS1 := Heap.get?_push_of_some { cls := .type "list", data := .seq (cur.toArray ++ (rv i).toArray) } hS'
    show wpAny _ A.in1 (updateSeq S (fun _ => #[.ref h'.objs.size]) >>= _) _ _ _
    refine wpAny_bind ?_
    refine wpAny_updateSeq hS1 rfl ?_
    have hS2 := Heap.get?_update_self (Obj.mapSeq fun _ => #[Value.ref h'.objs.size]) hS1 rfl
    refine wpAny_bind (wpAny_letGo ?_)
    refine wpAny_bind ?_
    refine wpAny_updateSeq hS2 rfl (wpAny_pure ⟨plainId_quiet F.plain_sum_loop _, ?_⟩)
    have up : ∀ b o, b ≠ S → h'.get? b = some o → (((h'.push { cls := .type "list", data := .seq (cur.toArray ++ (rv i).toArray) }).update S (Obj.mapSeq fun _ => #[Value.ref h'.objs.size])).update S (Obj.mapSeq fun _ => #[Value.ref h'.objs.size])).get? b = some o := fun b o hb e =>
      (Heap.get?_update_other _ _ (Ne.symm hb)).trans ((Heap.get?_update_other _ _ (Ne.symm hb)).trans (Heap.get?_push_of_some _ e))
    refine ih (i + 1) _ h'.objs.size (cur ++ rv i) 0 _ (by omega) hlt ?_ ?_ (Heap.get?_update_self _ hS2 rfl) ?_ npI npS ?_ ?_ ?_
    · exact hit'.at fun o e => up I o hSI.symm e
    · exact hax'.at fun o e => up ax o hSa.symm e
    · refine ((Heap.get?_update_other _ _ (Ne.symm npS)).trans ((Heap.get?_update_other _ _ (Ne.symm npS)).trans (Heap.get?_push_size _ rfl))).trans ?_
      simp
    · intro j hj hj2
      obtain ⟨a1, a2, m3, a3⟩ := hrow j (by omega) hj2
      exact ⟨a1, a2, m3, up _ _ a2 (kept _ _ a1 a3)⟩
    · rw [List.length_append]; omega
    · intro h'' tk'' T' m' hk'' tI tS hfr hg
      refine hR h'' tk'' T' m' (fun b o hb1 hb2 e => hk'' b o hb1 hb2 (up b o hb2 (kept b o hb1 e))) tI tS (.inr ⟨hlt, ?_⟩) (by simpa [flatK] using hg)
      cases q : s.heap.get? T' with
      | none => rfl
      | some o =>
        have q1 := kept T' o tI q
        have q2 := up T' o tS q1
        rcases hfr with ⟨_, e⟩ | ⟨_, e⟩
        · rw [e, np] at q1; cases q1
        · rw [e] at q2; cases q2
end
section
variable {prog : Program} {w : World} {A : Around} {E : Value → Shared → Prop} {s : Shared} {l e : Addr} {items : Array Value}
theorem call_sumL {Q : Value → Shared → Prop} {m0 : Nat} (hh : A.handled = none) (hl : s.heap.IsList l items) (he : s.heap.get? e = some { cls := .type "list", data := .seq #[] m0 })
    (ra : Nat → Addr) (rv : Nat → List Value) (hval : ∀ (i : Nat) (v : Value), items[i]? = some v → v = .ref (ra i)) (hrow : ∀ j, j < items.size → ∃ m, s.heap.get? (ra j) = some { cls := .type "list", data := .seq (rv j).toArray m })
    (hz : (flatK rv 0 items.size).length ≤ sizeLine)
    (h : ∀ h' tk T' m', (∀ b o, s.heap.get? b = some o → h'.get? b = some o) → ((items.size = 0 ∧ T' = e) ∨ (0 < items.size ∧ s.heap.get? T' = none)) →
      h'.get? T' = some { cls := .type "list", data := .seq (flatK rv 0 items.size).toArray m' } → Q (.ref T') { s with heap := h', toks := tk }) :
    wpAny (model prog w) A (call (.builtin "sum") [.ref l, .ref e]) Q E s := by
  refine call_function_tree F.kind_sum F.plain_sum F.entry_sum (args_sum2U _ _) ?_
  unfold Builtin.«sum»
  simp only [List.length_cons, List.length_nil]
  rw [if_neg (by decide)]
  refine wpAny_bind (wpAny_of_eq (show Builtin.Builtins.bindParams "sum" ["start"] 0 ⟨[.ref e], []⟩ = pure [some (.ref e)] from rfl) ?_)
  have hlt : l < s.heap.objs.size := by obtain ⟨_, q, _⟩ := hl; exact Heap.lt_size q
  have elt : e < s.heap.objs.size := Heap.lt_size he
  refine wpAny_bind (wpAny_pyIter_list hl ?_)
  refine wpAny_bind (wpAny_pure ?_)
  simp only [List.forIn_cons, List.forIn_nil]
  have he1 := Heap.get?_push_of_some { cls := .type "list_iterator", data := .fields #[.ref l, .int 0 0] } he
  have ty : ({ s with heap := s.heap.push { cls := .type "list_iterator", data := .fields #[.ref l, .int 0 0] } } : Shared).TypeIs (.ref e) "list" := ⟨_, he1, rfl⟩
  refine wpAny_bind (wpAny_bind (wpAny_bind (wpAny_isInstance (T := "list") (b := false) ty sub_lsU ?_)))
  simp only [Bool.false_eq_true, if_false]
  refine wpAny_pure (wpAny_bind (wpAny_bind (wpAny_isInstance (T := "list") (b := false) ty sub_lbU ?_)))
  simp only [Bool.false_eq_true, if_false]
  refine wpAny_pure (wpAny_bind (wpAny_bind (wpAny_isInstance (T := "list") (b := false) ty sub_lyU ?_)))
  simp only [Bool.false_eq_true, if_false]
  refine wpAny_pure (wpAny_pure ?_)
  refine wpAny_bind (wpAny_newObj_type ?_)
  have sz : (s.heap.push { cls := .type "list_iterator", data := .fields #[.ref l, .int 0 0] }).objs.size = s.heap.objs.size + 1 := Heap.size_push ..
  have up : ∀ b o, s.heap.get? b = some o → ((s.heap.push { cls := .type "list_iterator", data := .fields #[.ref l, .int 0 0] }).push { cls := .type "list", data := .seq #[.ref e] }).get? b = some o := fun b o q => Heap.get?_push_of_some _ (Heap.get?_push_of_some _ q)
  have nI : s.heap.get? s.heap.objs.size = none := by
    cases q : s.heap.get? s.heap.objs.size with
    | none => rfl
    | some o => exact absurd (Heap.lt_size q) (Nat.lt_irrefl _)
  have nS : s.heap.get? (s.heap.push { cls := .type "list_iterator", data := .fields #[.ref l, .int 0 0] }).objs.size = none := by
    cases q : s.heap.get? (s.heap.push { cls := .type "list_iterator", data := .fields #[.ref l, .int 0 0] }).objs.size with
    | none => rfl
    | some o => exact absurd (Nat.lt_of_lt_of_le (Nat.lt_succ_self _) (Nat.le_of_lt (sz ▸ Heap.lt_size q))) (Nat.lt_irrefl _)
  have neI : ∀ b o, s.heap.get? b = some o → b ≠ s.heap.objs.size := fun b o q z => by rw [z, nI] at q; cases q
  have neS : ∀ b o, s.heap.get? b = some o → b ≠ (s.heap.push { cls := .type "list_iterator", data := .fields #[.ref l, .int 0 0] }).objs.size := fun b o q z => by rw [z, nS] at q; cases q
  refine wpAny_pure ⟨plainId_quiet F.plain_sum_loop _, sum_loopL (I := s.heap.objs.size) (ax := l) (items := items) hh (Nat.ne_of_lt hlt) ra rv hval (fun z => Nat.succ_ne_self _ (sz.symm.trans z)) (fun z => by obtain ⟨_, q, _⟩ := hl; exact neS _ _ q z.symm) items.size 0 _ e [] m0 0 rfl (Nat.zero_le _)
    ⟨_, Heap.get?_push_of_some _ (Heap.get?_push_size _ rfl), rfl, rfl⟩ ?_ (Heap.get?_push_size _ rfl) (up e _ he) (neI e _ he) (neS e _ he) ?_ (by simpa using hz) ?_⟩
  · exact hl.at fun o q => up l o q
  · intro j _ hj
    obtain ⟨m, q⟩ := hrow j hj
    exact ⟨neI _ _ q, neS _ _ q, m, up _ _ q⟩
  · intro h' tk T' m' hk tI tS hfr hg
    refine h h' tk T' m' (fun b o q => hk b o (neI b o q) (neS b o q) (up b o q)) ?_ (by simpa using hg)
    rcases hfr with ⟨a, b⟩ | ⟨a, b⟩
    · exact .inl ⟨a.symm, b⟩
    · refine .inr ⟨a, ?_⟩
      cases q : s.heap.get? T' with
      | none => rfl
      | some o => rw [up T' o q] at b; cases b
end
theorem flatK_eq {α : Type} (rs : List (List α)) : ∀ (i : Nat) (k : Nat), i + k = rs.length → flatK (fun j => rs.getD j []) i k = (rs.drop i).flatten
  | i, 0, h => by rw [List.drop_of_length_le (by omega)]; rfl
  | i, k + 1, h => by
    have hi : i < rs.length := by omega
    rw [List.drop_eq_getElem_cons hi, List.flatten_cons]
    show rs.getD i [] ++ flatK _ (i + 1) k = _
    rw [flatK_eq rs (i + 1) k (by omega)]
    simp [List.getD_eq_getElem?_getD, List.getElem?_eq_getElem hi]
/-- sum(rows, []): the rows' own lists stand in the heap -/
def rSumL (K : PySem.W.Frag) : List V → Hp → VK → Prop := fun vs H Q => ∃ (a e : Addr) (rs : List (Addr × List V)), vs = [.ref a, .ref e] ∧ SqL K H a (refs rs) ∧ (∀ r ∈ rs, H r.1 = some (.lst r.2)) ∧ H e = some (.lst []) ∧ (vals rs).flatten.length ≤ sizeLine ∧
  (rs = [] → Q (.ref e) H) ∧ (rs ≠ [] → ∀ p, H p = none → Q (.ref p) (upd H p (.lst (vals rs).flatten)))
theorem cr_sumLK {X : Cx} (K : PySem.W.Frag) (hK : X.K = K) (hc : X.calm = true) : CallR X (.builtin "sum") (rSumL K) := by
  cases hK
  intro pins s σ H vs us Q J r h
  obtain ⟨a, e, rs, rfl, hs, hr, he, hz, q0, q1⟩ := h
  obtain ⟨its, rv, hl, hlen⟩ := J.list hs
  obtain rfl : us = [.ref a, .ref e] := by
    cases r with
    | cons h1 h2 =>
      cases h1
      cases h2 with
      | cons h3 h4 => cases h3; cases h4; rfl
  have e1 := vals_refs' rs rv
  subst e1
  obtain ⟨_, ite, ne, re, eln, ge⟩ := J.lstM he
  obtain rfl : ite = [] := List.eq_nil_of_length_eq_zero (by rw [← eln]; rfl)
  have rows : ∀ r ∈ rs, ∃ (its : List Value) (n : Nat), Vals r.2 its ∧ s.heap.get? r.1 = some { cls := .type "list", data := .seq its.toArray n } := fun r hr' => by
    obtain ⟨_, its, n, h1, _, h2⟩ := J.lstM (hr r hr')
    exact ⟨its, n, h1, h2⟩
  -- the rows' values, one by one
  have ch : ∃ vv : List (List Value), vv.length = rs.length ∧ ∀ (j : Nat) (q : Addr × List V), rs[j]? = some q → ∃ (its : List Value) (n : Nat), vv[j]? = some its ∧ Vals q.2 its ∧ s.heap.get? q.1 = some { cls := .type "list", data := .seq its.toArray n } := by
    clear hs hl rv hz q0 q1 hlen
    induction rs with
    | nil => exact ⟨[], rfl, fun j q h => by simp at h⟩
    | cons r t ih =>
      obtain ⟨vv, h1, h2⟩ := ih (fun x hx => hr x (List.mem_cons_of_mem _ hx)) (fun x hx => rows x (List.mem_cons_of_mem _ hx))
      obtain ⟨its, n, g1, g2⟩ := rows r List.mem_cons_self
      refine ⟨its :: vv, by simp [h1], fun j q hj => ?_⟩
      cases j with
      | zero => cases hj; exact ⟨its, n, rfl, g1, g2⟩
      | succ j => exact h2 j q hj
  obtain ⟨vv, vl, vq⟩ := ch
  have fl : Vals (vals rs).flatten vv.flatten := by
    clear hs hl rv hz q0 q1 hlen hr rows
    induction rs generalizing vv with
    | nil => cases vv with
      | nil => exact .nil
      | cons x y => cases vl
    | cons r t ih =>
      cases vv with
      | nil => cases vl
      | cons x y =>
        obtain ⟨its, n, a1, a2, _⟩ := vq 0 r rfl
        cases a1
        exact a2.append (ih y (by simpa using vl) fun j q hj => vq (j + 1) q hj)
  have isz : ((rs.map fun q => Value.ref q.1).toArray).size = rs.length := by simp
  have fK : flatK (fun j => vv.getD j []) 0 ((rs.map fun q => Value.ref q.1).toArray).size = vv.flatten := by
    rw [isz, flatK_eq vv 0 rs.length (by omega)]; rfl
  refine call_sumL (J.ok.hd hc) hl.isList ge (fun j => (rs.getD j (0, [])).1) (fun j => vv.getD j []) (fun i v hv => ?_) (fun j hj => ?_) (by rw [fK, ← fl.length]; exact hz) fun h' tk T' m' hk hfr hg => ?_
  · simp only [List.getElem?_toArray, List.getElem?_map, Option.map_eq_some_iff] at hv
    obtain ⟨q, hq, rfl⟩ := hv
    simp [List.getD_eq_getElem?_getD, hq]
  · rw [isz] at hj
    obtain ⟨its, n, b1, _, b2⟩ := vq j _ (List.getElem?_eq_getElem hj)
    refine ⟨n, ?_⟩
    simp only [List.getD_eq_getElem?_getD, List.getElem?_eq_getElem hj, b1, Option.getD_some]
    exact b2
  · rw [isz] at hfr
    rw [fK] at hg
    rcases hfr with ⟨z, rfl⟩ | ⟨z, hn⟩
    · obtain rfl : rs = [] := List.eq_nil_of_length_eq_zero z
      exact ⟨.ref _, H, J.kept (t' := tk) hk, rfl, q0 rfl⟩
    · have hn2 : H T' = none := J.hok.gone hn
      refine ⟨.ref T', upd H T' (.lst (vals rs).flatten), J.laidN (t' := tk) hk hn hn2 ⟨hz, vv.flatten, m', fl, hg⟩, rfl, q1 (fun e => by subst e; cases z) T' hn2⟩
theorem pi_zipK {X : Cx} (K : PySem.W.Frag) (hK : X.K = K) {e e2 : Expr} {ta : TA} {p pos tpos : Pos} {elts : List Expr} {kk : Nat} (hg : Gl X "zip") (hm : X.mg "zip" = none) (ha : PA X [e, e2] ta)
    (hs : starEach [e, e2] X.env = (false, eval e X.env) :: starEach [e2] X.env := by rfl) (hpl : (backTo pos (starEach [e2] X.env)).any (·.1) = false := by rfl) :
    PI X (.Tuple elts kk tpos) (.Call (.Name "zip" p) [e, e2] [] pos) (iZip K ta) := hK ▸ pi_zip hg hm ha hs hpl
theorem mt_indexDK {X : Cx} (K : PySem.W.Frag) (hK : X.K = K) (hu : X.A.units + 65 < cLine) : MtR X "list.index" (rIndexD K) := hK ▸ mt_indexD hu
theorem pe_lenSetIK {X : Cx} (K : PySem.W.Frag) (hK : X.K = K) {a : Expr} {ta : TE} {p p2 q pos : Pos} (hc : X.calm = true) (hg : Gl X "len") (hm : X.mg "len" = none) (hg2 : Gl X "set") (hm2 : X.mg "set" = none) (ha : PE X a ta)
    (na : starEach [a] X.env = (false, eval a X.env) :: starEach [] X.env := by rfl) : PE X (.Call (.Name "len" p) [.Call (.Name "set" p2) [a] [] q] [] pos) (tLenSetI K ta) := hK ▸ pe_lenSetI hc hg hm hg2 hm2 ha na
/-- what stood stands beside a new object -/
theorem sA {H : Hp} {p : Addr} {o : HO} (hp : H p = none) : Same H (upd H p o) := ((Loc.refl H).alloc hp).same
end UN

namespace UN
open PySem PySem.Spec PyProof.Rows L2
/-! own classes: objects made, their properties, signs, methods, classmethods; promises that ask no guards -/
/-- a def at an address, how it binds what is handed to it -/
structure FnG (P : Program) (w : World) (K : PySem.W.Frag) (mg : Str → Option Value) (base : Heap) (k : Nat) (f : Addr) (ps : List Str) (sp : Sp) : Prop where
  ex : ∃ fd : FuncData, FG P w K mg base CX0 k f fd ps sp ∧ ∀ (s : Shared) (us : List Value), us.length = ps.length → BindsTo s fd ⟨us, []⟩ (ps.zip us)
/-- .. with keywords behind pre positional ones -/
structure FnGK (P : Program) (w : World) (K : PySem.W.Frag) (mg : Str → Option Value) (base : Heap) (k : Nat) (f : Addr) (ps : List Str) (pre : Nat) (ks : List Str) (g : List Value → List Value) (gV : List V → List V) (sp : Sp) : Prop where
  ex : ∃ fd : FuncData, FG P w K mg base CX0 k f fd ps sp ∧ ∀ (s : Shared) (us ws : List Value), us.length = pre → ws.length = ks.length → BindsTo s fd ⟨us, ks.zip ws⟩ (ps.zip (us ++ g ws))
  vals : ∀ {zs : List V} {ws : List Value}, Vals zs ws → Vals (gV zs) (g ws)
section
variable {P : Program} {w : World} {K : PySem.W.Frag} {mg : Str → Option Value} {base : Heap} {j k : Nat} {f : Addr} {ps ks : List Str} {sp : Sp}
theorem FnG.mono (F : FnG P w K mg base j f ps sp) (h : j ≤ k) : FnG P w K mg base k f ps sp := by
  obtain ⟨fd, F1, b⟩ := F.ex
  exact ⟨⟨fd, F1.mono h, b⟩⟩
theorem FnGK.mono {pre : Nat} {g : List Value → List Value} {gV : List V → List V} (F : FnGK P w K mg base j f ps pre ks g gV sp) (h : j ≤ k) : FnGK P w K mg base k f ps pre ks g gV sp := by
  obtain ⟨fd, F1, b⟩ := F.ex
  exact ⟨⟨fd, F1.mono h, b⟩, F.vals⟩
end
section
variable {X : Cx} {pins : List (Addr × Obj)} {σ : L2.St} {H : Hp} {s : Shared} {Q : VK} {k : Nat} {f C : Addr} {fd : FuncData} {ps ks : List Str} {sp : Sp} {us : List Value} {vs : List V}
/-- the callee runs below a running body -/
theorem run_FG {A : Around} {a : Args} (F : FG X.prog X.w X.K X.mg X.base CX0 k f fd ps sp) (hr : Room k A) (hg : A.guards = some []) (e0 : Env0 X.prog X.w X.K X.mg X.base A X.stack s H) (J : Inv X pins σ H s)
    (hb : BindsTo s fd a (ps.zip us)) (r : Vals vs us) (h : sp vs H Q E0) :
    codeAny (model X.prog X.w) A (.call (.ref f) a) (fun r s' => match r with | .ok (.ret u) => EP X pins σ Q u s' | .ok _ => False | .error e => X.xe e s') s :=
  codeAny_mono (F.go A X.stack s H a us vs Q E0 hr hg e0 hb r h) (fg_end J)
theorem run_FnG {A : Around} (F : FnG X.prog X.w X.K X.mg X.base k f ps sp) (hr : Room k A) (hg : A.guards = some []) (e0 : Env0 X.prog X.w X.K X.mg X.base A X.stack s H) (J : Inv X pins σ H s) (r : Vals vs us) (h : sp vs H Q E0) :
    codeAny (model X.prog X.w) A (.call (.ref f) ⟨us, []⟩) (fun r s' => match r with | .ok (.ret u) => EP X pins σ Q u s' | .ok _ => False | .error e => X.xe e s') s := by
  obtain ⟨fd, F1, b⟩ := F.ex
  exact run_FG F1 hr hg e0 J (b s us (by rw [← r.length]; exact F1.many _ _ _ _ h)) r h
theorem call_FnG {A : Around} (F : FnG X.prog X.w X.K X.mg X.base k f ps sp) (hr : Room k A) (hg : A.guards = some []) (e0 : Env0 X.prog X.w X.K X.mg X.base A X.stack s H) (J : Inv X pins σ H s) (r : Vals vs us) (h : sp vs H Q E0) :
    wpAny (model X.prog X.w) A (call (.ref f) us) (EP X pins σ Q) X.xe s := wpAny_call (run_FnG F hr hg e0 J r h)
theorem guards_in1 {A : Around} (h : A.guards = some []) : A.in1.guards = some [] := h
theorem guards_make {A : Around} {C : Addr} {us : List Value} {kw : List (Str × Value)} (h : A.guards = some []) : (A.under (.builtin "type.__call__" ⟨.ref C :: us, kw⟩)).guards = some [] := by
  have e : Code.isGuard (.builtin "type.__call__" ⟨.ref C :: us, kw⟩) = false := by rfl
  simp [Around.under, h, Code.guards, pushGuards, e]
end

theorem valsR {a : Addr} {vs : List V} {us : List Value} (h : Vals vs us) : Vals (.ref a :: vs) (.ref a :: us) := .cons rfl h
section
variable {X : Cx} {pins : List (Addr × Obj)} {σ : L2.St} {H : Hp} {s : Shared} {Q : VK} {k : Nat} {f C p g a b dx : Addr} {fd : FuncData} {ps ks : List Str} {sp : Sp} {us ws : List Value} {vs zs : List V} {fs : List (Str × V)} {x m : Str} {e o : Expr} {es : List Expr} {ta : TE} {t : TA} {pos apos np : Pos} {mc : Value}
theorem make_end (J : Inv X pins σ (upd (upd H s.heap.objs.size (.own (s.heap.objs.size + 1))) (s.heap.objs.size + 1) (.ins C s.heap.objs.size [])) { s with heap := (s.heap.push PySem.W.emptyDict).push (PySem.W.instObj C s.heap.objs.size) })
    {us ws : List Value} {kw : List (Str × Value)} (F : FG X.prog X.w X.K X.mg X.base CX0 k f fd ps sp) (hr : Room (k + 1) X.A) (hg : X.A.guards = some []) (M : Mk X.K C f) (kin : X.K.In s.heap)
    (hb : BindsTo { s with heap := (s.heap.push PySem.W.emptyDict).push (PySem.W.instObj C s.heap.objs.size) } fd ⟨.ref (s.heap.objs.size + 1) :: us, kw⟩ (ps.zip (.ref (s.heap.objs.size + 1) :: ws))) (r : Vals vs ws)
    (h : sp (.ref (s.heap.objs.size + 1) :: vs) (upd (upd H s.heap.objs.size (.own (s.heap.objs.size + 1))) (s.heap.objs.size + 1) (.ins C s.heap.objs.size [])) (fun v H2 => v = .non ∧ Q (.ref (s.heap.objs.size + 1)) H2) E0) :
    wpAny (model X.prog X.w) X.A (call (.ref C) us kw) (EP X pins σ Q) X.xe s := by
  refine wpAny_call (make_map (f := f) kin M.makes M.init (beq_iff_eq.mp M.fn) (codeAny_mono (run_FG F (hr.make C us kw) (guards_make hg) (J.env0.make C us kw) J hb (valsR r) h) fun r s' hq' => ?_))
  cases r with
  | error e => exact hq'
  | ok fl =>
    cases fl with
    | ret u =>
      obtain ⟨v, H', I3, rv, ev, q3⟩ := hq'
      subst ev
      exact ⟨rv, ⟨V.ref (s.heap.objs.size + 1), H', I3, rfl, q3⟩⟩
    | next => exact False.elim hq'
    | brk => exact False.elim hq'
    | cont => exact False.elim hq'
def spMake (C : Addr) (sp : Sp) (vs : List V) (H1 : Hp) (Q : VK) : Prop := ∀ x dx, H1 x = none → H1 dx = none → dx ≠ x → sp (.ref x :: vs) (upd (upd H1 dx (.own x)) x (.ins C dx [])) (fun v H2 => v = .non ∧ Q (.ref x) H2) E0
theorem spMake.use (I : Inv X pins σ H s) (h : spMake C sp vs H Q) : sp (.ref (s.heap.objs.size + 1) :: vs) (upd (upd H s.heap.objs.size (.own (s.heap.objs.size + 1))) (s.heap.objs.size + 1) (.ins C s.heap.objs.size [])) (fun v H2 => v = .non ∧ Q (.ref (s.heap.objs.size + 1)) H2) E0 :=
  h (s.heap.objs.size + 1) s.heap.objs.size (I.hok.fresh (Nat.le_succ _)) (I.hok.fresh (Nat.le_refl _)) (Nat.ne_of_lt (Nat.lt_succ_self _))
theorem run_makeG (M : Mk X.K C f) (F : FnG X.prog X.w X.K X.mg X.base k f ps sp) (hr : Room (k + 1) X.A) (hg : X.A.guards = some []) (I : Inv X pins σ H s) (r : Vals vs us) (h : spMake C sp vs H Q) :
    wpAny (model X.prog X.w) X.A (call (.ref C) us) (EP X pins σ Q) X.xe s := by
  obtain ⟨fd, F1, b⟩ := F.ex
  have hq := h.use I
  refine make_end (Inv.made (C := C) I) F1 hr hg M I.kIn (b _ _ ?_) r hq
  have := F1.many _ _ _ _ hq
  rw [List.length_cons] at this ⊢
  rw [← this, r.length]
theorem run_makeGK {gg : List Value → List Value} {gV : List V → List V} (M : Mk X.K C f) (F : FnGK X.prog X.w X.K X.mg X.base k f ps 1 ks gg gV sp) (hr : Room (k + 1) X.A) (hg : X.A.guards = some []) (I : Inv X pins σ H s) (r : Vals zs ws) (hl : zs.length = ks.length) (h : spMake C sp (gV zs) H Q) :
    wpAny (model X.prog X.w) X.A (call (.ref C) [] (ks.zip ws)) (EP X pins σ Q) X.xe s := by
  obtain ⟨fd, F1, b⟩ := F.ex
  have hq := h.use I
  exact make_end (Inv.made (C := C) I) F1 hr hg M I.kIn (b _ [_] ws rfl (by rw [← r.length]; exact hl)) (F.vals r) hq
def tMakeG (C : Addr) (sp : Sp) (t : TA) : TE := fun σ H Q => t σ H fun vs H1 => spMake C sp vs H1 Q
def tMakeGK (C : Addr) (n : Nat) (gV : List V → List V) (sp : Sp) (t : TA) : TE := fun σ H Q => t σ H fun zs H1 => zs.length = n ∧ spMake C sp (gV zs) H1 Q
/-- C(e, ..) -/
theorem pe_makeG (M : Mk X.K C f) (F : FnG X.prog X.w X.K X.mg X.base k f ps sp) {j : Nat} (hr : Room j X.A) (hk : k + 1 ≤ j) (hg : X.A.guards = some []) (gl : Gl X x) (hm : X.mg x = some (.ref C)) (ha : PA X (e :: es) t)
    (hdb : (x == ("__debug__" : Str)) = false := by decide) (he : starEach (e :: es) X.env = (false, eval e X.env) :: starEach es X.env := by rfl) (hpl : (backTo pos (starEach es X.env)).any (·.1) = false := by rfl) :
    PE X (.Call (.Name x np) (e :: es) [] pos) (tMakeG C sp t) := by
  refine ⟨fun pins s σ H Q I h => ?_⟩
  refine wpAny_Call_Name_kw (ld_glob I gl hm ?_ hdb)
  refine PySem.W.callWith_K (h₀ := X.base) I.ok.mod.kin M.kp (thn (ha.run pos pins s σ H _ I h) fun us s1 ⟨vs, H1, I1, r, q⟩ => ⟨I1.kIn, ?_⟩) he hpl
  exact run_makeG M F (hr.mono hk) hg I1 r q
/-- C(k = e, ..) -/
theorem pe_makeGK {kws : List Keyword} {gg : List Value → List Value} {gV : List V → List V} (M : Mk X.K C f) (F : FnGK X.prog X.w X.K X.mg X.base k f ps 1 ks gg gV sp) {j : Nat} (hr : Room j X.A) (hk : k + 1 ≤ j) (hg : X.A.guards = some []) (gl : Gl X x) (hm : X.mg x = some (.ref C))
    (hkw : PK X kws t) (hall : (backToKw pos (keywordEach kws X.env)).all (·.1.isSome) = true := by rfl) (hks : (backToKw pos (keywordEach kws X.env)).filterMap (·.1) = ks := by rfl)
    (hdb : (x == ("__debug__" : Str)) = false := by decide) (hpl : ((backTo pos (starEach [] X.env)).any (·.1) || (backToKw pos (keywordEach kws X.env)).any (·.1.isNone)) = false := by rfl) :
    PE X (.Call (.Name x np) [] kws pos) (tMakeGK C ks.length gV sp t) := by
  refine ⟨fun pins s σ H Q I h => ?_⟩
  refine wpAny_Call_Name_kw (ld_glob I gl hm ?_ hdb)
  refine PySem.W.callWith_KW0 (h₀ := X.base) I.ok.mod.kin M.kp hall (thn (hkw.run pos pins s σ H _ I h) fun ws s1 ⟨zs, H1, I1, r, ln, q⟩ => ⟨I1.kIn, ?_⟩) hpl
  rw [hks]
  exact run_makeGK M F (hr.mono hk) hg I1 r ln q
/-- c(e, ..), c a local name that holds the class -/
def tMakeL (i : Nat) (C : Addr) (sp : Sp) (t : TA) : TE := fun σ H Q => σ[i]? = some (some (.ref C)) ∧ t σ H fun vs H1 => spMake C sp vs H1 Q
theorem pe_makeL {i : Nat} (M : Mk X.K C f) (F : FnG X.prog X.w X.K X.mg X.base k f ps sp) {j : Nat} (hr : Room j X.A) (hk : k + 1 ≤ j) (hg : X.A.guards = some []) (hN : X.N[i]? = some x) (hv : Vis X.env.scope x) (ha : PA X (e :: es) t)
    (hdb : (x == ("__debug__" : Str)) = false := by decide) (hcd : (x == ("__classdict__" : Str)) = false := by decide)
    (he : starEach (e :: es) X.env = (false, eval e X.env) :: starEach es X.env := by rfl) (hpl : (backTo pos (starEach es X.env)).any (·.1) = false := by rfl) : PE X (.Call (.Name x np) (e :: es) [] pos) (tMakeL i C sp t) := by
  refine ⟨fun pins s σ H Q I h => ?_⟩
  obtain ⟨hs, ht⟩ := h
  refine wpAny_Call_Name_kw (thn ((pe_var (pos := np) hN hv hdb hcd).run pins s σ H (fun v H1 => v = .ref C ∧ H1 = H) I ⟨.ref C, hs, rfl, rfl⟩) fun u s1 ⟨v, H1, I1, r1, q1⟩ => ?_)
  obtain ⟨rfl, rfl⟩ := q1
  cases r1
  refine PySem.W.callWith_K (h₀ := X.base) I.ok.mod.kin M.kp (thn (ha.run pos pins s1 σ _ _ I1 ht) fun us s2 ⟨vs, H2, I2, r, q⟩ => ⟨I2.kIn, ?_⟩) he hpl
  exact run_makeG M F (hr.mono hk) hg I2 r q

/-! properties -/
def tPropG (C : Addr) (sp : Sp) (ta : TE) : TE := fun σ H Q => ta σ H fun x H1 => ∃ a dx fs, x = .ref a ∧ H1 a = some (.ins C dx fs) ∧ sp [.ref a] H1 Q E0
theorem pe_propG (he : PE X e ta) (c : Cls X.K C) (hp : PropOf X.K C m p g) (F : FnG X.prog X.w X.K X.mg X.base k g ps sp) {j : Nat} (hr : Room j X.A) (hk : k + 1 ≤ j) (hg : X.A.guards = some [])
    (hab : attributeBase e m X.env (eval e X.env) = eval e X.env := by rfl) : PE X (.Attribute e m pos) (tPropG C sp ta) := by
  refine ⟨fun pins s σ H Q I h => ?_⟩
  refine attr_of hab (thn (he.run pins s σ H _ I h) fun u s1 ⟨x, H1, I1, rx, a, dx, fs, ex, ea, q⟩ => ?_)
  subst ex
  obtain rfl : u = Value.ref a := rx
  obtain ⟨mA, O, _, _, _, _⟩ := ins_get I1.hok ea
  obtain ⟨od, J, _⟩ := O.look
  obtain ⟨rest, hrec⟩ := hp.rec_
  have I2 := I1.tok (s1.toks + 1)
  have hc : (PySem.W.clsIn X.K C).isSome = true := by
    obtain ⟨cd, hc, _⟩ := PySem.W.any_some c.hd
    rw [hc]
    rfl
  refine PySem.W.get_bind I1.kIn J (PySem.W.plainGet_of (c.get m)).1 (PySem.W.findObj_data hc hp.at_ hp.get hp.tak) (PySem.W.plainGet_of (c.get m)).2 (wpAny_call (PySem.W.prop_get (s := { s1 with toks := s1.toks + 1 }) I1.kIn hrec ?_))
  obtain ⟨fd, F1, hb⟩ := F.ex
  refine codeAny_mono (F1.go X.A.in1 X.stack { s1 with toks := s1.toks + 1 } H1 ⟨[.ref a], []⟩ [.ref a] [.ref a] Q E0 (hr.mono hk).in1 (guards_in1 hg) I2.env0.in1 (hb _ [.ref a] (by rw [← F1.many _ _ _ _ q]; rfl)) (valsR .nil) q) fun r s' hq => ?_
  cases r with
  | error er => exact False.elim hq
  | ok fl =>
    cases fl with
    | ret u =>
      obtain ⟨v, H', I3, rv, q3⟩ := I2.after hq
      show wpAny _ _ (handedOut u) _ _ _
      rw [PySem.W.handedOut_of (handed_of rv)]
      exact wpAny_pure ⟨v, H', I3, rv, q3⟩
    | next => exact False.elim hq
    | brk => exact False.elim hq
    | cont => exact False.elim hq

/-! methods -/
def tMethG (C : Addr) (m : Str) (sp : Sp) (ta : TE) (t : TA) : TE := fun σ H Q => ta σ H fun x H1 => ∃ a dx fs, x = .ref a ∧ H1 a = some (.ins C dx fs) ∧ fs.lookup m = none ∧ t σ H1 fun vs H2 => sp (x :: vs) H2 Q E0
theorem pe_methG {pl : Sem Bool} (he : PE X o ta) (c : Cls X.K C) (hm : Meth X.K C m f) (F : FnG X.prog X.w X.K X.mg X.base k f ps sp) {j : Nat} (hr : Room j X.A) (hk : k ≤ j) (hg : X.A.guards = some []) (ha : PA X (e :: es) t)
    (hst : starEach (e :: es) X.env = (false, eval e X.env) :: starEach es X.env := by rfl) (hpl : (backTo pos (starEach es X.env)).any (·.1) = false := by rfl)
    (ht : eval (.Call (.Attribute o m apos) (e :: es) [] pos) X.env = (do
      let ov ← eval o X.env
      standAt apos.atName
      let (f, first) ← holding [ov] (getMethod ov m pl)
      callWith pos f first (backTo pos (starEach (e :: es) X.env)) (backToKw pos (keywordEach [] X.env))) := by rfl) :
    PE X (.Call (.Attribute o m apos) (e :: es) [] pos) (tMethG C m sp ta t) := by
  refine ⟨fun pins s σ H Q I h => ?_⟩
  refine PySem.W.methodCall_KW (pl := pl) (thn (he.run pins s σ H _ I h) fun u s1 ⟨x, H1, I1, rx, a, dx, fs, ex, ea, l, q⟩ => ?_) ht
  subst ex
  obtain rfl : u = Value.ref a := rx
  refine getmeth_ok I1 ea c hm l ?_
  refine PySem.W.callWith_K (first := [.ref a]) (h₀ := X.base) I.ok.mod.kin hm.kp (thn (ha.run pos pins s1 σ H1 _ I1 q) fun us s2 ⟨vs, H2, I2, r, q2⟩ => ⟨I2.kIn, ?_⟩) hst hpl
  exact call_FnG F (hr.mono hk) hg I2.env0 I2 (us := .ref a :: us) (valsR r) q2
def tMethGK (C : Addr) (m : Str) (n : Nat) (gV : List V → List V) (sp : Sp) (ta : TE) (t : TA) : TE := fun σ H Q => ta σ H fun x H1 => ∃ a dx fs, x = .ref a ∧ H1 a = some (.ins C dx fs) ∧ fs.lookup m = none ∧ t σ H1 fun zs H2 => zs.length = n ∧ sp (x :: gV zs) H2 Q E0
theorem pe_methGK {pl : Sem Bool} {kws : List Keyword} {gg : List Value → List Value} {gV : List V → List V} (he : PE X o ta) (c : Cls X.K C) (hm : Meth X.K C m f) (F : FnGK X.prog X.w X.K X.mg X.base k f ps 1 ks gg gV sp) {j : Nat} (hr : Room j X.A) (hk : k ≤ j) (hg : X.A.guards = some [])
    (hkw : PK X kws t) (hall : (backToKw pos (keywordEach kws X.env)).all (·.1.isSome) = true := by rfl) (hks : (backToKw pos (keywordEach kws X.env)).filterMap (·.1) = ks := by rfl)
    (hpl : ((backTo pos (starEach [] X.env)).any (·.1) || (backToKw pos (keywordEach kws X.env)).any (·.1.isNone)) = false := by rfl)
    (ht : eval (.Call (.Attribute o m apos) [] kws pos) X.env = (do
      let ov ← eval o X.env
      standAt apos.atName
      let (f, first) ← holding [ov] (getMethod ov m pl)
      callWith pos f first (backTo pos (starEach [] X.env)) (backToKw pos (keywordEach kws X.env))) := by rfl) :
    PE X (.Call (.Attribute o m apos) [] kws pos) (tMethGK C m ks.length gV sp ta t) := by
  refine ⟨fun pins s σ H Q I h => ?_⟩
  refine PySem.W.methodCall_KW (pl := pl) (thn (he.run pins s σ H _ I h) fun u s1 ⟨x, H1, I1, rx, a, dx, fs, ex, ea, l, q⟩ => ?_) ht
  subst ex
  obtain rfl : u = Value.ref a := rx
  refine getmeth_ok I1 ea c hm l ?_
  refine PySem.W.callWith_KW0 (first := [.ref a]) (h₀ := X.base) I.ok.mod.kin hm.kp hall (thn (hkw.run pos pins s1 σ H1 _ I1 q) fun ws s2 ⟨zs, H2, I2, r, ln, q2⟩ => ⟨I2.kIn, ?_⟩) hpl
  rw [hks]
  obtain ⟨fd, F1, b⟩ := F.ex
  exact wpAny_call (run_FG F1 (hr.mono hk) hg I2.env0 I2 (us := .ref a :: gg ws) (b s2 [.ref a] ws rfl (by rw [← r.length]; exact ln)) (valsR (F.vals r)) q2)

/-! classmethods -/
def tCMethG (C : Addr) (sp : Sp) (ta : TE) (t : TA) : TE := fun σ H Q => ta σ H fun x H1 => x = .ref C ∧ t σ H1 fun vs H2 => sp (.ref C :: vs) H2 Q E0
theorem pe_cmethG {pl : Sem Bool} (he : PE X o ta) (r : ClX.CRead X.K C mc) (c : ClX.CMet X.K C mc m p g) (F : FnG X.prog X.w X.K X.mg X.base k g ps sp) {j : Nat} (hr : Room j X.A) (hk : k ≤ j) (hg : X.A.guards = some []) (ha : PA X (e :: es) t)
    (hst : starEach (e :: es) X.env = (false, eval e X.env) :: starEach es X.env := by rfl) (hpl : (backTo pos (starEach es X.env)).any (·.1) = false := by rfl)
    (ht : eval (.Call (.Attribute o m apos) (e :: es) [] pos) X.env = (do
      let ov ← eval o X.env
      standAt apos.atName
      let (f, first) ← holding [ov] (getMethod ov m pl)
      callWith pos f first (backTo pos (starEach (e :: es) X.env)) (backToKw pos (keywordEach [] X.env))) := by rfl) :
    PE X (.Call (.Attribute o m apos) (e :: es) [] pos) (tCMethG C sp ta t) := by
  refine ⟨fun pins s σ H Q I h => ?_⟩
  refine PySem.W.methodCall_KW (pl := pl) (thn (he.run pins s σ H _ I h) fun u s1 ⟨x, H1, I1, rx, ex, q⟩ => ?_) ht
  subst ex
  obtain rfl : u = Value.ref C := rx
  refine ClX.getmethcm_ok I1 r c fun s2 I2 => ?_
  refine ClX.callwith_cm I2 (ClX.base_none I1 (Nat.le_refl _)) c.fi (thn (ha.run pos _ s2 σ H1 _ I2 q) fun us s3 ⟨vs, H2, I3, rv, q2⟩ => ⟨⟨ClX.pin_at I3, I3.kIn⟩, ?_⟩) hst hpl
  have z : wpAny (model X.prog X.w) X.A (call (.ref s1.heap.objs.size) us) (EP X ((s1.heap.objs.size, PySem.W.methodObj (.ref g) (.ref C)) :: pins) σ Q) X.xe s3 :=
    wpAny_call (PySem.W.method_call (ClX.pin_at I3) (run_FnG F (hr.mono hk) hg I3.env0 I3 (us := .ref C :: us) (valsR rv) q2))
  exact thn z fun _ _ y => ClX.unpinE y

/-! signs -/
def SpecialOf (K : PySem.W.Frag) (C : Addr) (m : Str) (g : Addr) : Prop := PySem.W.findIn K (.ref C) m = some (some (.ref g)) ∧ PySem.W.isFn K (.ref g) = true ∧ PySem.W.fnIn K g = true
def r1Own (C : Addr) (sp : Sp) : V → Hp → VK → Prop := fun x H Q => ∃ a dx fs, x = .ref a ∧ H a = some (.ins C dx fs) ∧ sp [x] H Q E0
theorem un_own (hs : SpecialOf X.K C "__invert__" g) (F : FnG X.prog X.w X.K X.mg X.base k g ps sp) {j : Nat} (hr : Room j X.A) (hk : k ≤ j) (hg : X.A.guards = some []) : UnR X (unaryOp .Invert) (r1Own C sp) := by
  intro pins s σ H x v Q I rx h
  obtain ⟨a, dx, fs, rfl, ea, q⟩ := h
  obtain rfl : v = Value.ref a := rx
  obtain ⟨mA, O, _, _, _, _⟩ := ins_get I.hok ea
  obtain ⟨od, J, _⟩ := O.look
  obtain ⟨m, hF⟩ := I.fr
  exact PySem.W.ksp_inv hF I.ok.mod.kin J hs.1 hs.2.1 (call_FnG F (hr.mono hk) hg I.env0 I (us := [.ref a]) (valsR .nil) q)
theorem cmpback_EP {u : Value} {s' : Shared} (h : EP X pins σ Q u s') : PySem.W.CmpBack (EP X pins σ Q) u s' := by
  obtain ⟨z', H', I', rz, qz⟩ := h
  exact SlX.cmpback rz ⟨z', H', I', rz, qz⟩
def r2Own (C : Addr) (sp : Sp) : R2 := fun x y H Q => ∃ a dx fs b dy gs, x = .ref a ∧ y = .ref b ∧ H a = some (.ins C dx fs) ∧ H b = some (.ins C dy gs) ∧ sp [x, y] H Q E0
theorem op_own {op : Operator} (hs : SpecialOf X.K C (PySem.dunder op.info.2) g) (hc : PySem.W.selfFirst X.K C = true) (F : FnG X.prog X.w X.K X.mg X.base k g ps sp) {j : Nat} (hr : Room j X.A) (hk : k ≤ j) (hg : X.A.guards = some []) : OpR X (binaryOp op) (r2Own C sp) := by
  intro pins s σ H x y v u Q I rx ry h
  obtain ⟨a, dx, fs, b, dy, gs, rfl, rfl, ea, eb, q⟩ := h
  obtain rfl : v = Value.ref a := rx
  obtain rfl : u = Value.ref b := ry
  obtain ⟨mA, O, _, _, _, _⟩ := ins_get I.hok ea
  obtain ⟨od, J, _⟩ := O.look
  obtain ⟨mB, O2, _, _, _, _⟩ := ins_get I.hok eb
  obtain ⟨od2, J2, _⟩ := O2.look
  obtain ⟨m, hF⟩ := I.fr
  exact PySem.W.binop_K hF I.ok.mod.kin J J2.type hc hs.1 hs.2.1 (wpAny_mono (call_FnG F (hr.mono hk) hg I.env0 I (us := [.ref a, .ref b]) (valsR (valsR .nil)) q) (fun _ _ z => cmpback_EP z) fun _ _ z => z)
theorem iop_own {op : Operator} (hs : SpecialOf X.K C (PySem.dunderI op.info.2) g) (hc : PySem.W.selfFirst X.K C = true) (F : FnG X.prog X.w X.K X.mg X.base k g ps sp) {j : Nat} (hr : Room j X.A) (hk : k ≤ j) (hg : X.A.guards = some []) : PIp X op (r2Own C sp) := by
  intro pins s σ H x y v u Q I rx ry h
  obtain ⟨a, dx, fs, b, dy, gs, rfl, rfl, ea, eb, q⟩ := h
  obtain rfl : v = Value.ref a := rx
  obtain rfl : u = Value.ref b := ry
  obtain ⟨mA, O, _, _, _, _⟩ := ins_get I.hok ea
  obtain ⟨od, J, _⟩ := O.look
  obtain ⟨m, hF⟩ := I.fr
  exact PySem.W.ksp_inplace hF I.ok.mod.kin J hc hs.1 hs.2.1 (wpAny_mono (call_FnG F (hr.mono hk) hg I.env0 I (us := [.ref a, .ref b]) (valsR (valsR .nil)) q) (fun _ _ z => cmpback_EP z) fun _ _ z => z)
/-- o ** n -/
def r2OwnI (C : Addr) (sp : Sp) : R2 := fun x y H Q => ∃ a dx fs i, x = .ref a ∧ y = .int i ∧ H a = some (.ins C dx fs) ∧ sp [x, y] H Q E0
structure IntSide (K : PySem.W.Frag) (C : Addr) (nm : String) : Prop where
  ex : ∃ (rc fo ro : Option Value), PySem.W.findIn K (.ref C) (PySem.dunderR nm) = some rc ∧ (rc = none ∨ ∃ g : Addr, rc = some (.ref g)) ∧ PySem.W.findIn K (.type "int") (PySem.dunder nm) = some fo ∧ PySem.W.findIn K (.type "int") (PySem.dunderR nm) = some ro ∧ PySem.W.subIn K (.type "int") (.ref C) = some false
theorem op_ownI {op : Operator} (hs : SpecialOf X.K C (PySem.dunder op.info.2) g) (hc : PySem.W.selfFirst X.K C = true) (hi : IntSide X.K C op.info.2) (F : FnG X.prog X.w X.K X.mg X.base k g ps sp) {j : Nat} (hr : Room j X.A) (hk : k ≤ j) (hg : X.A.guards = some []) : OpR X (binaryOp op) (r2OwnI C sp) := by
  intro pins s σ H x y v u Q I rx ry h
  obtain ⟨a, dx, fs, i, rfl, rfl, ea, q⟩ := h
  obtain rfl : v = Value.ref a := rx
  have ry' := ry
  obtain ⟨tk, rfl⟩ := ry
  obtain ⟨mA, O, _, _, _, _⟩ := ins_get I.hok ea
  obtain ⟨od, J, _⟩ := O.look
  obtain ⟨m, hF⟩ := I.fr
  obtain ⟨rc, fo, ro, h1, h2, h3, h4, h5⟩ := hi.ex
  exact PySem.W.ksp_binT (T := "int") hF I.ok.mod.kin J rfl hc hs.1 hs.2.1 h1 h2 h3 h4 h5 (wpAny_mono (call_FnG F (hr.mono hk) hg I.env0 I (us := [.ref a, .int i tk]) (valsR (.cons ry' .nil)) q) (fun _ _ z => cmpback_EP z) fun _ _ z => z)
/-- o == y -/
def rEqOwn (K : PySem.W.Frag) (C : Addr) (sp : Sp) : R2 := fun x y H Q => ∃ a dx fs t, x = .ref a ∧ H a = some (.ins C dx fs) ∧ TyX K H y t ∧ PySem.W.notFirst K C t = true ∧ sp [x, y] H Q E0
theorem op_eqOwn (hs : SpecialOf X.K C "__eq__" g) (F : FnG X.prog X.w X.K X.mg X.base k g ps sp) {j : Nat} (hr : Room j X.A) (hk : k ≤ j) (hg : X.A.guards = some []) : OpR X (compareOp .Eq) (rEqOwn X.K C sp) := by
  intro pins s σ H x y v u Q I rx ry h
  obtain ⟨a, dx, fs, t, rfl, ea, ty, hn, q⟩ := h
  obtain rfl : v = Value.ref a := rx
  obtain ⟨mA, O, _, _, _, _⟩ := ins_get I.hok ea
  obtain ⟨od, J, _⟩ := O.look
  obtain ⟨m, hF⟩ := I.fr
  obtain ⟨Pt, kx, hp, _⟩ := kit_of I ry ty
  show wpAny _ _ (richCompare .Eq _ _) _ _ _
  exact PySem.W.cmp_K (op := .Eq) hr.units0 hF I.ok.mod.kin J (kx.ty _ _ I.kIn hp) hn hs.1 hs.2.1 (wpAny_mono (call_FnG F (hr.mono hk) hg I.env0 I (us := [.ref a, u]) (valsR (.cons ry .nil)) q) (fun _ _ z => cmpback_EP z) fun _ _ z => z)
def tEqMark : Unit := ()
/-- len(o), abs(o) -/
def rLenOwn (C : Addr) (sp : Sp) : List V → Hp → VK → Prop := fun xs H Q => ∃ a dx fs, xs = [.ref a] ∧ H a = some (.ins C dx fs) ∧ sp [.ref a] H (fun v H' => ∃ n : Nat, v = .int n ∧ n < 2 ^ 63 ∧ Q (.int n) H') E0
theorem call_lenOwn (hs : SpecialOf X.K C "__len__" g) (F : FnG X.prog X.w X.K X.mg X.base k g ps sp) {j : Nat} (hr : Room j X.A) (hk : k + 1 ≤ j) (hg : X.A.guards = some []) : CallR X (.builtin "len") (rLenOwn C sp) := by
  intro pins s σ H xs us Q I r h
  obtain ⟨a, dx, fs, rfl, ea, q⟩ := h
  rw [Vals.ref1 r]
  obtain ⟨mA, O, _, _, _, _⟩ := ins_get I.hok ea
  obtain ⟨od, J, _⟩ := O.look
  obtain ⟨m, hF⟩ := I.fr
  refine PySem.W.len_K hF I.ok.mod.kin J hs.1 hs.2.1 (wpAny_mono (call_FnG F (hr.mono hk).in1 (guards_in1 hg) I.env0.in1 I (us := [.ref a]) (valsR .nil) q) (fun w s' z => ?_) fun _ _ z => z)
  obtain ⟨z', H', I', rz, n, ez, hn, qz⟩ := z
  subst ez
  obtain ⟨tk, rfl⟩ := rz
  exact ⟨⟨by omega, by omega⟩, .int n, H', I'.tok _, ⟨_, rfl⟩, qz⟩
def rAbsOwn (C : Addr) (sp : Sp) : List V → Hp → VK → Prop := fun xs H Q => ∃ a dx fs, xs = [.ref a] ∧ H a = some (.ins C dx fs) ∧ sp [.ref a] H Q E0
theorem args_absU (a : Value) : argsOk "abs" ⟨[a], []⟩ := by unfold argsOk; kernel_rfl
theorem call_absOwn (hs : SpecialOf X.K C "__abs__" g) (F : FnG X.prog X.w X.K X.mg X.base k g ps sp) {j : Nat} (hr : Room j X.A) (hk : k + 1 ≤ j) (hg : X.A.guards = some []) : CallR X (.builtin "abs") (rAbsOwn C sp) := by
  intro pins s σ H xs us Q I r h
  obtain ⟨a, dx, fs, rfl, ea, q⟩ := h
  rw [Vals.ref1 r]
  obtain ⟨mA, O, _, _, _, _⟩ := ins_get I.hok ea
  obtain ⟨od, J, _⟩ := O.look
  refine Calls.call_function_entry PyProof.Rows.kind_abs PyProof.Rows.plain_abs PyProof.Rows.entry_abs (args_absU _) ?_
  unfold Builtin.«abs»
  refine wpAny_bind (m := oneArg "abs" _) (wpAny_pure ?_)
  refine wpAny_bind (m := callSpecial? (.ref a) (Str.ofString "__abs__")) (PySem.W.special_fn I.kIn J hs.1 (beq_iff_eq.mp hs.2.1) (wpAny_mono (call_FnG F (hr.mono hk).in1 (guards_in1 hg) I.env0.in1 I (us := [.ref a]) (valsR .nil) q) (fun w s' z => ?_) fun _ _ z => z))
  exact wpAny_pure ⟨_, rfl, z⟩
/-- o[e] -/
theorem pe_ixOwn {a b : Expr} {tb : TE} (hs : SpecialOf X.K C "__getitem__" g) (F : FnG X.prog X.w X.K X.mg X.base k g ps sp) {j : Nat} (hr : Room j X.A) (hk : k + 1 ≤ j) (hg : X.A.guards = some []) (ha : PE X a ta) (hb : PE X b tb)
    (hsl : ∀ v u, subscripted b true v u = runValue (.builtin "lifetime.subscript" ⟨[v, u], []⟩) := by intro _ _; rfl) : PE X (.Subscript a b pos) (tOp (fun x y H Q => ∃ a dx fs, x = .ref a ∧ H a = some (.ins C dx fs) ∧ sp [x, y] H Q E0) ta tb) := by
  refine ⟨fun pins s σ H Q I h => ?_⟩
  refine Subscript_ (binT ha hb I h fun v u s2 x y H2 I2 rx ry q => ?_)
  obtain ⟨c, dx, fs, rfl, ea, q⟩ := q
  obtain rfl : v = Value.ref c := rx
  obtain ⟨mA, O, _, _, _, _⟩ := ins_get I2.hok ea
  obtain ⟨od, J, _⟩ := O.look
  obtain ⟨m, hF⟩ := I2.fr
  exact PySem.W.sub_K hF I2.ok.mod.kin J hs.1 hs.2.2 hs.2.1 (call_FnG F (hr.mono hk).in1 (guards_in1 hg) I2.env0.in1 I2 (us := [.ref c, u]) (valsR (.cons ry .nil)) q) (hsl _ _)
end
end UN

namespace UN
open PySem PySem.Spec PyProof.Rows L2
/-! an instance called; classmethods by keywords -/
section
variable {M : Model} {A : Around} {E : Value → Shared → Prop} {s : Shared} {K : PySem.W.Frag} {pos : Pos} {x C : Addr} {first : List Value} {Q : Value → Shared → Prop}
theorem callWith_inst {args : List (Bool × Sem Value)} {keywords : List (Option Str × Sem Value)} (hplain : (args.any (·.1) || keywords.any (·.1.isNone)) = false)
    (h : wpAny M A (evalArgs (.ref x) true args keywords) (fun a s₁ => (∃ ox od, ox.data = .plain ∧ PySem.W.InstAt s₁.heap x ox C od) ∧ wpAny M A (call (.ref x) (first ++ a.pos) a.kw) Q E s₁) E s) : wpAny M A (callWith pos (.ref x) first args keywords) Q E s := by
  unfold callWith
  refine wpAny_bind (wpAny_holding (wpAny_mono h (fun a s₁ h₁ => wpAny_bind (wpAny_standAt ?_)) fun _ _ y => y))
  obtain ⟨⟨ox, od, hd, I⟩, h2⟩ := h₁
  have L := PySem.W.kco_keeper (M := M) I hd
  simp only [hplain]
  refine wpAny_bind (L.here ?_)
  have tail : ∀ {t : Sem Value}, wpAny M A t Q E s₁ → wpAny M A (t >>= fun r => holding [r] point >>= fun _ => pure r) Q E s₁ :=
    fun ht => wpAny_bind (wpAny_mono ht (fun r s₂ hr => wpAny_bind (wpAny_holding (wpAny_point (wpAny_pure hr)))) fun _ _ y => y)
  exact tail (wpAny_operateT h2)
end
section
variable {X : Cx} {pins : List (Addr × Obj)} {σ : L2.St} {H : Hp} {s : Shared} {Q : VK} {k : Nat} {f C p g a b dx : Addr} {fd : FuncData} {ps ks : List Str} {sp : Sp} {us ws : List Value} {vs zs : List V} {fs : List (Str × V)} {x m : Str} {e o : Expr} {es : List Expr} {ta : TE} {t : TA} {pos apos np : Pos} {mc : Value}
theorem inst_of (I : Inv X pins σ H s) (ea : H a = some (.ins C dx fs)) : ∃ ox od, ox.data = .plain ∧ PySem.W.InstAt s.heap a ox C od := by
  obtain ⟨mA, O, _, _, _, _⟩ := ins_get I.hok ea
  obtain ⟨od, J, _⟩ := O.look
  exact ⟨_, _, rfl, J⟩
def tCallO (i : Nat) (C : Addr) (sp : Sp) (t : TA) : TE := fun σ H Q => ∃ a, σ[i]? = some (some (.ref a)) ∧ t σ H fun vs H1 => ∃ dx fs, H1 a = some (.ins C dx fs) ∧ sp (.ref a :: vs) H1 Q E0
theorem pe_callO {i : Nat} (hs : SpecialOf X.K C "__call__" g) (F : FnG X.prog X.w X.K X.mg X.base k g ps sp) {j : Nat} (hr : Room j X.A) (hk : k ≤ j) (hg : X.A.guards = some []) (hN : X.N[i]? = some x) (hv : Vis X.env.scope x) (ha : PA X (e :: es) t)
    (hdb : (x == ("__debug__" : Str)) = false := by decide) (hcd : (x == ("__classdict__" : Str)) = false := by decide)
    (he : starEach (e :: es) X.env = (false, eval e X.env) :: starEach es X.env := by rfl) (hpl : (backTo pos (starEach es X.env)).any (·.1) = false := by rfl) : PE X (.Call (.Name x np) (e :: es) [] pos) (tCallO i C sp t) := by
  refine ⟨fun pins s σ H Q I h => ?_⟩
  obtain ⟨a, hsl, ht⟩ := h
  refine wpAny_Call_Name_kw (thn ((pe_var (pos := np) hN hv hdb hcd).run pins s σ H (fun v H1 => v = .ref a ∧ H1 = H) I ⟨.ref a, hsl, rfl, rfl⟩) fun u s1 ⟨v, H1, I1, r1, q1⟩ => ?_)
  obtain ⟨rfl, rfl⟩ := q1
  cases r1
  rw [he]
  refine callWith_inst (C := C) (by show ((false || (backTo pos (starEach es X.env)).any (·.1)) || false) = false; rw [hpl]; rfl) (PySem.Calls.evalArgs_plain ?_)
  have h2 := ha.run pos pins s1 σ _ _ I1 ht
  rw [he] at h2
  refine thn h2 fun us s2 ⟨vs, H2, I2, r, dx, fs, ea, q⟩ => ⟨inst_of I2 ea, ?_⟩
  obtain ⟨ox, od, hd, J⟩ := inst_of I2 ea
  exact wpAny_call (PySem.W.kco_code (a := ⟨us, []⟩) I2.kIn J hd hs.1 hs.2.1 hs.2.2 (run_FnG F (hr.mono hk) hg I2.env0 I2 (us := .ref a :: us) (valsR r) q))
def tCallOK (i : Nat) (C : Addr) (n : Nat) (gV : List V → List V) (sp : Sp) (t : TA) : TE := fun σ H Q => ∃ a, σ[i]? = some (some (.ref a)) ∧ t σ H fun zs H1 => zs.length = n ∧ ∃ dx fs, H1 a = some (.ins C dx fs) ∧ sp (.ref a :: gV zs) H1 Q E0
theorem pe_callOK {i : Nat} {kws : List Keyword} {gg : List Value → List Value} {gV : List V → List V} (hs : SpecialOf X.K C "__call__" g) (F : FnGK X.prog X.w X.K X.mg X.base k g ps 1 ks gg gV sp) {j : Nat} (hr : Room j X.A) (hk : k ≤ j) (hg : X.A.guards = some []) (hN : X.N[i]? = some x) (hv : Vis X.env.scope x)
    (hkw : PK X kws t) (hall : (backToKw pos (keywordEach kws X.env)).all (·.1.isSome) = true := by rfl) (hks : (backToKw pos (keywordEach kws X.env)).filterMap (·.1) = ks := by rfl)
    (hdb : (x == ("__debug__" : Str)) = false := by decide) (hcd : (x == ("__classdict__" : Str)) = false := by decide)
    (hpl : ((backTo pos (starEach [] X.env)).any (·.1) || (backToKw pos (keywordEach kws X.env)).any (·.1.isNone)) = false := by rfl) : PE X (.Call (.Name x np) [] kws pos) (tCallOK i C ks.length gV sp t) := by
  refine ⟨fun pins s σ H Q I h => ?_⟩
  obtain ⟨a, hsl, ht⟩ := h
  refine wpAny_Call_Name_kw (thn ((pe_var (pos := np) hN hv hdb hcd).run pins s σ H (fun v H1 => v = .ref a ∧ H1 = H) I ⟨.ref a, hsl, rfl, rfl⟩) fun u s1 ⟨v, H1, I1, r1, q1⟩ => ?_)
  obtain ⟨rfl, rfl⟩ := q1
  cases r1
  refine callWith_inst (C := C) hpl (PyProof.Rows.evalArgs_kw2_nil hall ?_)
  refine thn (hkw.run pos pins s1 σ _ _ I1 ht) fun ws s2 ⟨zs, H2, I2, r, ln, dx, fs, ea, q⟩ => ⟨inst_of I2 ea, ?_⟩
  obtain ⟨ox, od, hd, J⟩ := inst_of I2 ea
  rw [hks]
  obtain ⟨fd, F1, b⟩ := F.ex
  exact wpAny_call (PySem.W.kco_code (a := ⟨[], ks.zip ws⟩) I2.kIn J hd hs.1 hs.2.1 hs.2.2 (run_FG F1 (hr.mono hk) hg I2.env0 I2 (us := .ref a :: gg ws) (b s2 [.ref a] ws rfl (by rw [← r.length]; exact ln)) (valsR (F.vals r)) q))
end
/-- one alone, as it is -/
def turn1 {α : Type} (l : List α) : List α := l
theorem turn1_vals {zs : List V} {ws : List Value} (h : Vals zs ws) : Vals (turn1 zs) (turn1 ws) := h
theorem op_eqOwnK {X : Cx} (K : PySem.W.Frag) (hK : X.K = K) {k : Nat} {C g : Addr} {ps : List Str} {sp : Sp} (hs : SpecialOf K C "__eq__" g) (F : FnG X.prog X.w K X.mg X.base k g ps sp) {j : Nat} (hr : Room j X.A) (hk : k ≤ j) (hg : X.A.guards = some []) : OpR X (compareOp .Eq) (rEqOwn K C sp) := by
  cases hK
  exact op_eqOwn hs F hr hk hg
end UN

namespace UN
open PySem PySem.Spec PyProof.Rows L2
/-! list(zip(a, b)) -/
theorem zip_no_len : typeLookup (.type "zip") "__len__" = pure none := am_miss_of_fast (by decide +kernel)
theorem zip_no_hint : typeLookup (.type "zip") "__length_hint__" = pure none := am_miss_of_fast (by decide +kernel)
def tupP (ts : List (Addr × V × V)) : Led := ts.map fun q => (q.1, .tup [q.2.1, q.2.2])
/-- the zip, whichever tuple is out -/
def ZipAt (H : Hp) (h : Heap) (z TI TO : Addr) : Prop := (IsZip h z TI TO .none ∧ ∃ x y, IsPair h TO x y) ∨ ∃ T f x y, IsZipHeld h z TI TO T f ∧ H T = some (.tup [x, y])
section
variable {X : Cx} {pins : List (Addr × Obj)} {σ : L2.St} {H H0 : Hp} {s : Shared} {A : Around} {z TI TO i1 i2 a b S : Addr} {xs ys : List V}
theorem fpOk_upd {o : HO} {T c : Addr} (h : FpOk X pins H c) (hn : c ≠ T) : FpOk X pins (upd H T o) c := ⟨by rw [upd_ne hn]; exact h.1, h.2⟩
theorem zip_item {i : Nat} {x y : V} {Q : Option Value → Shared → Prop} {E : Value → Shared → Prop} (D : ZipApart z TI TO i1 i2 a b) (I : Inv X pins σ H s) (hf : ∀ c ∈ [z, TI, TO, i1, i2], FpOk X pins H c ∧ c < s.heap.objs.size) (hZ : ZipAt H s.heap z TI TO) (hTI : IsPair s.heap TI (.ref i1) (.ref i2))
    (h1 : s.heap.IsListIter i1 a i) (h2 : s.heap.IsListIter i2 b i) (hqx : SqL X.K H a xs) (hqy : SqL X.K H b ys) (hx : xs[i]? = some x) (hy : ys[i]? = some y)
    (hQ : ∀ s', Inv X pins σ (upd H s.heap.objs.size (.tup [x, y])) s' → (∀ c ∈ [z, TI, TO, i1, i2], FpOk X pins (upd H s.heap.objs.size (.tup [x, y])) c ∧ c < s'.heap.objs.size) → ZipAt (upd H s.heap.objs.size (.tup [x, y])) s'.heap z TI TO → IsPair s'.heap TI (.ref i1) (.ref i2) →
      s'.heap.IsListIter i1 a (i + 1) → s'.heap.IsListIter i2 b (i + 1) → H s.heap.objs.size = none → Q (some (.ref s.heap.objs.size)) s') : wpAny (model X.prog X.w) A (pyNext (.ref z)) Q E s := by
  obtain ⟨its, rv, p, _⟩ := I.list hqx
  obtain ⟨its2, rv2, p2, _⟩ := I.list hqy
  obtain ⟨u, hu, ru⟩ := rv.get hx
  obtain ⟨u2, hu2, ru2⟩ := rv2.get hy
  have hf' : ∀ c ∈ [z, TI, TO, i1, i2], FpOk X pins H c := fun c hc => (hf c hc).1
  have hT0 : H s.heap.objs.size = none := I.hok.fresh (Nat.le_refl _)
  have fin : ∀ h' : Heap, (∃ T f x0 y0, IsZipHeld h' z TI TO T f ∧ upd H s.heap.objs.size (.tup [x, y]) T = some (.tup [x0, y0])) → h'.IsListIter i1 a (i + 1) → h'.IsListIter i2 b (i + 1) → IsPair h' s.heap.objs.size u u2 → h'.objs.size = s.heap.objs.size + 1 →
      (∀ c o, c ≠ z → c ≠ TO → c ≠ i1 → c ≠ i2 → s.heap.get? c = some o → h'.get? c = some o) → Q (some (.ref s.heap.objs.size)) { s with heap := h' } := by
    intro h' a1 a3 a4 a5 a6 hk
    have new : ObjOk X.prog X.w (upd H s.heap.objs.size (.tup [x, y])) h' s.heap.objs.size (.tup [x, y]) :=
      ⟨by show 2 ≤ sizeLine; decide, [u, u2], .cons ru (.cons ru2 .nil), ⟨_, a5, rfl, _, rfl⟩⟩
    have I1 : Inv X pins σ (upd H s.heap.objs.size (.tup [x, y])) { s with heap := h' } :=
      I.turnedNew (t' := s.toks) (ch := [z, TI, TO, i1, i2]) (fun c o hb q => hk c o (fun q' => hb (by simp [q'])) (fun q' => hb (by simp [q'])) (fun q' => hb (by simp [q'])) (fun q' => hb (by simp [q'])) q) hf' (Nat.le_refl _) new
    refine hQ _ I1 (fun c hc => ⟨fpOk_upd (hf' c hc) (Nat.ne_of_lt (hf c hc).2), by show c < h'.objs.size; rw [a6]; exact Nat.lt_succ_of_lt (hf c hc).2⟩) ?_ (hk _ _ D.TIz D.TITO D.TIi1 D.TIi2 hTI) a3 a4 hT0
    exact .inr a1
  rcases hZ with ⟨hz, x0, y0, hTO⟩ | ⟨T, f, x0, y0, hz, hT⟩
  · exact wpAny_pyNext_zip_item D hz hTI hTO h1 h2 p.isList p2.isList (x := u) (y := u2) (by simpa using hu) (by simpa using hu2) fun h' a1 a2 a3 a4 a5 a6 hk => fin h' ⟨_, _, x, y, a1, upd_same⟩ a3 a4 a5 a6 hk
  · obtain ⟨_, it3, _, ⟨oT, eT, _⟩⟩ := I.hok T _ hT
    exact wpAny_pyNext_zip_item_held D hz eT hTI h1 h2 p.isList p2.isList (x := u) (y := u2) (by simpa using hu) (by simpa using hu2) fun h' a1 a3 a4 a5 a6 hk => fin h' ⟨_, _, x0, y0, a1, by rw [upd_ne (ne_of_none hT hT0)]; exact hT⟩ a3 a4 a5 a6 fun c o c1 _ c3 c4 e => hk c o c1 c3 c4 e
theorem zip_done {i : Nat} {Q : Option Value → Shared → Prop} {E : Value → Shared → Prop} (hh : A.handled = none) (D : ZipApart z TI TO i1 i2 a b) (I : Inv X pins σ H s) (hf : ∀ c ∈ [z, TI, TO, i1, i2], FpOk X pins H c ∧ c < s.heap.objs.size) (hZ : ZipAt H s.heap z TI TO) (hTI : IsPair s.heap TI (.ref i1) (.ref i2))
    (h1 : s.heap.IsListIter i1 a i) (h2 : s.heap.IsListIter i2 b i) (hqx : SqL X.K H a xs) (hqy : SqL X.K H b ys) (he : xs.length ≤ i ∨ ys.length ≤ i)
    (hQ : ∀ s', Inv X pins σ H s' → Q none s') : wpAny (model X.prog X.w) A (pyNext (.ref z)) Q E s := by
  obtain ⟨its, rv, p, _⟩ := I.list hqx
  obtain ⟨its2, rv2, p2, _⟩ := I.list hqy
  have l1 := rv.length
  have l2 := rv2.length
  have he : its.toArray[i]? = none ∨ its2.toArray[i]? = none := by
    rcases he with q | q
    · exact .inl (by simp; omega)
    · exact .inr (by simp; omega)
  have hf' : ∀ c ∈ [z, TI, TO, i1, i2], FpOk X pins H c := fun c hc => (hf c hc).1
  rcases hZ with ⟨hz, x0, y0, hTO⟩ | ⟨T, f, x0, y0, hz, hT⟩
  · exact wpAny_pyNext_zip_end hh D hz hTI hTO h1 h2 p.isList p2.isList he fun h' hk => hQ _ (I.turnedL (t' := s.toks) (ch := [z, TI, TO, i1, i2]) (fun c o hb q =>
      hk c o (fun q' => hb (by simp [q'])) (fun q' => hb (by simp [q'])) (fun q' => hb (by simp [q'])) (fun q' => hb (by simp [q'])) q) hf')
  · obtain ⟨_, it3, _, ⟨oT, eT, _⟩⟩ := I.hok T _ hT
    exact wpAny_pyNext_zip_end_held hh D hz eT hTI h1 h2 p.isList p2.isList he fun h' hk => hQ _ (I.turnedL (t' := s.toks) (ch := [z, TI, TO, i1, i2]) (fun c o hb q =>
      hk c o (fun q' => hb (by simp [q'])) (fun q' => hb (by simp [q'])) (fun q' => hb (by simp [q'])) q) hf')
theorem zip_loop {R : Result → Shared → Prop} {res : Value} (hh : A.handled = none) (D : ZipApart z TI TO i1 i2 a b) (hS : S ∉ [z, TI, TO, i1, i2]) (hx0 : SqL X.K H0 a xs) (hy0 : SqL X.K H0 b ys) (hl : xs.length < sizeLine)
    (fin : ∀ s' H' ts, Inv X pins σ H' s' → Loc H0 H' ((S, .lst (refs ts)) :: tupP ts) → vals ts = xs.zip ys → R (.ok (.ret res)) s') :
    ∀ (k i : Nat) (s : Shared) (H : Hp) (ts : List (Addr × V × V)), (xs.zip ys).length - i = k → i ≤ (xs.zip ys).length → Inv X pins σ H s → (∀ c ∈ [z, TI, TO, i1, i2], FpOk X pins H c ∧ c < s.heap.objs.size) → ZipAt H s.heap z TI TO → IsPair s.heap TI (.ref i1) (.ref i2) →
      s.heap.IsListIter i1 a i → s.heap.IsListIter i2 b i → Loc H0 H ((S, .lst (refs ts)) :: tupP ts) → vals ts = (xs.zip ys).take i →
      codeAny (model X.prog X.w) A (.builtin "list.extend.loop" ⟨[.ref S, .ref z, res], []⟩) R s := by
  intro k
  induction k with
  | zero =>
    intro i s H ts hk hi I hf hZ hTI h1 h2 l et
    refine codeAny_builtin F.entry_extend_loop ?_
    rw [Around.under_plainId F.plain_extend_loop _]
    show wpAny _ A.in1 (pyNext (.ref z) >>= _) _ _ s
    refine wpAny_bind (zip_done (A := A.in1) hh D I hf hZ hTI h1 h2 (l.same.seq hx0) (l.same.seq hy0) ?_ fun s' I' => ?_)
    · rw [List.length_zip] at hk
      omega
    · exact wpAny_pure (fin s' H ts I' l (by rw [et, List.take_of_length_le (by omega)]))
  | succ k ih =>
    intro i s H ts hk hi I hf hZ hTI h1 h2 l et
    have hlt : i < (xs.zip ys).length := by omega
    have hlt' := hlt
    rw [List.length_zip] at hlt'
    refine codeAny_builtin F.entry_extend_loop ?_
    rw [Around.under_plainId F.plain_extend_loop _]
    show wpAny _ A.in1 (pyNext (.ref z) >>= _) _ _ s
    have hx : xs[i]? = some xs[i] := List.getElem?_eq_getElem (by omega)
    have hy : ys[i]? = some ys[i] := List.getElem?_eq_getElem (by omega)
    refine wpAny_bind (zip_item (A := A.in1) D I hf hZ hTI h1 h2 (l.same.seq hx0) (l.same.seq hy0) hx hy fun s' I' hf2 hZ2 hTI2 h12 h22 hT => ?_)
    have l2 := l.alloc (o := .tup [xs[i], ys[i]]) hT
    have hSa := l2.atIx (i := 1) rfl
    obtain ⟨hzS, its, cap, rv, eS⟩ := I'.hok S _ hSa
    have lt : (refs ts).length = i := by
      rw [refs_len, ← vals_len, et, List.length_take]; omega
    have il : its.length = i := by rw [← rv.length, lt]
    have nS : ∀ c ∈ [z, TI, TO, i1, i2], c ≠ S := fun c hc e => hS (by rw [← e]; exact hc)
    have l3 := (l2.setIx (i := 1) (o' := .lst (refs (ts ++ [(s.heap.objs.size, xs[i], ys[i])]))) rfl).perm (M := (S, .lst (refs (ts ++ [(s.heap.objs.size, xs[i], ys[i])]))) :: tupP (ts ++ [(s.heap.objs.size, xs[i], ys[i])])) (by
      show List.Perm _ ((s.heap.objs.size, HO.tup [xs[i], ys[i]]) :: (S, _) :: tupP ts)
      unfold tupP
      rw [List.map_append]
      refine List.Perm.trans ?_ (List.Perm.swap _ _ _)
      exact List.Perm.cons _ (List.perm_append_comm (l₂ := [(s.heap.objs.size, HO.tup [xs[i], ys[i]])])))
    show wpAny _ A.in1 (updateSeq S (·.push (.ref s.heap.objs.size)) >>= _) _ _ _
    refine wpAny_bind ?_
    refine wpAny_updateSeq eS rfl (wpAny_pure ⟨plainId_quiet F.plain_extend_loop _, ?_⟩) (by simp; omega) (by simp; omega)
    have oth : ∀ c o, c ≠ S → s'.heap.get? c = some o → (s'.heap.update S (Obj.mapSeq (·.push (.ref s.heap.objs.size)))).get? c = some o := fun c o hc e => (Heap.get?_update_other _ _ (Ne.symm hc)).trans e
    have hS3 := Heap.get?_update_self (Obj.mapSeq (·.push (Value.ref s.heap.objs.size))) eS rfl
    have I3 := I'.write (t' := s'.toks) (o := .lst (refs (ts ++ [(s.heap.objs.size, xs[i], ys[i])]))) (x := S) (e := S) (by rw [hSa]; trivial) (.inl rfl) oth ⟨_, hS3⟩ ⟨by rw [refs_len, List.length_append, ← refs_len, lt, List.length_singleton]; omega, its ++ [.ref s.heap.objs.size], cap + 1, by rw [refs_snoc]; exact rv.append (.cons rfl .nil), by rw [hS3]; simp [Obj.mapSeq]⟩
    refine ih (i + 1) _ _ _ (by omega) (by omega) I3 (fun c hc => ⟨fpOk_upd (hf2 c hc).1 (nS c hc), ?_⟩) ?_ (oth _ _ (nS TI (by simp)) hTI2) (h12.at fun o e => oth _ o (nS i1 (by simp)) e) (h22.at fun o e => oth _ o (nS i2 (by simp)) e) l3 ?_
    · have := (hf2 c hc).2
      simpa using this
    · rcases hZ2 with ⟨q, x0, y0, q2⟩ | ⟨T, f, x0, y0, q, q2⟩
      · exact .inl ⟨oth _ _ (nS z (by simp)) q, x0, y0, oth _ _ (nS TO (by simp)) q2⟩
      · exact .inr ⟨T, f, x0, y0, oth _ _ (nS z (by simp)) q, by rw [upd_ne (fun e => by rw [e, hSa] at q2; cases q2)]; exact q2⟩
    · unfold vals at et ⊢
      rw [List.map_append, et, List.take_add_one, List.getElem?_eq_getElem hlt, List.getElem_zip]
      rfl
theorem call_list_zip {Q : Value → Shared → Prop} {E : Value → Shared → Prop} (hh : A.handled = none) (D : ZipApart z TI TO i1 i2 a b) (hx0 : SqL X.K H a xs) (hy0 : SqL X.K H b ys) (hl : xs.length < sizeLine)
    (I : Inv X pins σ H s) (hf : ∀ c ∈ [z, TI, TO, i1, i2], FpOk X pins H c ∧ c < s.heap.objs.size) (hz : IsZip s.heap z TI TO .none) (hTO : ∃ x y, IsPair s.heap TO x y) (hTI : IsPair s.heap TI (.ref i1) (.ref i2)) (h1 : s.heap.IsListIter i1 a 0) (h2 : s.heap.IsListIter i2 b 0)
    (hQ : ∀ s' H' S ts, Inv X pins σ H' s' → Loc H H' ((S, .lst (refs ts)) :: tupP ts) → vals ts = xs.zip ys → Q (.ref S) s') : wpAny (model X.prog X.w) A (call (.type "list") [.ref z]) Q E s := by
  have hSz : s.heap.objs.size ≠ z := (Nat.ne_of_lt (hf z (by simp)).2).symm
  have hS0 : s.heap.objs.size ∉ [z, TI, TO, i1, i2] := fun h => Nat.lt_irrefl _ (hf _ h).2
  refine callType_codes (Q₁ := fun obj s₁ => obj = .ref s.heap.objs.size ∧ s₁ = { s with heap := s.heap.push { cls := .type "list", data := .seq #[] } }) F.called_list (F.typeCall_list_1 _) F.entry_list_init
    (code_list_new _ ⟨rfl, rfl⟩) fun obj s₁ h₁ => ?_
  obtain ⟨rfl, rfl⟩ := h₁
  have hS : (s.heap.push { cls := .type "list", data := .seq #[] }).get? s.heap.objs.size = some { cls := .type "list", data := .seq #[] } := Heap.get?_push_size _ rfl
  refine ⟨⟨_, hS, rfl⟩, F.args_list_init_2 _ _, ?_⟩
  show wpAny _ A.in1.in1 (do let old ← Builtin.List.listItems (.ref s.heap.objs.size); Builtin.List.listUpdate (.ref s.heap.objs.size) (fun _ => #[]); letGo old.toList.reverse; Builtin.List.listExtendWith (.ref s.heap.objs.size) (.ref z) .none) _ _ _
  refine wpAny_bind ?_
  unfold Builtin.List.listItems
  refine wpAny_bind (wpAny_seqItems hS rfl (wpAny_pure ?_))
  show wpAny _ A.in1.in1 (updateSeq s.heap.objs.size (fun _ => #[]) >>= fun _ => letGo (#[] : Array Value).toList.reverse >>= fun _ => Builtin.List.listExtendWith (.ref s.heap.objs.size) (.ref z) .none) _ _ _
  refine wpAny_bind (wpAny_updateSeq hS rfl ?_)
  have hS2 := Heap.get?_update_self (Obj.mapSeq (fun _ => (#[] : Array Value))) hS rfl
  refine wpAny_bind (wpAny_letGo ?_)
  unfold Builtin.List.listExtendWith
  have up : ∀ (h : Heap) (f : Obj → Obj), (∀ b o, s.heap.get? b = some o → h.get? b = some o) → ∀ b o, s.heap.get? b = some o → (h.update s.heap.objs.size f).get? b = some o := fun h f q b o e =>
    (Heap.get?_update_other _ _ (Ne.symm (Nat.ne_of_lt (Heap.lt_size e)))).trans (q b o e)
  have k1 : ∀ b o, s.heap.get? b = some o → (s.heap.push { cls := .type "list", data := .seq #[] }).get? b = some o := fun b o e => Heap.get?_push_of_some _ e
  have k2 := up _ (Obj.mapSeq (fun _ => (#[] : Array Value))) k1
  have gty : ∀ {h : Heap}, (∀ b o, s.heap.get? b = some o → h.get? b = some o) → ({ s with heap := h } : Shared).TypeIs (.ref z) "zip" := fun {h} q => ⟨_, q _ _ hz, rfl⟩
  refine wpAny_bind (wpAny_typeOf (gty k2) ?_)
  have e1 : Builtin.List.listSameRef (.ref s.heap.objs.size) (.ref z) = false := by simp [Builtin.List.listSameRef, hSz]
  have e2 : (Value.type "zip" == Value.type "list") = false := by decide
  have e3 : (Value.type "zip" == Value.type "tuple") = false := by decide
  simp only [e1, e2, e3, Bool.or_false, Bool.false_eq_true, if_false]
  refine wpAny_bind (wpAny_pyIter_zip (s := { s with heap := _ }) (k2 _ _ hz) ?_)
  refine wpAny_bind (wpAny_holding ?_)
  unfold Builtin.List.listLengthHint
  refine wpAny_bind (wpAny_specialOf (gty k2) zip_no_len ?_)
  show wpAny _ A.in1.in1 (specialOf (Value.ref z) (Str.ofString "__length_hint__") >>= _) _ _ _
  refine wpAny_bind (wpAny_specialOf (gty k2) zip_no_hint ?_)
  refine wpAny_pure ?_
  show wpAny _ A.in1.in1 (rule "list.extend.makes-room" >>= fun _ => Builtin.List.listTouch (.ref s.heap.objs.size) >>= fun _ =>
    again (.builtin "list.extend.loop" ⟨[.ref s.heap.objs.size, .ref z, .none], []⟩)) _ _ _
  refine wpAny_bind (wpAny_rule ?_)
  refine wpAny_bind ?_
  show wpAny _ A.in1.in1 (updateSeq s.heap.objs.size (·.push .none) >>= fun _ => updateSeq s.heap.objs.size (·.pop)) _ _ _
  refine wpAny_bind (wpAny_updateSeq hS2 rfl ?_)
  have hS3 := Heap.get?_update_self (Obj.mapSeq (·.push Value.none)) hS2 rfl
  refine wpAny_updateSeq (hz := by seq_fits) hS3 rfl ?_
  have hS4 := Heap.get?_update_self (Obj.mapSeq (·.pop)) hS3 rfl
  have k4 := up _ (Obj.mapSeq (·.pop)) (up _ (Obj.mapSeq (·.push Value.none)) k2)
  refine wpAny_pure ⟨plainId_quiet F.plain_extend_loop _, ?_⟩
  have hn : H s.heap.objs.size = none := I.hok.fresh (Nat.le_refl _)
  have I4 := I.laid (t' := s.toks) (a := s.heap.objs.size) (o := .lst []) k4 (Nat.le_refl _) ⟨Nat.zero_le _, [], _, .nil, hS4⟩
  refine zip_loop (A := A.in1) (H0 := H) (xs := xs) (ys := ys) hh D hS0 hx0 hy0 hl (fun s' H' ts I' l' e' => ⟨rfl, hQ s' H' _ ts I' l' e'⟩) _ 0 _ _ [] rfl (Nat.zero_le _) I4 (fun c hc => ⟨fpOk_upd (hf c hc).1 (Nat.ne_of_lt (hf c hc).2), ?_⟩)
    (.inl ⟨k4 _ _ hz, hTO.elim fun x h => h.elim fun y h => ⟨x, y, k4 _ _ h⟩⟩) (k4 _ _ hTI) (h1.at fun o e => k4 _ o e) (h2.at fun o e => k4 _ o e) ((Loc.refl H).alloc hn) rfl
  refine Nat.lt_of_lt_of_le (hf c hc).2 ?_
  simp
end
def tListZip (K : PySem.W.Frag) (ta : TA) : TE := fun σ H Q => ta σ H fun vs H1 => ∃ a b xs ys, vs = [.ref a, .ref b] ∧ SqL K H1 a xs ∧ SqL K H1 b ys ∧ xs.length < sizeLine ∧
  ∀ H2 p (ts : List (Addr × V × V)), Loc H1 H2 ((p, .lst (refs ts)) :: tupP ts) → vals ts = xs.zip ys → Q (.ref p) H2
theorem pe_listZip {X : Cx} {e e2 : Expr} {ta : TA} {p p2 q pos : Pos} (hc : X.calm = true) (hg : Gl X "list") (hm : X.mg "list" = none) (hg2 : Gl X "zip") (hm2 : X.mg "zip" = none) (ha : PA X [e, e2] ta)
    (hs : starEach [e, e2] X.env = (false, eval e X.env) :: starEach [e2] X.env := by rfl) (hpl : (backTo q (starEach [e2] X.env)).any (·.1) = false := by rfl)
    (na : starEach [.Call (.Name "zip" p2) [e, e2] [] q] X.env = (false, eval (.Call (.Name "zip" p2) [e, e2] [] q) X.env) :: starEach [] X.env := by rfl) :
    PE X (.Call (.Name "list" p) [.Call (.Name "zip" p2) [e, e2] [] q] [] pos) (tListZip X.K ta) := by
  refine ⟨fun pins s σ H Q I h => ?_⟩
  refine Call_ (ld_blt I hg hm PyProof.Rows.boot_list (PyProof.Rows.callWith_type1 (PyProof.Rows.args_cons ?_ na) na rfl))
  refine Call_ (ld_blt I hg2 hm2 PyProof.Rows.boot_zip (PyProof.Rows.callWith_type1 (thn (ha.run q pins s σ H _ I h) fun us s1 ⟨vs, H1, I1, r1, q1⟩ => ?_) hs hpl))
  obtain ⟨a, b, xs, ys, ex, hqx, hqy, hl, q1⟩ := q1
  subst ex
  cases r1 with
  | cons r rr =>
    cases rr with
    | cons r' rr =>
      cases rr
      cases r
      cases r'
      obtain ⟨its, rv, g1, _⟩ := I1.list hqx
      obtain ⟨its2, rv2, g2, _⟩ := I1.list hqy
      have la : a < s1.heap.objs.size := g1.lt
      have lb : b < s1.heap.objs.size := g2.lt
      refine call_zip_2 g1.isList g2.isList fun h' hz hTI hTO h1 h2 hsz hk => PyProof.Rows.args_nil ?_
      have I2 : Inv X pins σ H1 { s1 with heap := h' } := I1.kept (t' := s1.toks) hk
      refine call_list_zip (H := H1) (I1.ok.hd hc) (PySem.W.ktu_apart s1.heap.objs.size a b la lb) hqx hqy hl I2 (fun c hcm => ?_) hz ⟨_, _, hTO⟩ hTI h1 h2 fun s' H' S ts I' l' e' => ⟨.ref S, H', I', rfl, q1 H' S ts l' e'⟩
      have e' : c = s1.heap.objs.size + 4 ∨ c = s1.heap.objs.size + 2 ∨ c = s1.heap.objs.size + 3 ∨ c = s1.heap.objs.size ∨ c = s1.heap.objs.size + 1 := by simpa using hcm
      have hle : s1.heap.objs.size ≤ c ∧ c < h'.objs.size := by
        rw [hsz]
        rcases e' with z | z | z | z | z <;> rw [z] <;> exact ⟨by simp, by simp⟩
      exact ⟨I1.fpOk hle.1 (I1.hok.fresh hle.1), hle.2⟩
theorem pe_listZipK {X : Cx} (K : PySem.W.Frag) (hK : X.K = K) {e e2 : Expr} {ta : TA} {p p2 q pos : Pos} (hc : X.calm = true) (hg : Gl X "list") (hm : X.mg "list" = none) (hg2 : Gl X "zip") (hm2 : X.mg "zip" = none) (ha : PA X [e, e2] ta)
    (hs : starEach [e, e2] X.env = (false, eval e X.env) :: starEach [e2] X.env := by rfl) (hpl : (backTo q (starEach [e2] X.env)).any (·.1) = false := by rfl)
    (na : starEach [.Call (.Name "zip" p2) [e, e2] [] q] X.env = (false, eval (.Call (.Name "zip" p2) [e, e2] [] q) X.env) :: starEach [] X.env := by rfl) :
    PE X (.Call (.Name "list" p) [.Call (.Name "zip" p2) [e, e2] [] q] [] pos) (tListZip K ta) := hK ▸ pe_listZip hc hg hm hg2 hm2 ha hs hpl na
end UN

namespace UN
open PySem PySem.Spec PyProof.Rows L2
/-! classmethods by keywords -/
section
variable {X : Cx} {k : Nat} {C p g : Addr} {ps ks : List Str} {sp : Sp} {m : Str} {o : Expr} {ta : TE} {t : TA} {pos apos : Pos} {mc : Value}
def tCMethGK (C : Addr) (n : Nat) (gV : List V → List V) (sp : Sp) (ta : TE) (t : TA) : TE := fun σ H Q => ta σ H fun x H1 => x = .ref C ∧ t σ H1 fun zs H2 => zs.length = n ∧ sp (.ref C :: gV zs) H2 Q E0
theorem pe_cmethGK {pl : Sem Bool} {kws : List Keyword} {gg : List Value → List Value} {gV : List V → List V} (he : PE X o ta) (r : ClX.CRead X.K C mc) (c : ClX.CMet X.K C mc m p g) (F : FnGK X.prog X.w X.K X.mg X.base k g ps 1 ks gg gV sp) {j : Nat} (hr : Room j X.A) (hk : k ≤ j) (hg : X.A.guards = some [])
    (hkw : PK X kws t) (hall : (backToKw pos (keywordEach kws X.env)).all (·.1.isSome) = true := by rfl) (hks : (backToKw pos (keywordEach kws X.env)).filterMap (·.1) = ks := by rfl)
    (hpl : ((backTo pos (starEach [] X.env)).any (·.1) || (backToKw pos (keywordEach kws X.env)).any (·.1.isNone)) = false := by rfl)
    (ht : eval (.Call (.Attribute o m apos) [] kws pos) X.env = (do
      let ov ← eval o X.env
      standAt apos.atName
      let (f, first) ← holding [ov] (getMethod ov m pl)
      callWith pos f first (backTo pos (starEach [] X.env)) (backToKw pos (keywordEach kws X.env))) := by rfl) :
    PE X (.Call (.Attribute o m apos) [] kws pos) (tCMethGK C ks.length gV sp ta t) := by
  refine ⟨fun pins s σ H Q I h => ?_⟩
  refine PySem.W.methodCall_KW (pl := pl) (thn (he.run pins s σ H _ I h) fun u s1 ⟨x, H1, I1, rx, ex, q⟩ => ?_) ht
  subst ex
  obtain rfl : u = Value.ref C := rx
  refine ClX.getmethcm_ok I1 r c fun s2 I2 => ?_
  refine PySem.W.callWith_of hpl (PySem.W.keeps_M c.fi) (PyProof.Rows.evalArgs_kw2_nil hall (thn (hkw.run pos _ s2 σ H1 _ I2 q) fun ws s3 ⟨zs, H2, I3, rv, ln, q2⟩ => ⟨⟨ClX.pin_at I3, I3.kIn⟩, ?_⟩))
  rw [hks]
  obtain ⟨fd, F1, b⟩ := F.ex
  have z : wpAny (model X.prog X.w) X.A (call (.ref s1.heap.objs.size) [] (ks.zip ws)) (EP X ((s1.heap.objs.size, PySem.W.methodObj (.ref g) (.ref C)) :: pins) σ Q) X.xe s3 :=
    wpAny_call (PySem.W.method_call (ClX.pin_at I3) (run_FG F1 (hr.mono hk) hg I3.env0 I3 (us := .ref C :: gg ws) (b s3 [.ref C] ws rfl (by rw [← rv.length]; exact ln)) (valsR (F.vals rv)) q2))
  exact thn z fun _ _ y => ClX.unpinE y
end
end UN

/-! Readings of what only makes new things: a view U of the heap H holds what is known; results are told in a grown view -/
namespace UN
open PySem PySem.Spec PyProof.Rows L2
structure Sd (α : Type) where
  P : α → Hp → Prop
  g : ∀ {v : α} {H H' : Hp}, Same H H' → P v H → P v H'
def sD (K : PySem.W.Frag) (d : PyData) : Sd V := ⟨fun v H => Dp K H v d, fun s h => Dp.grow s d _ h⟩
def sV {α : Type} (x : α) : Sd α := ⟨fun v _ => v = x, fun _ h => h⟩
theorem dpAll_grow' {K : PySem.W.Frag} {H H' : Hp} (s : Same H H') {xs : List V} {ds : List PyData} (h : DpAll K H xs ds) : DpAll K H' xs ds := DpAll.grow s ds xs h
def sL (K : PySem.W.Frag) (ds : List PyData) : Sd V := ⟨fun v H => ∃ a xs, v = .ref a ∧ H a = some (.lst xs) ∧ DpAll K H xs ds, fun s h => by
  obtain ⟨a, xs, e, h1, h2⟩ := h
  exact ⟨a, xs, e, s _ _ h1, dpAll_grow' s h2⟩⟩
/-- a list of these very values -/
def sQ (K : PySem.W.Frag) (xs : List V) : Sd V := ⟨fun v H => ∃ a, v = .ref a ∧ SqL K H a xs, fun s h => by
  obtain ⟨a, e, h1⟩ := h
  exact ⟨a, e, s.seq h1⟩⟩
/-- the view U of H, grown out of the view U0 of H0 -/
structure Vw (U0 H0 U H : Hp) : Prop where
  lo : Same U0 U
  up : Same U H
  st : Same H0 H
  lc : ∀ b o, U b = some o → U0 b = some o ∨ H0 b = none
section
variable {U0 H0 U1 H1 U H U' H' : Hp} {p : Addr} {o : HO} {L : Led}
theorem Vw.refl (s : Same U H) : Vw U H U H := ⟨Same.refl U, s, Same.refl H, fun _ _ h => .inl h⟩
theorem Vw.trans (a : Vw U0 H0 U H) (b : Vw U H U' H') : Vw U0 H0 U' H' := by
  refine ⟨a.lo.trans b.lo, b.up, a.st.trans b.st, fun c o h => ?_⟩
  rcases b.lc c o h with h | h
  · exact a.lc c o h
  · cases e : H0 c with
    | none => exact .inr rfl
    | some q => rw [a.st c q e] at h; cases h
theorem same_none (s : Same U H) (h : H p = none) : U p = none := s.free h
theorem Same.upd (s : Same U H) (h : H p = none) : Same (upd U p o) (upd H p o) := fun b u e => by
  by_cases hb : b = p
  · subst hb; rw [upd_same] at e ⊢; exact e
  · rw [upd_ne hb] at e ⊢; exact s b u e
theorem Vw.alloc (s : Same U H) (h : H p = none) : Vw U H (upd U p o) (upd H p o) := by
  refine ⟨sA (s.free h), Same.upd s h, sA h, fun b u e => ?_⟩
  by_cases hb : b = p
  · subst hb; exact .inr h
  · rw [upd_ne hb] at e; exact .inl e
theorem Vw.no' (w : Vw U H U' H') (n : U p = none) (h : H p = some o) : U' p = none := by
  cases e : U' p with
  | none => rfl
  | some q =>
    rcases w.lc p q e with z | z
    · rw [n] at z; cases z
    · rw [h] at z; cases z
/-- all that is new -/
def grown (U H H' : Hp) : Hp := fun b => match H b with | none => H' b | some _ => U b
theorem Vw.max (s : Same U H) (t : Same H H') : Vw U H (grown U H H') H' := by
  refine ⟨fun b o h => ?_, fun b o h => ?_, t, fun b o h => ?_⟩
  · unfold grown; rw [s b o h]; exact h
  · unfold grown at h
    cases e : H b with
    | none => rw [e] at h; exact h
    | some q => rw [e] at h; exact t b o (s b o h)
  · unfold grown at h
    cases e : H b with
    | none => exact .inr rfl
    | some q => rw [e] at h; exact .inl h
theorem grown_new (h : H p = none) : grown U H H' p = H' p := by unfold grown; rw [h]
theorem Loc.grown (l : Loc H H' L) : ∀ q ∈ L, grown U H H' q.1 = some q.2 := fun q hq => by rw [grown_new (l.new q hq)]; exact l.here q hq
/-- U1 and what U' has besides -/
def joined (U1 U' : Hp) : Hp := fun b => match U1 b with | none => U' b | some o => some o
end
abbrev RV (α : Type) := Hp → (α → Hp → Prop) → Prop
def Rv {α : Type} (ρ : RV α) (U : Hp) (S : Sd α) : Prop := ∀ H, Same U H → ∀ Q : α → Hp → Prop, (∀ v U' H', Vw U H U' H' → S.P v U' → Q v H') → ρ H Q
section
variable {α β : Type} {ρ : RV α} {U U1 : Hp} {S S' : Sd α} {T : Sd β}
theorem Rv.mono (r : Rv ρ U S) (s : Same U U1) : Rv ρ U1 S := fun H sH Q q => r H (s.trans sH) Q fun v U' H' w h => by
  refine q v (joined U1 U') H' ⟨fun b o e => ?_, fun b o e => ?_, w.st, fun b o e => ?_⟩ (S.g (fun b o e => ?_) h)
  · unfold joined; rw [e]
  · unfold joined at e
    cases k : U1 b with
    | none => rw [k] at e; exact w.up b o e
    | some u => rw [k] at e; cases e; exact w.st b _ (sH b _ k)
  · unfold joined at e
    cases k : U1 b with
    | none =>
      rw [k] at e
      rcases w.lc b o e with z | z
      · rw [s b o z] at k; cases k
      · exact .inr z
    | some u => rw [k] at e; exact .inl e
  · unfold joined
    cases k : U1 b with
    | none => exact e
    | some u =>
      have h1 := w.st b u (sH b u k)
      have h2 := w.up b o e
      rw [h1] at h2
      exact h2
theorem Rv.bind {κ : α → RV β} (r : Rv ρ U S) (h : ∀ x U1, Same U U1 → S.P x U1 → Rv (κ x) U1 T) : Rv (fun H Q => ρ H fun x H1 => κ x H1 Q) U T :=
  fun H sH Q q => r H sH _ fun x U1 H1 w hx => h x U1 w.lo hx H1 w.up Q fun y U2 H2 w2 hy => q y U2 H2 (w.trans w2) hy
theorem Rv.imp (r : Rv ρ U S) (h : ∀ v U', Same U U' → S.P v U' → S'.P v U') : Rv ρ U S' := fun H sH Q q => r H sH Q fun v U' H' w hv => q v U' H' w (h v U' w.lo hv)
theorem Rv.ret {v : α} (h : S.P v U) : Rv (fun H Q => Q v H) U S := fun H sH Q q => q v U H (Vw.refl sH) h
theorem Rv.new {o : HO} {S : Sd V} (h : ∀ p, S.P (.ref p) (upd U p o)) : Rv (fun H Q => ∀ p, H p = none → Q (.ref p) (upd H p o)) U S :=
  fun H sH Q q p hp => q _ _ _ (Vw.alloc sH hp) (h p)
end
/-! expressions -/
section
variable {K : PySem.W.Frag} {σ : L2.St} {U : Hp} {ta tb tc : TE} {A B S : Sd V} {i : Nat} {v : V} {d e : PyData} {ds : List PyData}
theorem ev_var (h : σ[i]? = some (some v)) (hv : S.P v U) : Rv (tVar i σ) U S := fun H s Q q => ⟨v, h, q v U H (Vw.refl s) hv⟩
theorem ev_c : Rv (tC v σ) U (sV v) := Rv.ret rfl
theorem ev_cD (h : Dp K U v d) : Rv (tC v σ) U (sD K d) := Rv.ret h
theorem ev_op {r : R2} (ha : Rv (ta σ) U A) (hb : Rv (tb σ) U B) (hr : ∀ x y U', Same U U' → A.P x U' → B.P y U' → Rv (r x y) U' S) : Rv (tOp r ta tb σ) U S :=
  Rv.bind (ρ := ta σ) ha fun x U1 s1 h1 => Rv.bind (ρ := tb σ) (hb.mono s1) fun y U2 s2 h2 => hr x y U2 (s1.trans s2) (A.g s2 h1) h2
theorem ev_un {r : V → Hp → VK → Prop} (ha : Rv (ta σ) U A) (hr : ∀ x U', Same U U' → A.P x U' → Rv (r x) U' S) : Rv (tUn r ta σ) U S := Rv.bind (ρ := ta σ) ha hr
theorem ev_intD {n : Int} (h : Rv (ta σ) U (sV (.int n))) : Rv (ta σ) U (sD K (.int n)) := h.imp fun v U' _ e => by cases e; exact .int n
theorem ev_blD {b : Bool} (h : Rv (ta σ) U (sV (.bl b))) : Rv (ta σ) U (sD K (.bool b)) := h.imp fun v U' _ e => by cases e; exact .bl b
theorem ev_Dint {n : Int} (h : Rv (ta σ) U (sD K (.int n))) : Rv (ta σ) U (sV (.int n)) := h.imp fun v U' _ e => by cases e; rfl
theorem Rv.eqD {ρ : RV V} (h : Rv ρ U (sD K d)) (e' : d = e) : Rv ρ U (sD K e) := e' ▸ h
theorem ev_LD (h : Rv (ta σ) U (sL K ds)) : Rv (ta σ) U (sD K (.list ds)) := h.imp fun v U' _ e => by
  obtain ⟨a, xs, rfl, h1, h2⟩ := e
  exact .lst (SqL.of h1) h2
/-! arguments, displays -/
def sds : List V → List (Sd V) → Hp → Prop
  | [], [], _ => True
  | v :: vs, S :: Ss, H => S.P v H ∧ sds vs Ss H
  | _, _, _ => False
theorem sds_grow {H H' : Hp} (s : Same H H') : ∀ {vs : List V} {Ss : List (Sd V)}, sds vs Ss H → sds vs Ss H'
  | [], [], _ => trivial
  | _ :: _, S :: _, h => ⟨S.g s h.1, sds_grow s h.2⟩
def sAs (Ss : List (Sd V)) : Sd (List V) := ⟨fun vs H => sds vs Ss H, fun s h => sds_grow s h⟩
variable {tr : TA} {Ss : List (Sd V)}
theorem ea_nil : Rv (tNil σ) U (sAs []) := Rv.ret trivial
theorem ea_cons (ha : Rv (ta σ) U A) (hr : Rv (tr σ) U (sAs Ss)) : Rv (tCons ta tr σ) U (sAs (A :: Ss)) :=
  Rv.bind (ρ := ta σ) ha fun x U1 s1 h1 => Rv.bind (ρ := tr σ) (hr.mono s1) fun xs U2 s2 h2 => Rv.ret ⟨A.g s2 h1, h2⟩
theorem ea_one (ha : Rv (ta σ) U A) : Rv (tCons ta tNil σ) U (sAs [A]) := ea_cons ha ea_nil
theorem ea_two (ha : Rv (ta σ) U A) (hb : Rv (tb σ) U B) : Rv (tCons ta (tCons tb tNil) σ) U (sAs [A, B]) := ea_cons ha (ea_one hb)
/-- arguments that are data -/
def sAD (K : PySem.W.Frag) (ds : List PyData) : Sd (List V) := ⟨fun vs H => DpAll K H vs ds, fun s h => dpAll_grow' s h⟩
theorem ed_nil : Rv (tNil σ) U (sAD K []) := Rv.ret .nil
theorem ed_cons (ha : Rv (ta σ) U (sD K d)) (hr : Rv (tr σ) U (sAD K ds)) : Rv (tCons ta tr σ) U (sAD K (d :: ds)) :=
  Rv.bind (ρ := ta σ) ha fun x U1 s1 h1 => Rv.bind (ρ := tr σ) (hr.mono s1) fun xs U2 s2 h2 => Rv.ret (.cons (Dp.grow s2 _ _ h1) h2)
theorem dpAll_len : ∀ {xs : List V} {ds : List PyData} {H : Hp}, DpAll K H xs ds → xs.length = ds.length
  | [], _, _, h => by cases h; rfl
  | x :: r, _, _, h => by
    cases h with
    | cons h1 h2 => rw [List.length_cons, List.length_cons, dpAll_len h2]
theorem ev_lst (h : Rv (tr σ) U (sAD K ds)) (hl : ds.length < 100000) : Rv (tLst tr σ) U (sL K ds) :=
  Rv.bind (ρ := tr σ) h fun xs U1 s1 h1 H sH Q q => ⟨Nat.le_of_lt (sl_line' (by rw [dpAll_len h1]; exact hl)), fun p hp => q _ _ _ (Vw.alloc sH hp) ⟨p, xs, rfl, upd_same, dpAll_grow' (sA (sH.free hp)) h1⟩⟩
theorem ev_tup (h : Rv (tr σ) U (sAD K ds)) (hl : ds.length < 100000) : Rv (tTup tr σ) U (sD K (.tuple ds)) :=
  Rv.bind (ρ := tr σ) h fun xs U1 s1 h1 H sH Q q => ⟨Nat.le_of_lt (sl_line' (by rw [dpAll_len h1]; exact hl)), fun p hp => q _ _ _ (Vw.alloc sH hp) (.tup (SqT.of upd_same) (dpAll_grow' (sA (sH.free hp)) h1))⟩
theorem ev_cat {ds' : List PyData} (ha : Rv (ta σ) U (sL K ds)) (hb : Rv (tb σ) U (sL K ds')) (hl : ds.length + ds'.length < 100000) : Rv (tOp rCat ta tb σ) U (sL K (ds ++ ds')) :=
  ev_op ha hb fun x y U1 _ h1 h2 H sH Q q => by
    obtain ⟨a, xs, rfl, a1, a2⟩ := h1
    obtain ⟨b, ys, rfl, b1, b2⟩ := h2
    refine ⟨a, b, xs, ys, rfl, rfl, sH _ _ a1, sH _ _ b1, Nat.le_of_lt (sl_line' (by rw [dpAll_len a2, dpAll_len b2]; exact hl)), fun p hp => q _ _ _ (Vw.alloc sH hp) ⟨p, _, rfl, upd_same, ?_⟩⟩
    have s := sA (o := .lst (xs ++ ys)) (sH.free hp)
    have app : ∀ {xs ys : List V} {ds es : List PyData} {H : Hp}, DpAll K H xs ds → DpAll K H ys es → DpAll K H (xs ++ ys) (ds ++ es) := fun {xs ys ds es H} h k => by
      induction xs generalizing ds with
      | nil => cases h; exact k
      | cons x r ih =>
        cases h with
        | cons h1 h2 => exact .cons h1 (ih h2)
    exact app (dpAll_grow' s a2) (dpAll_grow' s b2)
/-! lists of anything -/
def sLs (Ss : List (Sd V)) : Sd V := ⟨fun v H => ∃ a xs, v = .ref a ∧ H a = some (.lst xs) ∧ sds xs Ss H, fun s h => by
  obtain ⟨a, xs, e, h1, h2⟩ := h
  exact ⟨a, xs, e, s _ _ h1, sds_grow s h2⟩⟩
theorem sds_len {H : Hp} : ∀ {xs : List V} {Ss : List (Sd V)}, sds xs Ss H → xs.length = Ss.length
  | [], [], _ => rfl
  | _ :: r, _ :: Rs, h => by rw [List.length_cons, List.length_cons, sds_len h.2]
theorem sds_get {H : Hp} : ∀ {xs : List V} {Ss : List (Sd V)} {i : Nat} {x : V}, sds xs Ss H → xs[i]? = some x → ∃ S, Ss[i]? = some S ∧ S.P x H
  | [], [], i, x, _, h => by cases h
  | _ :: _, S :: _, 0, x, h, e => by cases e; exact ⟨S, rfl, h.1⟩
  | _ :: r, _ :: Rs, i + 1, x, h, e => by
    rw [List.getElem?_cons_succ] at e ⊢
    exact sds_get h.2 e
theorem ev_lstS (h : Rv (tr σ) U (sAs Ss)) (hl : Ss.length < 100000) : Rv (tLst tr σ) U (sLs Ss) :=
  Rv.bind (ρ := tr σ) h fun xs U1 s1 h1 H sH Q q => ⟨Nat.le_of_lt (sl_line' (by rw [sds_len h1]; exact hl)), fun p hp => q _ _ _ (Vw.alloc sH hp) ⟨p, xs, rfl, upd_same, sds_grow (sA (sH.free hp)) h1⟩⟩
theorem ev_ixLs {ti : TE} {i : Int} {k : Nat} (hl : Rv (ta σ) U (sLs Ss)) (hi : Rv (ti σ) U (sV (.int i))) (hk : ixN Ss.length i = some k) (hd : Ss[k]? = some S) : Rv (tOp (rIxL K) ta ti σ) U S :=
  ev_op hl hi fun x y U1 _ h1 h2 H sH Q q => by
    cases h2
    obtain ⟨a, xs, rfl, hs, ha⟩ := h1
    have hl := sds_len ha
    cases e : xs[k]? with
    | none =>
      have := (List.getElem?_eq_some_iff.mp hd).1
      rw [List.getElem?_eq_getElem (by omega)] at e; cases e
    | some x =>
      obtain ⟨d', e1, e2⟩ := sds_get ha e
      rw [hd] at e1; cases e1
      exact ⟨a, xs, i, x, rfl, rfl, sH.seq (SqL.of hs), by unfold atI; rw [hl, hk]; exact e, q _ _ _ (Vw.refl sH) e2⟩
theorem ev_LsQ {xs : List V} {a : Addr} (h : σ[i]? = some (some (.ref a))) (hs : SqL K U a xs) : Rv (tVar i σ) U (sQ K xs) := ev_var h ⟨a, rfl, hs⟩
/-! calls -/
theorem ev_call {sp : Sp} (h : Rv (tr σ) U (sAs Ss)) (hs : ∀ vs U', Same U U' → sds vs Ss U' → Rv (fun H Q => sp vs H Q E0) U' S) : Rv (tG sp tr σ) U S := Rv.bind (ρ := tr σ) h hs
theorem ev_call1 {sp : Sp} (ha : Rv (ta σ) U A) (hs : ∀ x U', Same U U' → A.P x U' → Rv (fun H Q => sp [x] H Q E0) U' S) : Rv (tG sp (tCons ta tNil) σ) U S :=
  Rv.bind (ρ := ta σ) ha fun x U1 s1 h1 => hs x U1 s1 h1
theorem ev_call2 {sp : Sp} (ha : Rv (ta σ) U A) (hb : Rv (tb σ) U B) (hs : ∀ x y U', Same U U' → A.P x U' → B.P y U' → Rv (fun H Q => sp [x, y] H Q E0) U' S) : Rv (tG sp (tCons ta (tCons tb tNil)) σ) U S :=
  Rv.bind (ρ := ta σ) ha fun x U1 s1 h1 => Rv.bind (ρ := tb σ) (hb.mono s1) fun y U2 s2 h2 => hs x y U2 (s1.trans s2) (A.g s2 h1) h2
theorem ev_call3 {C : Sd V} {sp : Sp} (ha : Rv (ta σ) U A) (hb : Rv (tb σ) U B) (hc : Rv (tc σ) U C) (hs : ∀ x y z U', Same U U' → A.P x U' → B.P y U' → C.P z U' → Rv (fun H Q => sp [x, y, z] H Q E0) U' S) : Rv (tG sp (tCons ta (tCons tb (tCons tc tNil))) σ) U S :=
  Rv.bind (ρ := ta σ) ha fun x U1 s1 h1 => Rv.bind (ρ := tb σ) (hb.mono s1) fun y U2 s2 h2 => Rv.bind (ρ := tc σ) (hc.mono (s1.trans s2)) fun z U3 s3 h3 => hs x y z U3 ((s1.trans s2).trans s3) (A.g (s2.trans s3) h1) (B.g s3 h2) h3
theorem ev_cb1 {r : List V → Hp → VK → Prop} (ha : Rv (ta σ) U A) (hs : ∀ x U', Same U U' → A.P x U' → Rv (r [x]) U' S) : Rv (tCB r (tCons ta tNil) σ) U S :=
  Rv.bind (ρ := ta σ) ha fun x U1 s1 h1 => hs x U1 s1 h1
theorem ev_len {K' : PySem.W.Frag} (h : Rv (ta σ) U (sD K (.list ds))) (hK : K' = K := by rfl) : Rv (tCB (rLenS K') (tCons ta tNil) σ) U (sV (.int ds.length)) :=
  ev_cb1 h fun x U1 s1 h1 H sH Q q => by
    cases hK
    cases h1 with
    | lst hs ha => exact ⟨_, _, rfl, .inl (sH.seq hs), by rw [dpAll_len ha]; exact q _ _ _ (Vw.refl sH) rfl⟩
/-! comparisons and tests -/
theorem ev_eqD (ha : Rv (ta σ) U (sD K d)) (hb : Rv (tb σ) U (sD K e)) (h1 : SeqAt.shaped d = true) (h2 : SeqAt.shaped e = true) : Rv (tOp (rEqD K) ta tb σ) U (sV (.bl (PyData.eqv d e))) :=
  ev_op ha hb fun x y U1 _ k1 k2 H sH Q q => ⟨d, e, Dp.grow sH _ _ k1, Dp.grow sH _ _ k2, h1, h2, q _ _ _ (Vw.refl sH) rfl⟩
theorem ev_neD (ha : Rv (ta σ) U (sD K d)) (hb : Rv (tb σ) U (sD K e)) (h1 : SeqAt.shaped d = true) (h2 : SeqAt.shaped e = true) : Rv (tOp (rNeD K) ta tb σ) U (sV (.bl (!PyData.eqv d e))) :=
  ev_op ha hb fun x y U1 _ k1 k2 H sH Q q => ⟨d, e, Dp.grow sH _ _ k1, Dp.grow sH _ _ k2, h1, h2, q _ _ _ (Vw.refl sH) rfl⟩
theorem ev_eqS (ha : Rv (ta σ) U (sD K d)) (hb : Rv (tb σ) U (sD K d)) (h1 : SeqAt.shaped d = true) : Rv (tOp (rEqD K) ta tb σ) U (sV (.bl true)) := by
  have h := ev_eqD ha hb h1 h1
  rwa [SeqAt.eqv_refl _ (by unfold SeqAt.shaped at h1; simp at h1; exact h1.1)] at h
theorem ev_neS (ha : Rv (ta σ) U (sD K d)) (hb : Rv (tb σ) U (sD K d)) (h1 : SeqAt.shaped d = true) : Rv (tOp (rNeD K) ta tb σ) U (sV (.bl false)) := by
  have h := ev_neD ha hb h1 h1
  rwa [SeqAt.eqv_refl _ (by unfold SeqAt.shaped at h1; simp at h1; exact h1.1)] at h
variable {m n : Int} {g : Int → Int → V}
theorem ev_neg (ha : Rv (ta σ) U (sV (.int m))) : Rv (tUn (rU fun i => .int (-i)) ta σ) U (sV (.int (-m))) :=
  ev_un ha fun x U1 _ k1 H sH Q q => by cases k1; exact ⟨m, rfl, q _ _ _ (Vw.refl sH) rfl⟩
theorem ev_I0 (ha : Rv (ta σ) U (sV (.int m))) (hb : Rv (tb σ) U (sV (.int n))) : Rv (tOp (rI0 g) ta tb σ) U (sV (g m n)) :=
  ev_op ha hb fun x y U1 _ k1 k2 H sH Q q => by cases k1; cases k2; exact ⟨m, n, rfl, rfl, q _ _ _ (Vw.refl sH) rfl⟩
theorem ev_I {C : Int → Int → Prop} (ha : Rv (ta σ) U (sV (.int m))) (hb : Rv (tb σ) U (sV (.int n))) (hc : C m n) : Rv (tOp (rI C g) ta tb σ) U (sV (g m n)) :=
  ev_op ha hb fun x y U1 _ k1 k2 H sH Q q => by cases k1; cases k2; exact ⟨m, n, rfl, rfl, hc, q _ _ _ (Vw.refl sH) rfl⟩
variable {x y : V}
theorem ev_eqV (ha : Rv (ta σ) U (sV x)) (hb : Rv (tb σ) U (sV y)) (hs : scal x y = true := by rfl) : Rv (tOp rEq ta tb σ) U (sV (.bl (decide (x = y)))) :=
  ev_op ha hb fun x y U1 _ k1 k2 H sH Q q => by cases k1; cases k2; exact ⟨hs, q _ _ _ (Vw.refl sH) rfl⟩
theorem ev_neV (ha : Rv (ta σ) U (sV x)) (hb : Rv (tb σ) U (sV y)) (hs : scal x y = true := by rfl) : Rv (tOp rNe ta tb σ) U (sV (.bl (!decide (x = y)))) :=
  ev_op ha hb fun x y U1 _ k1 k2 H sH Q q => by cases k1; cases k2; exact ⟨hs, q _ _ _ (Vw.refl sH) rfl⟩
theorem ev_neI (ha : Rv (ta σ) U (sV (.int m))) (hb : Rv (tb σ) U (sV (.int n))) : Rv (tOp rNe ta tb σ) U (sV (.bl (!decide (m = n)))) := by
  have h := ev_neV ha hb rfl
  rwa [dVI] at h
theorem ev_neIe (ha : Rv (ta σ) U (sV (.int m))) (hb : Rv (tb σ) U (sV (.int n))) (e : m = n) : Rv (tOp rNe ta tb σ) U (sV (.bl false)) := by
  have h := ev_neI ha hb
  rwa [decide_eq_true e] at h
theorem ev_ltF (ha : Rv (ta σ) U (sV (.int m))) (hb : Rv (tb σ) U (sV (.int n))) (e : ¬ m < n) : Rv (tOp (rI0 fun i j => .bl (decide (i < j))) ta tb σ) U (sV (.bl false)) := by
  have h := ev_I0 (g := fun i j => .bl (decide (i < j))) ha hb
  rwa [decide_eq_false e] at h
theorem ev_eqI (ha : Rv (ta σ) U (sV (.int m))) (hb : Rv (tb σ) U (sV (.int n))) : Rv (tOp rEq ta tb σ) U (sV (.bl (decide (m = n)))) := by
  have h := ev_eqV ha hb rfl
  rwa [dVI] at h
theorem ev_neSt {a b : Str} (ha : Rv (ta σ) U (sV (.str a))) (hb : Rv (tb σ) U (sV (.str b))) : Rv (tOp rNe ta tb σ) U (sV (.bl (!decide (a = b)))) := by
  have h := ev_neV ha hb rfl
  rwa [dVS] at h
theorem ev_eqSt {a b : Str} (ha : Rv (ta σ) U (sV (.str a))) (hb : Rv (tb σ) U (sV (.str b))) : Rv (tOp rEq ta tb σ) U (sV (.bl (decide (a = b)))) := by
  have h := ev_eqV ha hb rfl
  rwa [dVS] at h
variable {b c : Bool} {t u : TT}
theorem ev_and (ha : Rv (ta σ) U (sV (.bl b))) (hb : b = true → Rv (tb σ) U (sV (.bl c))) : Rv (tAndV ta tb σ) U (sV (.bl (b && c))) :=
  Rv.bind (ρ := ta σ) ha fun x U1 s1 h1 H sH Q q => by
    cases h1
    refine ⟨b, rfl, ?_⟩
    cases b with
    | false => exact iteFF rfl (q _ _ _ (Vw.refl sH) rfl)
    | true => exact iteTT rfl ((hb rfl).mono s1 H sH Q q)
theorem ev_or (ha : Rv (ta σ) U (sV (.bl b))) (hb : b = false → Rv (tb σ) U (sV (.bl c))) : Rv (tOrV ta tb σ) U (sV (.bl (b || c))) :=
  Rv.bind (ρ := ta σ) ha fun x U1 s1 h1 H sH Q q => by
    cases h1
    refine ⟨b, rfl, ?_⟩
    cases b with
    | true => exact iteTT rfl (q _ _ _ (Vw.refl sH) rfl)
    | false => exact iteFF rfl ((hb rfl).mono s1 H sH Q q)
theorem ev_not (ha : Rv (ta σ) U (sV (.bl b))) : Rv (tNotV ta σ) U (sV (.bl (!b))) :=
  Rv.bind (ρ := ta σ) ha fun x U1 s1 h1 H sH Q q => by cases h1; exact ⟨b, rfl, q _ _ _ (Vw.refl sH) rfl⟩
theorem et_cmp (ha : Rv (ta σ) U (sV (.bl b))) : Rv (tTest ta σ) U (sV b) := Rv.bind (ρ := ta σ) ha fun x U1 s1 h1 H sH Q q => by cases h1; exact ⟨b, rfl, q _ _ _ (Vw.refl sH) rfl⟩
theorem et_val (ha : Rv (ta σ) U (sV (.bl b))) : Rv (tB ta σ) U (sV b) := Rv.bind (ρ := ta σ) ha fun x U1 s1 h1 H sH Q q => by cases h1; exact ⟨b, rfl, q _ _ _ (Vw.refl sH) rfl⟩
theorem et_not (ha : Rv (t σ) U (sV b)) : Rv (tNot t σ) U (sV (!b)) := Rv.bind (ρ := t σ) ha fun x U1 s1 h1 => by cases h1; exact Rv.ret rfl
theorem et_and (ha : Rv (t σ) U (sV b)) (hb : b = true → Rv (u σ) U (sV c)) : Rv (tAnd t u σ) U (sV (b && c)) :=
  Rv.bind (ρ := t σ) ha fun x U1 s1 h1 H sH Q q => by
    cases h1
    cases b with
    | false => exact iteFF rfl (q _ _ _ (Vw.refl sH) rfl)
    | true => exact iteTT rfl ((hb rfl).mono s1 H sH Q q)
theorem et_or (ha : Rv (t σ) U (sV b)) (hb : b = false → Rv (u σ) U (sV c)) : Rv (tOr t u σ) U (sV (b || c)) :=
  Rv.bind (ρ := t σ) ha fun x U1 s1 h1 H sH Q q => by
    cases h1
    cases b with
    | true => exact iteTT rfl (q _ _ _ (Vw.refl sH) rfl)
    | false => exact iteFF rfl ((hb rfl).mono s1 H sH Q q)
theorem et_or0 (ha : Rv (t σ) U (sV false)) (hb : Rv (u σ) U (sV false)) : Rv (tOr t u σ) U (sV false) := et_or ha fun _ => hb
theorem ev_ifE (ht : Rv (t σ) U (sV b)) (ha : b = true → Rv (ta σ) U S) (hb : b = false → Rv (tb σ) U S) : Rv (tIf t ta tb σ) U S :=
  Rv.bind (ρ := t σ) ht fun x U1 s1 h1 H sH Q q => by
    cases h1
    cases b with
    | true => exact iteTT rfl ((ha rfl).mono s1 H sH Q q)
    | false => exact iteFF rfl ((hb rfl).mono s1 H sH Q q)
end
/-! statements: from the view U of H on -/
section
variable {K : PySem.W.Frag} {σ : L2.St} {U H : Hp} {D : Ends} {te : TE} {S : Sd V} {i : Nat} {r s t : TS} {c : TT}
theorem go_setS (e : Rv (te σ) U S) (sH : Same U H) (q : ∀ v U' H', Vw U H U' H' → S.P v U' → r D (σ.set i (some v)) H') : tSeq (tAsg te (gName i)) r D σ H := e H sH _ q
theorem go_asgS {g : TG} (e : Rv (te σ) U S) (sH : Same U H) (q : ∀ v U' H', Vw U H U' H' → S.P v U' → g v σ H' (r D)) : tSeq (tAsg te g) r D σ H := e H sH _ q
theorem go_test {b : Bool} (e : Rv (c σ) U (sV b)) (sH : Same U H) (q : ∀ U' H', Vw U H U' H' → if b = true then t D σ H' else s D σ H') : tIfS c t s D σ H := e H sH _ fun v U' H' w h => by cases h; exact q U' H' w
/-- an if at the end of a block -/
theorem go_if0E (e : Rv (c σ) U (sV false)) (sH : Same U H) (q : ∀ U' H', Vw U H U' H' → D.nx σ H') : tIfS c t tNext D σ H :=
  e H sH _ fun v U' H' w h => by cases h; exact iteFF rfl (q U' H' w)
theorem go_par2S {A B : Sd V} {ta tb : TE} {j : Nat} (ha : Rv (ta σ) U A) (hb : Rv (tb σ) U B) (sH : Same U H) (q : ∀ v w U' H', Vw U H U' H' → A.P v U' → B.P w U' → r D ((σ.set i (some v)).set j (some w)) H') : tSeq (tPar i j (tCons ta (tCons tb tNil))) r D σ H :=
  ha H sH _ fun v U1 H1 w1 h1 => (hb.mono w1.lo) H1 w1.up _ fun w U2 H2 w2 h2 => ⟨v, w, rfl, q v w U2 H2 (w1.trans w2) (A.g w2.lo h1) h2⟩
theorem go_par3S {A B C : Sd V} {ta tb tc : TE} {j l : Nat} (ha : Rv (ta σ) U A) (hb : Rv (tb σ) U B) (hc : Rv (tc σ) U C) (sH : Same U H)
    (q : ∀ v w z U' H', Vw U H U' H' → A.P v U' → B.P w U' → C.P z U' → r D (((σ.set i (some v)).set j (some w)).set l (some z)) H') : tSeq (tPar3 i j l (tCons ta (tCons tb (tCons tc tNil)))) r D σ H :=
  ha H sH _ fun v U1 H1 w1 h1 => (hb.mono w1.lo) H1 w1.up _ fun w U2 H2 w2 h2 => (hc.mono (w1.lo.trans w2.lo)) H2 w2.up _ fun z U3 H3 w3 h3 =>
    ⟨v, w, z, rfl, q v w z U3 H3 ((w1.trans w2).trans w3) (A.g (w2.lo.trans w3.lo) h1) (B.g w3.lo h2) h3⟩
theorem go_if0 (e : Rv (c σ) U (sV false)) (sH : Same U H) (q : ∀ U' H', Vw U H U' H' → r D σ H') : tSeq (tIfS c t tNext) r D σ H :=
  e H sH _ fun v U' H' w h => by cases h; exact iteFF rfl (q U' H' w)
theorem go_ret (e : Rv (te σ) U S) (sH : Same U H) (q : ∀ v U' H', Vw U H U' H' → S.P v U' → D.rt v H') : tRet te D σ H := e H sH _ q
end
end UN

/-! Readings of what only makes new things: comprehensions, indices, slices; plain data read back -/
namespace UN
open PySem PySem.Spec PyProof.Rows L2
section
variable {K : PySem.W.Frag} {H : Hp} {v : V}
theorem iv_of_dps : ∀ {ns : List Int} {xs : List V}, DpAll K H xs (ns.map PyData.int) → xs = iv ns
  | [], _, h => by cases h; rfl
  | n :: r, _, h => by
    cases h with
    | cons h1 h2 => cases h1; rw [iv_of_dps h2]; rfl
theorem ints_of_dp {ns : List Int} (h : Dp K H v (dI ns)) : ∃ a, v = .ref a ∧ IsInts K H a ns := by
  unfold dI at h
  cases h with
  | lst hs ha => cases iv_of_dps ha; exact ⟨_, rfl, hs⟩
theorem list_of_dp {ds : List PyData} (h : Dp K H v (.list ds)) : ∃ a xs, v = .ref a ∧ SqL K H a xs ∧ DpAll K H xs ds := by
  cases h with
  | lst hs ha => exact ⟨_, _, rfl, hs, ha⟩
theorem tup_of_dp {ds : List PyData} (h : Dp K H v (.tuple ds)) : ∃ a xs, v = .ref a ∧ SqT K H a xs ∧ DpAll K H xs ds := by
  cases h with
  | tup hs ha => exact ⟨_, _, rfl, hs, ha⟩
theorem pair_of_dp {e : Int × Int} (h : Dp K H v (dE e)) : ∃ a, v = .ref a ∧ SqT K H a [.int e.1, .int e.2] := by
  obtain ⟨a, xs, rfl, hs, ha⟩ := tup_of_dp h
  cases ha with
  | cons h1 h2 =>
    cases h2 with
    | cons h3 h4 => cases h4; cases h1; cases h3; exact ⟨_, rfl, hs⟩
theorem pairs_of_dps : ∀ {ps : List (Int × Int)} {xs : List V}, DpAll K H xs (ps.map dE) → ∃ ts : List (Addr × Int × Int), vals ts = ps ∧ xs = refs ts ∧ ∀ t ∈ ts, SqT K H t.1 [.int t.2.1, .int t.2.2]
  | [], _, h => by cases h; exact ⟨[], rfl, rfl, fun _ z => nomatch z⟩
  | e :: r, _, h => by
    cases h with
    | cons h1 h2 =>
      obtain ⟨a, rfl, ha⟩ := pair_of_dp h1
      obtain ⟨ts, e1, e2, e3⟩ := pairs_of_dps h2
      refine ⟨(a, e) :: ts, by rw [← e1]; rfl, by rw [e2]; rfl, fun t ht => ?_⟩
      rcases List.mem_cons.mp ht with rfl | ht
      · exact ha
      · exact e3 t ht
theorem pairs_of_dp {ps : List (Int × Int)} (h : Dp K H v (dP ps)) : ∃ a, v = .ref a ∧ IsPairs K H a ps := by
  unfold dP at h
  obtain ⟨a, xs, rfl, hs, ha⟩ := list_of_dp h
  obtain ⟨ts, e1, rfl, e3⟩ := pairs_of_dps ha
  exact ⟨a, rfl, ts, e1, hs, e3⟩
theorem rows_of_dps : ∀ {rows : List (List Int)} {xs : List V}, DpAll K H xs (rows.map dI) → ∃ rs : List (Addr × List Int), vals rs = rows ∧ xs = refs rs ∧ ∀ r ∈ rs, SqL K H r.1 (iv r.2)
  | [], _, h => by cases h; exact ⟨[], rfl, rfl, fun _ z => nomatch z⟩
  | e :: r, _, h => by
    cases h with
    | cons h1 h2 =>
      obtain ⟨a, rfl, ha⟩ := ints_of_dp h1
      obtain ⟨ts, e1, e2, e3⟩ := rows_of_dps h2
      refine ⟨(a, e) :: ts, by rw [← e1]; rfl, by rw [e2]; rfl, fun t ht => ?_⟩
      rcases List.mem_cons.mp ht with rfl | ht
      · exact ha
      · exact e3 t ht
theorem rows_of_dp {rows : List (List Int)} (h : Dp K H v (dR rows)) : ∃ a, v = .ref a ∧ IsRows K H a rows := by
  unfold dR at h
  obtain ⟨a, xs, rfl, hs, ha⟩ := list_of_dp h
  obtain ⟨ts, e1, rfl, e3⟩ := rows_of_dps ha
  exact ⟨a, rfl, ts, e1, hs, e3⟩
theorem dpAll_snoc {xs : List V} {ds : List PyData} {d : PyData} (h : DpAll K H xs ds) (h1 : Dp K H v d) : DpAll K H (xs ++ [v]) (ds ++ [d]) := by
  induction xs generalizing ds with
  | nil => cases h; exact .cons h1 .nil
  | cons x r ih =>
    cases h with
    | cons a b => exact .cons a (ih b)
theorem dpAll_get : ∀ {xs : List V} {ds : List PyData} {i : Nat} {x : V}, DpAll K H xs ds → xs[i]? = some x → ∃ d, ds[i]? = some d ∧ Dp K H x d
  | _, _, i, x, .nil, h => by cases h
  | _, _, 0, x, .cons a b, h => by cases h; exact ⟨_, rfl, a⟩
  | _, _, i + 1, x, .cons a b, h => by
    rw [List.getElem?_cons_succ] at h ⊢
    exact dpAll_get b h
end
theorem sds_dps {K : PySem.W.Frag} {H : Hp} : ∀ {xs : List V} {ds : List PyData}, sds xs (ds.map (sD K)) H → DpAll K H xs ds
  | [], [], _ => .nil
  | _ :: _, _ :: _, h => .cons h.1 (sds_dps h.2)
theorem dps_sds {K : PySem.W.Frag} {H : Hp} : ∀ {xs : List V} {ds : List PyData}, DpAll K H xs ds → sds xs (ds.map (sD K)) H
  | _, _, .nil => trivial
  | _, _, .cons a b => ⟨a, dps_sds b⟩
theorem sds_snoc {H : Hp} {v : V} {S : Sd V} : ∀ {xs : List V} {Ss : List (Sd V)}, sds xs Ss H → S.P v H → sds (xs ++ [v]) (Ss ++ [S]) H
  | [], [], _, h => ⟨h, trivial⟩
  | _ :: _, _ :: _, h, k => ⟨h.1, sds_snoc h.2 k⟩
/-- a turn of a comprehension: kept with S, or left out -/
def LcT (tt : TT) (te : TE) (σ : L2.St) (U : Hp) : Option (Sd V) → Prop
  | none => Rv (tt σ) U (sV false)
  | some S => Rv (tt σ) U (sV true) ∧ Rv (te σ) U S
theorem LcT.mono {tt : TT} {te : TE} {σ : L2.St} {U U1 : Hp} (s : Same U U1) : ∀ {o : Option (Sd V)}, LcT tt te σ U o → LcT tt te σ U1 o
  | none, h => Rv.mono h s
  | some _, h => ⟨Rv.mono h.1 s, Rv.mono h.2 s⟩
section
variable {K : PySem.W.Frag} {σ : L2.St} {U : Hp} {tl te : TE} {tt : TT} {g : TG} {vs : List Nat} {xs : List V} {gd : Nat → Option (Sd V)} {ds : List PyData}
theorem lcJ {J : It} {n : Nat} {U1 H1 : Hp} {D : Addr} {Qd : Hp → Prop} (hn : n < 100000) (s1 : Same U1 H1) (hD : H1 D = none)
    (hi : ∀ i U2 H2, i < n → Same U1 U2 → Same U2 H2 → J.go i H2 ∧ ∀ x H3, J.yld i H2 x H3 → ∃ U3 σ', Vw U2 H2 U3 H3 ∧ (∀ R : L2.St → Hp → Prop, R σ' H3 → g x (wipe σ vs) H3 R) ∧ wipe σ' vs = wipe σ vs ∧ LcT tt te σ' U3 (gd i))
    (hs : ∀ U2 H2, Same U1 U2 → Same U2 H2 → J.stop n H2)
    (q : ∀ U' H', Vw U1 H1 U' H' → (sLs ((List.range n).filterMap gd)).P (.ref D) U' → Qd H') :
    ∃ W : Nat → Nat → Hp → Prop, (∃ m, W 0 m (L2.upd H1 D (.lst []))) ∧ ∀ i m H, W i m H →
      (J.stop i H ∧ Qd H) ∨ (J.go i H ∧ ∃ Nx : Hp → Prop, (∀ H', Nx H' → ∃ m', m' < m ∧ W (i + 1) m' H') ∧ ∀ x H', J.yld i H x H' → g x (wipe σ vs) H' fun σ2 H2 => wipe σ2 vs = wipe σ vs ∧ tt σ2 H2 fun b H3 =>
        if b = true then te σ2 H3 fun y H4 => ∃ acc, H4 D = some (.lst acc) ∧ acc.length < sizeLine ∧ Nx (L2.upd H4 D (.lst (acc ++ [y]))) else Nx H3) := by
  refine lc_n n (fun i H2 => ∃ U2 acc, U2 D = none ∧ Same U1 U2 ∧ Same U2 H2 ∧ Same H1 H2 ∧ (∀ b o, U2 b = some o → U1 b = some o ∨ H1 b = none) ∧ H2 D = some (.lst acc) ∧ sds acc ((List.range i).filterMap gd) U2)
    ⟨U1, [], s1.free hD, Same.refl _, s1.trans (sA hD), sA hD, fun _ _ h => .inl h, upd_same, trivial⟩ ?_ ?_
  · rintro i H2 hin ⟨U2, acc, nD, s12, s2, sH2, lc, hDa, hacc⟩
    obtain ⟨g1, g2⟩ := hi i U2 H2 hin s12 s2
    refine ⟨g1, fun x H3 hy => ?_⟩
    obtain ⟨U3, σ', w3, hg, hw, he⟩ := g2 x H3 hy
    refine hg _ ⟨hw, ?_⟩
    have nD3 := Vw.no' w3 nD hDa
    have more : ∀ {U4 H4 : Hp}, Vw U2 H2 U4 H4 → Same H1 H4 ∧ (∀ b o, U4 b = some o → U1 b = some o ∨ H1 b = none) ∧ H4 D = some (.lst acc) ∧ U4 D = none := fun {U4 H4} w4 => by
      refine ⟨sH2.trans w4.st, fun b o h => ?_, w4.st _ _ hDa, Vw.no' w4 nD hDa⟩
      rcases w4.lc b o h with z | z
      · exact lc b o z
      · cases e : H1 b with
        | none => exact .inr rfl
        | some u => rw [sH2 b u e] at z; cases z
    cases egd : gd i with
    | none =>
      rw [egd] at he
      refine he H3 w3.up _ fun b U4 H4 w4 hb => ?_
      cases hb
      obtain ⟨m1, m2, m3, m4⟩ := more (w3.trans w4)
      refine iteFF rfl ⟨U4, acc, m4, s12.trans (w3.lo.trans w4.lo), w4.up, m1, m2, m3, ?_⟩
      rw [List.range_succ, List.filterMap_append, List.filterMap_cons, egd, List.filterMap_nil, List.append_nil]
      exact sds_grow (w3.lo.trans w4.lo) hacc
    | some S =>
      rw [egd] at he
      refine he.1 H3 w3.up _ fun b U4 H4 w4 hb => ?_
      cases hb
      refine iteTT rfl ((he.2.mono w4.lo) H4 w4.up _ fun y U5 H5 w5 hy => ?_)
      have w35 := w3.trans (w4.trans w5)
      obtain ⟨m1, m2, m3, m4⟩ := more w35
      refine ⟨acc, m3, sl_line' ?_, U5, acc ++ [y], m4, s12.trans w35.lo, fun b o h => ?_, fun b o h => ?_, m2, upd_same, ?_⟩
      · rw [sds_len hacc]
        exact Nat.lt_of_le_of_lt (List.length_filterMap_le _ _) (by rw [List.length_range]; omega)
      · have hb : b ≠ D := fun z => by rw [z, m4] at h; cases h
        rw [upd_ne hb]; exact w35.up b o h
      · have hb : b ≠ D := fun z => by rw [z, hD] at h; cases h
        rw [upd_ne hb]; exact m1 b o h
      · rw [List.range_succ, List.filterMap_append, List.filterMap_cons, egd, List.filterMap_nil]
        exact sds_snoc (sds_grow w35.lo hacc) hy
  · rintro H2 ⟨U2, acc, nD, s12, s2, sH2, lc, hDa, hacc⟩
    refine ⟨hs U2 H2 s12 s2, q (L2.upd U2 D (.lst acc)) H2 ⟨s12.trans (sA nD), fun b o h => ?_, sH2, fun b o h => ?_⟩ ⟨D, acc, rfl, upd_same, sds_grow (sA nD) hacc⟩⟩
    · by_cases hb : b = D
      · subst hb; rw [upd_same] at h; rw [← h]; exact hDa
      · rw [upd_ne hb] at h; exact s2 b o h
    · by_cases hb : b = D
      · subst hb; exact .inr hD
      · rw [upd_ne hb] at h; exact lc b o h
/-- a comprehension over a list -/
theorem ev_lc (hl : Rv (tl σ) U (sQ K xs)) (hx : xs.length < 100000)
    (hi : ∀ (i : Nat) (x : V), xs[i]? = some x → ∀ U2, Same U U2 → ∃ σ', (∀ H, Same U2 H → ∀ R : L2.St → Hp → Prop, R σ' H → g x (wipe σ vs) H R) ∧ wipe σ' vs = wipe σ vs ∧ LcT tt te σ' U2 (gd i)) :
    Rv (tLc (iList K tl) g tt te vs σ) U (sLs ((List.range xs.length).filterMap gd)) := by
  intro H sH Q q
  refine hl H sH _ fun v U1 H1 w ha => ?_
  obtain ⟨a, rfl, ha⟩ := ha
  have s1 := w.up
  refine ⟨a, rfl, ⟨xs, s1.seq ha⟩, fun D hD => lcJ hx s1 hD (fun i U2 H2 hin s12 s2 => ?_) (fun U2 H2 s12 s2 => ⟨xs, s2.seq (s12.seq ha), Nat.le_refl _⟩) fun U' H' w' h => q _ _ _ (w.trans w') h⟩
  have hq := s2.seq (s12.seq ha)
  refine ⟨⟨xs, xs[i], hq, by simp [hin]⟩, ?_⟩
  rintro x H3 ⟨rfl, f⟩
  obtain ⟨σ', h1, h2, h3⟩ := hi i x (f xs hq) U2 (w.lo.trans s12)
  exact ⟨U2, σ', Vw.refl s2, h1 _ s2, h2, h3⟩
/-- .. over range(lo, hi) -/
theorem ev_lcRg {ta tb : TE} {lo hi : Int} (ha : Rv (ta σ) U (sV (.int lo))) (hb : Rv (tb σ) U (sV (.int hi))) (ok : -(2 ^ 62) ≤ lo ∧ lo < 2 ^ 62 ∧ -(2 ^ 62) ≤ hi ∧ hi < 2 ^ 62) (hx : (hi - lo).toNat < 100000)
    (he : ∀ i : Nat, i < (hi - lo).toNat → ∀ U2, Same U U2 → ∃ σ', (∀ H, Same U2 H → ∀ R : L2.St → Hp → Prop, R σ' H → g (.int (lo + i)) (wipe σ vs) H R) ∧ wipe σ' vs = wipe σ vs ∧ LcT tt te σ' U2 (gd i)) :
    Rv (tLc (iRng2 (tCons ta (tCons tb tNil))) g tt te vs σ) U (sLs ((List.range (hi - lo).toNat).filterMap gd)) := by
  intro H sH Q q
  refine ha H sH _ fun v U1 H1 w1 h1 => (hb.mono w1.lo) H1 w1.up _ fun v2 U2 H2 w2 h2 => ?_
  cases h1; cases h2
  have w := w1.trans w2
  refine ⟨lo, hi, rfl, ok, fun D hD => lcJ hx w.up hD (fun i U3 H3 hin s12 s2 => ⟨hin, ?_⟩) (fun _ _ _ _ => Nat.le_refl _) fun U' H' w' h => q _ _ _ (w.trans w') h⟩
  rintro x H4 ⟨rfl, rfl⟩
  obtain ⟨σ', h1, h2, h3⟩ := he i hin U3 (w.lo.trans s12)
  exact ⟨U3, σ', Vw.refl s2, h1 _ s2, h2, h3⟩
theorem ev_lcRg1 {ta : TE} {hi : Int} (ha : Rv (ta σ) U (sV (.int hi))) (ok : -(2 ^ 62) ≤ hi ∧ hi < 2 ^ 62) (hx : hi.toNat < 100000)
    (he : ∀ i : Nat, i < hi.toNat → ∀ U2, Same U U2 → ∃ σ', (∀ H, Same U2 H → ∀ R : L2.St → Hp → Prop, R σ' H → g (.int (0 + i)) (wipe σ vs) H R) ∧ wipe σ' vs = wipe σ vs ∧ LcT tt te σ' U2 (gd i)) :
    Rv (tLc (iRng1 (tCons ta tNil)) g tt te vs σ) U (sLs ((List.range hi.toNat).filterMap gd)) := by
  intro H sH Q q
  refine ha H sH _ fun v U1 H1 w h1 => ?_
  cases h1
  refine ⟨hi, rfl, ok.1, ok.2, fun D hD => lcJ hx w.up hD (fun i U3 H3 hin s12 s2 => ⟨hin, ?_⟩) (fun _ _ _ _ => Nat.le_refl _) fun U' H' w' h => q _ _ _ (w.trans w') h⟩
  rintro x H4 ⟨rfl, rfl⟩
  obtain ⟨σ', h1, h2, h3⟩ := he i hin U3 (w.lo.trans s12)
  exact ⟨U3, σ', Vw.refl s2, h1 _ s2, h2, h3⟩
/-- .. over enumerate(xs): T the pair -/
theorem ev_lcEn (hl : Rv (tl σ) U (sQ K xs)) (hx : xs.length < 100000)
    (hi : ∀ (i : Nat) (x : V), xs[i]? = some x → ∀ U2 T, Same U U2 → SqT K U2 T [.int (i : Nat), x] → ∃ σ', (∀ H, Same U2 H → ∀ R : L2.St → Hp → Prop, R σ' H → g (.ref T) (wipe σ vs) H R) ∧ wipe σ' vs = wipe σ vs ∧ LcT tt te σ' U2 (gd i)) :
    Rv (tLc (iEnum K (tCons tl tNil)) g tt te vs σ) U (sLs ((List.range xs.length).filterMap gd)) := by
  intro H sH Q q
  refine hl H sH _ fun v U1 H1 w ha => ?_
  obtain ⟨a, rfl, ha⟩ := ha
  have s1 := w.up
  refine ⟨a, xs, rfl, s1.seq ha, fun D hD => lcJ hx s1 hD (fun i U2 H2 hin s12 s2 => ?_) (fun U2 H2 s12 s2 => ⟨xs, s2.seq (s12.seq ha), Nat.le_refl _⟩) fun U' H' w' h => q _ _ _ (w.trans w') h⟩
  have hq := s2.seq (s12.seq ha)
  refine ⟨⟨xs, xs[i], hq, by simp [hin]⟩, ?_⟩
  rintro x H3 ⟨T, y, rfl, nT, rfl, f⟩
  obtain ⟨σ', h1, h2, h3⟩ := hi i y (f xs hq) (L2.upd U2 T (.tup [.int (i : Nat), y])) T ((w.lo.trans s12).trans (sA (s2.free nT))) (SqT.of upd_same)
  exact ⟨_, σ', Vw.alloc s2 nT, h1 _ (Same.upd s2 nT), h2, h3⟩
theorem lsD {Ss : List (Sd V)} (h : Rv (tl σ) U (sLs Ss)) (e : Ss = ds.map (sD K)) : Rv (tl σ) U (sL K ds) := h.imp fun v U' _ h => by
  obtain ⟨a, xs, rfl, h1, h2⟩ := h
  rw [e] at h2
  exact ⟨a, xs, rfl, h1, sds_dps h2⟩
theorem range_fm {α : Type} {f : Nat → α} {ds : List α} (h : ∀ i d, ds[i]? = some d → f i = d) : (List.range ds.length).filterMap (fun i => some (f i)) = ds := by
  rw [show (fun i => some (f i)) = some ∘ f from rfl, List.filterMap_eq_map]
  refine List.ext_getElem? fun i => ?_
  rw [List.getElem?_map]
  by_cases hi : i < ds.length
  · rw [List.getElem?_range hi, List.getElem?_eq_getElem hi]
    show some (f i) = _
    rw [h i ds[i] (List.getElem?_eq_getElem hi)]
  · rw [List.getElem?_eq_none (by rw [List.length_range]; omega), List.getElem?_eq_none (by omega)]
    rfl
/-- [te for x in tl], x in slot j -/
theorem ev_lcM {j : Nat} (hl : Rv (tl σ) U (sQ K xs)) (hx : xs.length < 100000) (hlen : ds.length = xs.length) (hw : ∀ x, wipe ((wipe σ vs).set j (some x)) vs = wipe σ vs)
    (he : ∀ (i : Nat) (x : V) (d : PyData), xs[i]? = some x → ds[i]? = some d → ∀ U1, Same U U1 → Rv (te ((wipe σ vs).set j (some x))) U1 (sD K d)) :
    Rv (tLc (iList K tl) (gName j) tYes te vs σ) U (sL K ds) := by
  refine lsD (ev_lc (gd := fun i => some (sD K (ds.getD i .none))) hl hx fun i x hxi U2 s2 => ⟨_, fun H _ R hR => hR, hw x, Rv.ret rfl, ?_⟩) ?_
  · have hi := (List.getElem?_eq_some_iff.mp hxi).1
    exact he i x _ hxi (by rw [List.getD_eq_getElem?_getD, List.getElem?_eq_getElem (by omega)]; rfl) U2 s2
  · rw [← hlen]
    have e : (fun i => some (sD K (ds.getD i .none))) = fun i => some ((ds.map (sD K)).getD i (sD K .none)) := by
      funext i
      rw [List.getD_eq_getElem?_getD, List.getD_eq_getElem?_getD, List.getElem?_map]
      cases ds[i]? <;> rfl
    rw [e, show ds.length = (ds.map (sD K)).length from (List.length_map _).symm]
    exact range_fm fun i d hd => by rw [List.getD_eq_getElem?_getD, hd]; rfl
theorem ev_IQ {ns : List Int} (h : Rv (tl σ) U (sD K (dI ns))) : Rv (tl σ) U (sQ K (iv ns)) := h.imp fun v U' _ h => by
  obtain ⟨a, rfl, h2⟩ := ints_of_dp h
  exact ⟨a, rfl, h2⟩
/-- repr -/
theorem ev_repr {b dep : Nat} {d : PyData} (h : Rv (tl σ) U (sD K d)) (sm : Sm b dep d) (hd : dep ≤ 60 := by decide) (hb : b ≤ 2 ^ 20 := by decide) : Rv (tCB (rRepr K) (tCons tl tNil) σ) U (sV (.str d.shown)) :=
  ev_cb1 h fun x U1 _ h1 H sH Q q => reprA (Dp.grow sH _ _ h1) sm hd hb (q _ _ _ (Vw.refl sH) rfl)
/-- list(range(a, b)) -/
theorem ev_lrg {ta tb : TE} {m n : Int} (ha : Rv (ta σ) U (sV (.int m))) (hb : Rv (tb σ) U (sV (.int n))) (ok : RgOk m n) : Rv (tLstRg (tRg2 ta tb) σ) U (sQ K (rgV m n)) := fun H sH Q q =>
  ha H sH _ fun x U1 H1 w1 h1 => (hb.mono w1.lo) H1 w1.up _ fun y U2 H2 w2 h2 => by
    cases h1; cases h2
    exact ⟨m, n, rfl, rfl, ok, fun l hl => q _ _ _ ((w1.trans w2).trans (Vw.alloc w2.up hl)) ⟨l, rfl, SqL.of upd_same⟩⟩
theorem ev_QI {ns : List Int} (h : Rv (tl σ) U (sQ K (iv ns))) : Rv (tl σ) U (sD K (dI ns)) := h.imp fun v U' _ h => by
  obtain ⟨a, rfl, h⟩ := h
  exact IsInts.dp h
/-- an item, at any place -/
theorem ev_ixL {ti : TE} {i : Int} {k : Nat} {d : PyData} (hl : Rv (tl σ) U (sD K (.list ds))) (hi : Rv (ti σ) U (sV (.int i))) (hk : ixN ds.length i = some k) (hd : ds[k]? = some d) : Rv (tOp (rIxL K) tl ti σ) U (sD K d) :=
  ev_op hl hi fun x y U1 _ h1 h2 H sH Q q => by
    cases h2
    obtain ⟨a, xs, rfl, hs, ha⟩ := list_of_dp h1
    have hl := dpAll_len ha
    cases e : xs[k]? with
    | none =>
      have := (List.getElem?_eq_some_iff.mp hd).1
      rw [List.getElem?_eq_getElem (by omega)] at e; cases e
    | some x =>
      obtain ⟨d', e1, e2⟩ := dpAll_get ha e
      rw [hd] at e1; cases e1
      exact ⟨a, xs, i, x, rfl, rfl, sH.seq hs, by unfold atI; rw [hl, hk]; exact e, q _ _ _ (Vw.refl sH) e2⟩
end
end UN

/-! views: lists that grow, tuples of anything, targets -/
namespace UN
open PySem PySem.Spec PyProof.Rows L2
section
variable {K : PySem.W.Frag} {σ : L2.St} {U H U' H' : Hp} {te ta tb : TE} {S A B : Sd V} {i : Nat} {r : TS} {D : Ends} {p L : Addr} {xs : List V} {tr : TA} {Ss : List (Sd V)} {o : HO}
theorem Vw.no (w : Vw U H U' H') (n : U p = none) (h : H p = some o) : U' p = none := by
  cases e : U' p with
  | none => rfl
  | some q =>
    rcases w.lc p q e with z | z
    · rw [n] at z; cases z
    · rw [h] at z; cases z
theorem Same.hide (s : Same U H) (n : U p = none) : Same U (L2.upd H p o) := fun b q e => by
  have hb : b ≠ p := fun z => by rw [z, n] at e; cases e
  rw [upd_ne hb]; exact s b q e
/-- xs.append(e), the list in slot i, hidden from the view -/
theorem go_appS (h : σ[i]? = some (some (.ref L))) (hL : H L = some (.lst xs)) (n : U L = none) (sH : Same U H) (hl : xs.length < 100000) (e : Rv (te σ) U S)
    (q : ∀ v U' H', Vw U H U' H' → S.P v U' → H' L = some (.lst xs) → U' L = none → r D σ (upd H' L (.lst (xs ++ [v])))) : tSeq (tDrop (tBM K "list" rAppend (tVar i) (tCons te tNil))) r D σ H :=
  ⟨_, h, .inl ⟨rfl, _, SqL.of hL⟩, e H sH _ fun v U' H' w hv => ⟨L, xs, v, rfl, rfl, w.st _ _ hL, sl_line' hl, q v U' H' w hv (w.st _ _ hL) (w.no n hL)⟩⟩
/-- a tuple of anything -/
def sTs (Ss : List (Sd V)) : Sd V := ⟨fun v H => ∃ a xs, v = .ref a ∧ H a = some (.tup xs) ∧ sds xs Ss H, fun s h => by
  obtain ⟨a, xs, e, h1, h2⟩ := h
  exact ⟨a, xs, e, s _ _ h1, sds_grow s h2⟩⟩
theorem ev_tupS (h : Rv (tr σ) U (sAs Ss)) (hl : Ss.length < 100000) : Rv (tTup tr σ) U (sTs Ss) :=
  Rv.bind (ρ := tr σ) h fun xs U1 s1 h1 H sH Q q => ⟨Nat.le_of_lt (sl_line' (by rw [sds_len h1]; exact hl)), fun p hp => q _ _ _ (Vw.alloc sH hp) ⟨p, xs, rfl, upd_same, sds_grow (sA (sH.free hp)) h1⟩⟩
theorem sds_app {H : Hp} : ∀ {xs ys : List V} {Ss Ts : List (Sd V)}, sds xs Ss H → sds ys Ts H → sds (xs ++ ys) (Ss ++ Ts) H
  | [], _, [], _, _, h => h
  | _ :: _, _, _ :: _, _, h, k => ⟨h.1, sds_app h.2 k⟩
theorem ev_catS {Ts : List (Sd V)} (ha : Rv (ta σ) U (sLs Ss)) (hb : Rv (tb σ) U (sLs Ts)) (hl : Ss.length + Ts.length < 100000) : Rv (tOp rCat ta tb σ) U (sLs (Ss ++ Ts)) :=
  ev_op ha hb fun x y U1 _ h1 h2 H sH Q q => by
    obtain ⟨a, xs, rfl, a1, a2⟩ := h1
    obtain ⟨b, ys, rfl, b1, b2⟩ := h2
    exact ⟨a, b, xs, ys, rfl, rfl, sH _ _ a1, sH _ _ b1, Nat.le_of_lt (sl_line' (by rw [sds_len a2, sds_len b2]; exact hl)), fun p hp => q _ _ _ (Vw.alloc sH hp) ⟨p, _, rfl, upd_same, sds_grow (sA (sH.free hp)) (sds_app a2 b2)⟩⟩
/-- y = x + [..]: a new list, hidden from the view -/
theorem go_catNewS {j : Nat} {M : Addr} {Ts : List (Sd V)} (h : σ[i]? = some (some (.ref M))) (hM : U M = some (.lst xs)) (hs : sds xs Ss U) (e : Rv (tr σ) U (sAs Ts)) (hl : Ss.length + Ts.length < 100000) (sH : Same U H)
    (q : ∀ L ys U' H', Vw U H U' H' → sds ys (Ss ++ Ts) U' → H' L = some (.lst ys) → U' L = none → H L = none → r D (σ.set j (some (.ref L))) H') : tSeq (tAsg (tOp rCat (tVar i) (tLst tr)) (gName j)) r D σ H :=
  ⟨_, h, e H sH _ fun vs U1 H1 w1 hvs => ⟨Nat.le_of_lt (sl_line' (by rw [sds_len hvs]; omega)), fun p hp => by
    have w2 := w1.trans (Vw.alloc (o := .lst vs) w1.up hp)
    have up2 : Same U1 (L2.upd H1 p (.lst vs)) := w1.up.trans (sA hp)
    refine ⟨M, p, xs, vs, rfl, rfl, w2.st _ _ (sH _ _ hM), upd_same, Nat.le_of_lt (sl_line' (by rw [sds_len hs, sds_len hvs]; exact hl)), fun L hL => ?_⟩
    have nL : U1 L = none := up2.free hL
    exact q L (xs ++ vs) U1 _ ⟨w1.lo, up2.trans (sA hL), w2.st.trans (sA hL), w1.lc⟩ (sds_app (sds_grow w1.lo hs) hvs) upd_same nL (w2.st.free hL)⟩⟩
/-- y = [..]: a new list, hidden from the view -/
theorem go_lstNewS {j : Nat} {Ts : List (Sd V)} (e : Rv (tr σ) U (sAs Ts)) (hl : Ts.length < 100000) (sH : Same U H)
    (q : ∀ L ys U' H', Vw U H U' H' → sds ys Ts U' → H' L = some (.lst ys) → U' L = none → H L = none → r D (σ.set j (some (.ref L))) H') : tSeq (tAsg (tLst tr) (gName j)) r D σ H :=
  e H sH _ fun vs U1 H1 w1 hvs => ⟨Nat.le_of_lt (sl_line' (by rw [sds_len hvs]; omega)), fun L hL => q L vs U1 _ ⟨w1.lo, w1.up.trans (sA hL), w1.st.trans (sA hL), w1.lc⟩ hvs upd_same (w1.up.free hL) (w1.st.free hL)⟩
/-- a hidden list comes into the view -/
theorem Vw.show (sH : Same U H) (n : U L = none) (h : H L = some o) : Same (L2.upd U L o) H ∧ Same U (L2.upd U L o) := ⟨fun b u e => by
  by_cases hb : b = L
  · subst hb; rw [upd_same] at e; rw [← e]; exact h
  · rw [upd_ne hb] at e; exact sH b u e, sA n⟩
/-- the target x, y -/
theorem tg_pair {K : PySem.W.Frag} {H : Hp} {i j : Nat} {σ : L2.St} {R : L2.St → Hp → Prop} {a : Addr} {x y : V} (h : SqT K H a [x, y]) (hR : R ((σ.set i (some x)).set j (some y)) H) : gTup K 2 (gCons (gName i) (gCons (gName j) gNil)) (.ref a) σ H R :=
  ⟨a, _, rfl, h, rfl, x, _, rfl, y, _, rfl, rfl, hR⟩
/-- all but k's part -/
theorem set_self {v : V} (h : σ[i]? = some (some v)) : σ.set i (some v) = σ := by
  refine List.ext_getElem? fun j => ?_
  rw [List.getElem?_set]
  by_cases e : i = j
  · subst e
    rw [if_pos rfl, if_pos (List.getElem?_eq_some_iff.mp h).1, h]
  · rw [if_neg e]
/-- if c: x = e (x in slot i holds the like before) -/
theorem go_ifSet {c : TT} {b : Bool} {v : V} (hc : Rv (c σ) U (sV b)) (h : b = true → Rv (te σ) U S) (hv : b = false → σ[i]? = some (some v) ∧ S.P v U) (sH : Same U H) (q : ∀ v U' H', Vw U H U' H' → S.P v U' → r D (σ.set i (some v)) H') :
    tSeq (tIfS c (tAsg te (gName i)) tNext) r D σ H := hc H sH _ fun x U1 H1 w hx => by
  cases hx
  cases b with
  | true => exact iteTT rfl (((h rfl).mono w.lo) H1 w.up _ fun v U2 H2 w2 h2 => q v U2 H2 (w.trans w2) h2)
  | false =>
    obtain ⟨h1, h2⟩ := hv rfl
    have z := q v U1 H1 w (S.g w.lo h2)
    rw [set_self h1] at z
    exact iteFF rfl z
end
end UN

/-! sorted lists of rows of ints; min of a list of tuples (int, row): one of them -/
namespace UN
open PySem PySem.Spec PyProof.Rows L2
def rowLe (x y : List Int) : Bool := decide (x ≤ y)
/-- rows, upwards -/
def srtR (rows : List (List Int)) : List (List Int) := rows.mergeSort rowLe
def rSortedR (K : PySem.W.Frag) : List V → Hp → VK → Prop := fun vs H Q => ∃ (a : Addr) (ks : List (Addr × List Int)), vs = [V.ref a] ∧ SqL K H a (refs ks) ∧ (∀ p ∈ ks, SqL K H p.1 (iv p.2)) ∧
  ∀ p : Addr, H p = none → Q (.ref p) (upd H p (.lst (refs (ks.mergeSort fun x y => rowLe x.2 y.2))))
theorem each_of {α β : Type} {R : α → β → Prop} {f : β → α} : ∀ {bs : List β}, (∀ b ∈ bs, R (f b) b) → PySem.W.EachIs R (bs.map f) bs
  | [], _ => .nil
  | b :: r, h => .cons (h b List.mem_cons_self) (each_of fun c hc => h c (List.mem_cons_of_mem _ hc))
theorem each_refs {α : Type} : ∀ {us : List Value} {bs : List (Addr × α)}, PySem.W.EachIs (fun v b => v = Value.ref b.1) us bs → us = bs.map fun q => Value.ref q.1
  | _, _, .nil => rfl
  | _, _, .cons h r => by rw [h, each_refs r]; rfl
theorem depth_row (r : List Int) : (PyData.list (r.map .int)).depth ≤ 1 := by
  show PyData.depthAll _ + 1 ≤ 1
  rw [PySem.W.depth_ints]
  exact Nat.le_refl _
theorem cr_sortedRK {X : Cx} (K : PySem.W.Frag) (hK : X.K = K) (hu : X.A.units + 64 < cLine) : CallR X (.builtin "sorted") (rSortedR K) := by
  cases hK
  intro pins s σ H vs us Q J r h
  obtain ⟨a, ks, rfl, hs, hk, q⟩ := h
  obtain ⟨its, rv, hl, hz⟩ := J.list hs
  rw [Vals.ref1 r]
  have e1 := vals_refs' ks rv
  subst e1
  rw [refs_len] at hz
  let enc : Addr × List Int → PyData := fun q => .list (q.2.map .int)
  have rd : PySem.W.EachIs (fun v b => ∃ as, Reads s.heap v (enc b) as) (ks.map fun q => Value.ref q.1) ks := each_of fun b hb => Dp.reads J _ _ _ (IsInts.dp (hk b hb)) rfl
  refine PySem.W.sorted_data (R := fun v b => v = Value.ref b.1) (enc := enc) hl.isList (each_of fun b _ => rfl) rd (PySem.W.AllAlike.of fun b b' => ?_) (PySem.W.Sortable.others fun b => ⟨PyData.noConfusion, fun _ => PyData.noConfusion⟩) hz (fun b _ => ?_) fun out h1 h2 => ?_
  · show PySem.W.alikeAll _ _ = true
    exact PySem.W.alike_ints _ _
  · have := depth_row b.2
    show X.A.units + 2 + (PyData.list (b.2.map .int)).depth < cLine
    omega
  · have ed : PySem.W.dataLe false enc = fun x y => rowLe x.2 y.2 := PySem.W.dataLe_rows fun q : Addr × List Int => q.2
    rw [ed] at h2
    have eo := each_refs h2
    have hn : H (s.heap.objs.size + 1) = none := J.hok.fresh (Nat.le_succ _)
    refine ⟨.ref (s.heap.objs.size + 1), upd H (s.heap.objs.size + 1) (.lst (refs (ks.mergeSort fun x y => rowLe x.2 y.2))), J.laid (t' := s.toks) (fun b o e => sortedAll_old e) (Nat.le_succ _) ⟨?_, (ks.mergeSort fun x y => rowLe x.2 y.2).map fun q => Value.ref q.1, ?_⟩, rfl, q _ hn⟩
    · rw [refs_len, List.length_mergeSort]; exact hz
    · obtain ⟨n, hn2⟩ := sortedAll_at s.heap (ks.map fun q => Value.ref q.1) out.toArray
      refine ⟨n, refs_vals _, ?_⟩
      rw [← eo]
      exact hn2
/-- min of a list of alike data: one of its items -/
def rMinA (K : PySem.W.Frag) : List V → Hp → VK → Prop := fun vs H Q => ∃ (a : Addr) (xs : List V) (d : PyData) (ds : List PyData), vs = [V.ref a] ∧ SqL K H a xs ∧ DpAll K H xs (d :: ds) ∧ PySem.W.AlikeAll (d :: ds) ∧ PyData.depthAll (d :: ds) ≤ 60 ∧
  ∀ (i : Nat) (v : V), xs[i]? = some v → Q v H
theorem cr_minAK {X : Cx} (K : PySem.W.Frag) (hK : X.K = K) (hc : X.calm = true) (hu : X.A.units + 64 < cLine) : CallR X (.builtin "min") (rMinA K) := by
  cases hK
  intro pins s σ H vs us Q J r h
  obtain ⟨a, xs, d, ds, rfl, hs, hd, ha, hdp, q⟩ := h
  obtain ⟨its, rv, hl, hz⟩ := J.list hs
  rw [Vals.ref1 r]
  obtain ⟨as, rd⟩ := Dp.readsAll J _ _ _ hd rv
  refine PySem.W.min_list_data (J.ok.hd hc) hl.isList (by simpa using rd) ha (by omega) fun i v h' tk bs hv _ hk => ?_
  have hv' : its[i]? = some v := by simpa using hv
  obtain ⟨x, hx, rx⟩ : ∃ x, xs[i]? = some x ∧ RelV x v := by
    clear hs hd hl rd hv r q hz
    induction rv generalizing i with
    | nil => cases hv'
    | cons r1 _ ih =>
      cases i with
      | zero => cases hv'; exact ⟨_, rfl, r1⟩
      | succ i => exact ih i hv'
  exact ⟨x, H, J.kept hk, rx, q i x hx⟩
section
variable {K : PySem.W.Frag} {σ : L2.St} {U : Hp} {ta : TE}
theorem map_srt : ∀ ks : List (Addr × List Int), vals (ks.mergeSort fun x y => rowLe x.2 y.2) = srtR (vals ks) := fun ks => by
  unfold srtR vals
  exact List.map_mergeSort (fun a _ b _ => rfl)
theorem ev_sortedR {rows : List (List Int)} (h : Rv (ta σ) U (sD K (dR rows))) : Rv (tCB (rSortedR K) (tCons ta tNil) σ) U (sL K ((srtR rows).map dI)) :=
  ev_cb1 h fun x U1 _ h1 H sH Q q => by
    obtain ⟨a, rfl, rs, e1, hs, hr⟩ := rows_of_dp h1
    refine ⟨a, rs, rfl, sH.seq hs, fun p hp => sH.seq (hr p hp), fun p hp => q _ _ _ (Vw.alloc sH hp) ⟨p, _, rfl, upd_same, ?_⟩⟩
    rw [← e1, ← map_srt]
    have all : ∀ rs' : List (Addr × List Int), (∀ r ∈ rs', SqL K U1 r.1 (iv r.2)) → DpAll K U1 (refs rs') ((vals rs').map dI) := fun rs' => by
      induction rs' with
      | nil => exact fun _ => .nil
      | cons r rs' ih => exact fun h => .cons (IsInts.dp (h r List.mem_cons_self)) (ih fun q hq => h q (List.mem_cons_of_mem _ hq))
    exact dpAll_grow' (sA (sH.free hp)) (all _ fun r hr' => hr r ((List.mergeSort_perm _ _).mem_iff.mp hr'))
end
end UN

/-! views: comprehensions with two clauses, loops, tests of membership -/
namespace UN
open PySem PySem.Spec PyProof.Rows L2
theorem sds_flat {H : Hp} : ∀ {xs ys : List V} {Ss Ts : List (Sd V)}, sds xs Ss H → sds ys Ts H → sds (xs ++ ys) (Ss ++ Ts) H := fun h k => sds_app h k
/-- the list D under way: what it holds, behind the view -/
def LcI (U1 H1 : Hp) (D : Addr) (Ss : List (Sd V)) (H2 : Hp) : Prop :=
  ∃ U2 acc, U2 D = none ∧ Same U1 U2 ∧ Same U2 H2 ∧ Same H1 H2 ∧ (∀ b o, U2 b = some o → U1 b = some o ∨ H1 b = none) ∧ H2 D = some (.lst acc) ∧ sds acc Ss U2
section
variable {K : PySem.W.Frag} {σ : L2.St} {U : Hp} {tl tl1 te : TE} {tt tt1 : TT} {g g1 : TG} {vs vs1 : List Nat} {xs : List V} {ys : Nat → List V} {gd : Nat → Nat → Option (Sd V)} {U1 H1 H2 U3 H3 : Hp} {D : Addr} {Ss : List (Sd V)} {S : Sd V}
theorem LcI.start (s1 : Same U1 H1) (hD : H1 D = none) : LcI U1 H1 D [] (L2.upd H1 D (.lst [])) :=
  ⟨U1, [], s1.free hD, Same.refl _, s1.trans (sA hD), sA hD, fun _ _ h => .inl h, upd_same, trivial⟩
theorem LcI.fin (hD : H1 D = none) (h : LcI U1 H1 D Ss H2) : ∃ U', Vw U1 H1 U' H2 ∧ (sLs Ss).P (.ref D) U' := by
  obtain ⟨U2, acc, nD, s12, s2, sH2, lc, hDa, hacc⟩ := h
  refine ⟨L2.upd U2 D (.lst acc), ⟨s12.trans (sA nD), fun b o h => ?_, sH2, fun b o h => ?_⟩, D, acc, rfl, upd_same, sds_grow (sA nD) hacc⟩
  · by_cases hb : b = D
    · subst hb; rw [upd_same] at h; rw [← h]; exact hDa
    · rw [upd_ne hb] at h; exact s2 b o h
  · by_cases hb : b = D
    · subst hb; exact .inr hD
    · rw [upd_ne hb] at h; exact lc b o h
/-- a turn: tests and element -/
theorem LcI.turn {o : Option (Sd V)} (hD : H1 D = none) {U2 : Hp} {acc : List V} (nD : U2 D = none) (s12 : Same U1 U2) (s2 : Same U2 H2) (sH2 : Same H1 H2) (lc : ∀ b o, U2 b = some o → U1 b = some o ∨ H1 b = none) (hDa : H2 D = some (.lst acc)) (hacc : sds acc Ss U2) (hl : acc.length < 100000)
    (he : LcT tt te σ U2 o) {Nx : Hp → Prop} (q : ∀ H', LcI U1 H1 D (Ss ++ o.toList) H' → Nx H') :
    tt σ H2 fun b H3 => if b = true then te σ H3 fun y H4 => ∃ acc, H4 D = some (.lst acc) ∧ acc.length < sizeLine ∧ Nx (L2.upd H4 D (.lst (acc ++ [y]))) else Nx H3 := by
  have more : ∀ {U4 H4 : Hp}, Vw U2 H2 U4 H4 → Same H1 H4 ∧ (∀ b o, U4 b = some o → U1 b = some o ∨ H1 b = none) ∧ H4 D = some (.lst acc) ∧ U4 D = none := fun {U4 H4} w4 => by
    refine ⟨sH2.trans w4.st, fun b o h => ?_, w4.st _ _ hDa, Vw.no' w4 nD hDa⟩
    rcases w4.lc b o h with z | z
    · exact lc b o z
    · cases e : H1 b with
      | none => exact .inr rfl
      | some u => rw [sH2 b u e] at z; cases z
  cases o with
  | none =>
    refine he H2 s2 _ fun b U4 H4 w4 hb => ?_
    cases hb
    obtain ⟨m1, m2, m3, m4⟩ := more w4
    refine iteFF rfl (q _ ⟨U4, acc, m4, s12.trans w4.lo, w4.up, m1, m2, m3, ?_⟩)
    rw [show Ss ++ (none : Option (Sd V)).toList = Ss from List.append_nil _]
    exact sds_grow w4.lo hacc
  | some S =>
    refine he.1 H2 s2 _ fun b U4 H4 w4 hb => ?_
    cases hb
    refine iteTT rfl ((he.2.mono w4.lo) H4 w4.up _ fun y U5 H5 w5 hy => ?_)
    have w35 := w4.trans w5
    obtain ⟨m1, m2, m3, m4⟩ := more w35
    refine ⟨acc, m3, sl_line' hl, q _ ⟨U5, acc ++ [y], m4, s12.trans w35.lo, fun b o h => ?_, fun b o h => ?_, m2, upd_same, ?_⟩⟩
    · have hb : b ≠ D := fun z => by rw [z, m4] at h; cases h
      rw [upd_ne hb]; exact w35.up b o h
    · have hb : b ≠ D := fun z => by rw [z, hD] at h; cases h
      rw [upd_ne hb]; exact m1 b o h
    · exact sds_snoc (sds_grow w35.lo hacc) hy
theorem LcI.wide {U4 : Hp} (s : Same U1 U4) (lc : ∀ b o, U4 b = some o → U1 b = some o ∨ H1 b = none) (h : LcI U4 H1 D Ss H2) : LcI U1 H1 D Ss H2 := by
  obtain ⟨U2, acc, nD, s12, s2, sH2, lc2, hDa, hacc⟩ := h
  refine ⟨U2, acc, nD, s.trans s12, s2, sH2, fun b o h => ?_, hDa, hacc⟩
  rcases lc2 b o h with z | z
  · exact lc b o z
  · exact .inr z
/-- [te for x in xs for y in ys if tt1] -/
theorem ev_lc2 (hl : Rv (tl σ) U (sQ K xs)) (hx : ∀ i, i < xs.length → ((List.range i).flatMap fun i => (List.range (ys i).length).filterMap (gd i)).length + (ys i).length < 100000)
    (hi : ∀ (i : Nat) (x : V), xs[i]? = some x → ∀ U2, Same U U2 → ∃ σ', (∀ H, Same U2 H → ∀ R : L2.St → Hp → Prop, R σ' H → g x (wipe σ vs) H R) ∧ wipe σ' vs = wipe σ vs ∧ Rv (tl1 σ') U2 (sQ K (ys i)) ∧
      ∀ (j : Nat) (y : V), (ys i)[j]? = some y → ∀ U3, Same U2 U3 → ∃ σ2, (∀ H, Same U3 H → ∀ R : L2.St → Hp → Prop, R σ2 H → g1 y (wipe σ' vs1) H R) ∧ wipe σ2 vs1 = wipe σ' vs1 ∧ LcT tt1 te σ2 U3 (gd i j)) :
    Rv (tLc2 (iList K tl) g tYes (iList K tl1) g1 tt1 te vs vs1 σ) U (sLs ((List.range xs.length).flatMap fun i => (List.range (ys i).length).filterMap (gd i))) := by
  intro H sH Q q
  refine hl H sH _ fun v U1 H1 w ha => ?_
  obtain ⟨a, rfl, ha⟩ := ha
  have s1 := w.up
  let Bo : Nat → List (Sd V) := fun i => (List.range i).flatMap fun i => (List.range (ys i).length).filterMap (gd i)
  refine ⟨a, rfl, ⟨xs, s1.seq ha⟩, fun D hD => ⟨fun i m H2 => i + m = xs.length ∧ LcI U1 H1 D (Bo i) H2, ⟨xs.length, by omega, LcI.start s1 hD⟩, ?_⟩⟩
  rintro i m H2 ⟨em, hI⟩
  by_cases hin : i < xs.length
  · obtain ⟨U2, acc, nD, s12, s2, sH2, lc, hDa, hacc⟩ := hI
    have hq := s2.seq (s12.seq ha)
    refine .inr ⟨⟨xs, xs[i], hq, by simp [hin]⟩, fun H' => LcI U1 H1 D (Bo (i + 1)) H', fun H' h => ⟨m - 1, by omega, by omega, h⟩, ?_⟩
    rintro x H3 ⟨rfl, f⟩
    obtain ⟨σ', h1, h2, h3, h4⟩ := hi i x (f xs hq) U2 (w.lo.trans s12)
    refine h1 _ s2 _ ⟨h2, ?_⟩
    unfold tYes
    dsimp only
    rw [if_pos rfl]
    refine h3 H3 s2 _ fun v U4 H4 w4 hb => ?_
    obtain ⟨b, rfl, hb⟩ := hb
    have lc4 : ∀ b o, U4 b = some o → U1 b = some o ∨ H1 b = none := fun b o h => by
      rcases w4.lc b o h with z | z
      · exact lc b o z
      · cases e : H1 b with
        | none => exact .inr rfl
        | some u => rw [sH2 b u e] at z; cases z
    have s14 := s12.trans w4.lo
    let Bs : Nat → List (Sd V) := fun j => Bo i ++ (List.range j).filterMap (gd i)
    refine ⟨b, rfl, ⟨_, w4.up.seq hb⟩, fun j k H5 => j + k = (ys i).length ∧ LcI U4 H1 D (Bs j) H5, ⟨(ys i).length, by omega, U4, acc, Vw.no' w4 nD hDa, Same.refl _, w4.up, sH2.trans w4.st, fun b o h => .inl h, w4.st _ _ hDa, ?_⟩, ?_⟩
    · show sds acc (Bo i ++ []) U4
      rw [List.append_nil]
      exact sds_grow w4.lo hacc
    · rintro j k H5 ⟨ek, hJ⟩
      by_cases hjn : j < (ys i).length
      · obtain ⟨U5, acc5, nD5, s45, s5, sH5, lc5, hD5, hacc5⟩ := hJ
        have hq5 := s5.seq (s45.seq hb)
        refine .inr ⟨⟨ys i, (ys i)[j], hq5, by simp [hjn]⟩, fun H' => LcI U4 H1 D (Bs (j + 1)) H', fun H' h => ⟨k - 1, by omega, by omega, h⟩, ?_⟩
        rintro y H6 ⟨rfl, f6⟩
        obtain ⟨σ2, k1, k2, k3⟩ := h4 j y (f6 _ hq5) U5 (w4.lo.trans s45)
        refine k1 _ s5 _ ⟨k2, LcI.turn hD nD5 s45 s5 sH5 lc5 hD5 hacc5 ?_ k3 fun H' h => ?_⟩
        · rw [sds_len hacc5]
          show (Bo i ++ (List.range j).filterMap (gd i)).length < 100000
          rw [List.length_append]
          have := Nat.le_trans (List.length_filterMap_le (gd i) (List.range j)) (Nat.le_of_eq List.length_range)
          show (Bo i).length + _ < _
          have e : (Bo i).length + (ys i).length < 100000 := hx i hin
          omega
        · have e : Bs (j + 1) = Bs j ++ (gd i j).toList := by
            show Bo i ++ (List.range (j + 1)).filterMap (gd i) = Bo i ++ (List.range j).filterMap (gd i) ++ _
            rw [List.range_succ, List.filterMap_append, List.append_assoc]
            congr 2
          rw [e]
          exact h
      · have ej : j = (ys i).length := by omega
        subst ej
        refine .inl ⟨⟨ys i, ?_, Nat.le_refl _⟩, ?_⟩
        · obtain ⟨U5, _, _, s45, s5, _⟩ := hJ
          exact s5.seq (s45.seq hb)
        · have e : Bo (i + 1) = Bs (ys i).length := by
            show (List.range (i + 1)).flatMap _ = _
            rw [List.range_succ, List.flatMap_append, List.flatMap_cons, List.flatMap_nil, List.append_nil]
          rw [e]
          exact hJ.wide s14 lc4
  · have ei : i = xs.length := by omega
    subst ei
    obtain ⟨U', w', hs⟩ := LcI.fin hD hI
    refine .inl ⟨⟨xs, w'.up.seq (w'.lo.seq ha), Nat.le_refl _⟩, q _ U' H2 (w.trans w') hs⟩
end
/-! loops -/
section
variable {K : PySem.W.Frag} {σ : L2.St} {U H : Hp} {tl ta tb : TE} {j : Nat} {xs : List V} {D : Ends} {tB r : TS}
/-- for x in xs: .. -/
theorem go_forQ (hl : Rv (tl σ) U (sQ K xs)) (sH : Same U H)
    (q : ∀ U1 H1, Vw U H U1 H1 → ∃ Pv : Nat → L2.St → Hp → Prop, Pv 0 σ H1 ∧ (∀ i σ H, Pv i σ H → Same U1 H) ∧
      (∀ i x σ H, xs[i]? = some x → Pv i σ H → tB { D with nx := Pv (i + 1), ct := Pv (i + 1), bk := r D } (σ.set j (some x)) H) ∧ ∀ σ H, Pv xs.length σ H → r D σ H) :
    tSeq (tFor (iList K tl) (gName j) tB) r D σ H := hl H sH _ fun v U1 H1 w ha => by
  obtain ⟨a, rfl, ha⟩ := ha
  obtain ⟨Pv, p0, p1, p2, p3⟩ := q U1 H1 w
  exact ⟨a, rfl, ⟨xs, w.up.seq ha⟩, for_list (K := K) (a := a) (xs := xs) Pv p0 (fun i σ H _ h => (p1 i σ H h).seq ha) (fun i x σ H hx h => p2 i x σ H hx h) p3⟩
/-- for i in range(hi): .. -/
theorem go_forR1 {hi : Int} (ha : Rv (ta σ) U (sV (.int hi))) (ok : -(2 ^ 62) ≤ hi ∧ hi < 2 ^ 62) (sH : Same U H)
    (q : ∀ U1 H1, Vw U H U1 H1 → ∃ Pv : Nat → L2.St → Hp → Prop, Pv 0 σ H1 ∧
      (∀ i σ H, i < hi.toNat → Pv i σ H → tB { D with nx := Pv (i + 1), ct := Pv (i + 1), bk := r D } (σ.set j (some (.int (0 + i)))) H) ∧ ∀ σ H, Pv hi.toNat σ H → r D σ H) :
    tSeq (tFor (iRng1 (tCons ta tNil)) (gName j) tB) r D σ H := ha H sH _ fun v U1 H1 w h => by
  cases h
  obtain ⟨Pv, p0, p2, p3⟩ := q U1 H1 w
  exact ⟨hi, rfl, ok.1, ok.2, for_n hi.toNat Pv p0 (fun i σ H hi h => ⟨hi, fun x H' e => by obtain ⟨rfl, rfl⟩ := e; exact p2 i σ _ hi h⟩) fun σ H h => ⟨Nat.le_refl _, p3 σ H h⟩⟩
/-- for i in range(lo, hi): .. -/
theorem go_forR2 {lo hi : Int} (ha : Rv (ta σ) U (sV (.int lo))) (hb : Rv (tb σ) U (sV (.int hi))) (ok : -(2 ^ 62) ≤ lo ∧ lo < 2 ^ 62 ∧ -(2 ^ 62) ≤ hi ∧ hi < 2 ^ 62) (sH : Same U H)
    (q : ∀ U1 H1, Vw U H U1 H1 → ∃ Pv : Nat → L2.St → Hp → Prop, Pv 0 σ H1 ∧
      (∀ i σ H, i < (hi - lo).toNat → Pv i σ H → tB { D with nx := Pv (i + 1), ct := Pv (i + 1), bk := r D } (σ.set j (some (.int (lo + i)))) H) ∧ ∀ σ H, Pv (hi - lo).toNat σ H → r D σ H) :
    tSeq (tFor (iRng2 (tCons ta (tCons tb tNil))) (gName j) tB) r D σ H := ha H sH _ fun v U1 H1 w1 h1 => (hb.mono w1.lo) H1 w1.up _ fun v2 U2 H2 w2 h2 => by
  cases h1; cases h2
  obtain ⟨Pv, p0, p2, p3⟩ := q U2 H2 (w1.trans w2)
  exact ⟨lo, hi, rfl, ok, for_n (hi - lo).toNat Pv p0 (fun i σ H hi h => ⟨hi, fun x H' e => by obtain ⟨rfl, rfl⟩ := e; exact p2 i σ _ hi h⟩) fun σ H h => ⟨Nat.le_refl _, p3 σ H h⟩⟩
/-- x = e, at the end of a block -/
theorem go_setE {te : TE} {S : Sd V} (e : Rv (te σ) U S) (sH : Same U H) (q : ∀ v U' H', Vw U H U' H' → S.P v U' → D.nx (σ.set j (some v)) H') : tAsg te (gName j) D σ H := e H sH _ q
end
/-! lists times a truth value -/
section
variable {K : PySem.W.Frag} {σ : L2.St} {U : Hp} {ta tb : TE} {ds : List PyData} {b : Bool} {Ss : List (Sd V)}
theorem ev_intB (ha : Rv (ta σ) U (sV (.bl b))) : Rv (tCB (fun xs H Q => (∃ i, xs = [.int i] ∧ Q (.int i) H) ∨ ∃ k, xs = [.bl k] ∧ Q (.int (if k then 1 else 0)) H) (tCons ta tNil) σ) U (sV (.int (if b then 1 else 0))) :=
  ev_cb1 ha fun x U1 _ h H sH Q q => by
    cases h
    exact .inr ⟨b, rfl, q _ _ _ (Vw.refl sH) rfl⟩
theorem ev_repS (ha : Rv (ta σ) U (sLs Ss)) (hb : Rv (tb σ) U (sV (.int (if b then 1 else 0)))) (hl : Ss.length < 100000) : Rv (tOp rRep ta tb σ) U (sLs (if b then Ss else [])) :=
  ev_op ha hb fun x y U1 _ h1 h2 H sH Q q => by
    cases h2
    obtain ⟨a, xs, rfl, k1, k2⟩ := h1
    cases b with
    | true =>
      refine ⟨a, 1, xs, rfl, rfl, sH _ _ k1, by decide, by decide, Nat.le_of_lt (sl_line' (by rw [sds_len k2]; show Ss.length * 1 < 100000; omega)), fun p hp => q _ _ _ (Vw.alloc sH hp) ⟨p, _, rfl, upd_same, ?_⟩⟩
      have e : (List.replicate (1 : Int).toNat xs).flatten = xs := by show (xs ++ []) = xs; exact List.append_nil xs
      rw [e]
      exact sds_grow (sA (sH.free hp)) k2
    | false => exact ⟨a, 0, xs, rfl, rfl, sH _ _ k1, by decide, by decide, Nat.zero_le _, fun p hp => q _ _ _ (Vw.alloc sH hp) ⟨p, _, rfl, upd_same, trivial⟩⟩
theorem sL_sLs {v : V} : (sL K ds).P v U ↔ (sLs (ds.map (sD K))).P v U := by
  constructor
  · rintro ⟨a, xs, rfl, h1, h2⟩; exact ⟨a, xs, rfl, h1, dps_sds h2⟩
  · rintro ⟨a, xs, rfl, h1, h2⟩; exact ⟨a, xs, rfl, h1, sds_dps h2⟩
theorem ev_repD (ha : Rv (ta σ) U (sL K ds)) (hb : Rv (tb σ) U (sV (.int (if b then 1 else 0)))) (hl : ds.length < 100000) : Rv (tOp rRep ta tb σ) U (sL K (if b then ds else [])) := by
  have h := ev_repS (ha.imp fun v U' _ h => sL_sLs.mp h) hb (by rw [List.length_map]; exact hl)
  refine h.imp fun v U' _ h => sL_sLs.mpr ?_
  cases b <;> exact h
end
/-! membership -/
section
variable {K : PySem.W.Frag} {σ : L2.St} {U : Hp} {ta tb : TE} {d : PyData} {ds : List PyData} {α : Type} {enc : α → PyData} {l : List α} {x : α} [inst : Decidable (x ∈ l)]
theorem any_mem (h : ∀ a b, PyData.eqv (enc a) (enc b) = true ↔ a = b) : ((l.map enc).any fun z => PyData.eqv z (enc x)) = decide (x ∈ l) := by
  rw [Bool.eq_iff_iff, decide_eq_true_iff, List.any_eq_true]
  constructor
  · rintro ⟨z, hz, e⟩
    obtain ⟨y, hy, rfl⟩ := List.mem_map.mp hz
    cases (h y x).mp e
    exact hy
  · exact fun hx => ⟨enc x, List.mem_map.mpr ⟨x, hx, rfl⟩, (h x x).mpr rfl⟩
theorem eqE (a b : Int × Int) : PyData.eqv (dE a) (dE b) = true ↔ a = b := by rw [eqv_dE]; exact decide_eq_true_iff
theorem eqI (a b : List Int) : PyData.eqv (dI a) (dI b) = true ↔ a = b := by rw [eqv_dI]; exact decide_eq_true_iff
theorem ev_inD (ha : Rv (ta σ) U (sD K d)) (hb : Rv (tb σ) U (sD K (.list ds))) (h1 : SeqAt.shaped d = true) (h2 : SeqAt.shaped (.list ds) = true) : Rv (tOp (rInD K) ta tb σ) U (sV (.bl (ds.any fun z => PyData.eqv z d))) :=
  ev_op ha hb fun x y U1 _ k1 k2 H sH Q q => ⟨d, ds, Dp.grow sH _ _ k1, Dp.grow sH _ _ k2, h1, h2, q _ _ _ (Vw.refl sH) rfl⟩
theorem ev_ninD (ha : Rv (ta σ) U (sD K d)) (hb : Rv (tb σ) U (sD K (.list ds))) (h1 : SeqAt.shaped d = true) (h2 : SeqAt.shaped (.list ds) = true) : Rv (tOp (rNotInD K) ta tb σ) U (sV (.bl (!ds.any fun z => PyData.eqv z d))) :=
  ev_op ha hb fun x y U1 _ k1 k2 H sH Q q => ⟨d, ds, Dp.grow sH _ _ k1, Dp.grow sH _ _ k2, h1, h2, q _ _ _ (Vw.refl sH) rfl⟩
theorem ev_inA (h : ∀ a b, PyData.eqv (enc a) (enc b) = true ↔ a = b) (ha : Rv (ta σ) U (sD K (enc x))) (hb : Rv (tb σ) U (sD K (.list (l.map enc)))) (h1 : SeqAt.shaped (enc x) = true) (h2 : SeqAt.shaped (.list (l.map enc)) = true) : Rv (tOp (rInD K) ta tb σ) U (sV (.bl (decide (x ∈ l)))) := by
  have k := ev_inD ha hb h1 h2
  rwa [any_mem h] at k
theorem ev_ninA (h : ∀ a b, PyData.eqv (enc a) (enc b) = true ↔ a = b) (ha : Rv (ta σ) U (sD K (enc x))) (hb : Rv (tb σ) U (sD K (.list (l.map enc)))) (h1 : SeqAt.shaped (enc x) = true) (h2 : SeqAt.shaped (.list (l.map enc)) = true) : Rv (tOp (rNotInD K) ta tb σ) U (sV (.bl (!decide (x ∈ l)))) := by
  have k := ev_ninD ha hb h1 h2
  rwa [any_mem h] at k
end
/-- range with a keep function that is a filter -/
theorem range_flt {α : Type} {f : Nat → Option (Sd V)} (enc : α → Sd V) (k : α → Bool) : ∀ {l : List α}, (∀ i x, l[i]? = some x → f i = if k x = true then some (enc x) else none) → (List.range l.length).filterMap f = (l.filter k).map enc := fun {l} h => by
  have go : ∀ n, n ≤ l.length → (List.range n).filterMap f = ((l.take n).filter k).map enc := fun n => by
    induction n with
    | zero => exact fun _ => rfl
    | succ n ih =>
      intro hn
      have hx : l[n]? = some l[n] := List.getElem?_eq_getElem (by omega)
      rw [List.range_succ, List.filterMap_append, ih (by omega), List.take_succ_eq_append_getElem (by omega : n < l.length), List.filter_append, List.map_append]
      congr 1
      rw [List.filterMap_cons, h n _ hx, List.filterMap_nil]
      cases z : k l[n] <;> simp [z]
  rw [go _ (Nat.le_refl _), List.take_length]
end UN

/-! views: filters, slices, sorted, rows -/
namespace UN
open PySem PySem.Spec PyProof.Rows L2
section
variable {K : PySem.W.Frag} {σ : L2.St} {U : Hp} {tl ta tb : TE} {ns : List Int} {m : Int} {ds : List PyData}
theorem ev_inI (ha : Rv (ta σ) U (sV (.int m))) (hb : Rv (tb σ) U (sD K (dI ns))) : Rv (tOp (rIn K false) ta tb σ) U (sV (.bl (decide (m ∈ ns)))) :=
  ev_op ha hb fun x y U1 _ h1 h2 H sH Q q => by
    cases h1
    obtain ⟨a, rfl, hs⟩ := ints_of_dp h2
    refine ⟨a, iv ns, rfl, .inl (sH.seq hs), rfl, ?_, ?_⟩
    · exact List.all_eq_true.mpr fun v hv => by obtain ⟨i, _, rfl⟩ := List.mem_map.mp hv; rfl
    · rw [inV_iv]
      exact q _ _ _ (Vw.refl sH) rfl
def rTupOf (K : PySem.W.Frag) : List V → Hp → VK → Prop := fun xs H Q => ∃ p ys, xs = [.ref p] ∧ ((SqL K H p ys ∧ ∀ l, H l = none → Q (.ref l) (L2.upd H l (.tup ys))) ∨ (SqT K H p ys ∧ Q (.ref p) H))
theorem call_tuple_ofK {X : Cx} (K : PySem.W.Frag) (hK : X.K = K) : CallR X (.type "tuple") (rTupOf K) := by
  cases hK
  exact call_tuple_of
theorem dp_ivs {H : Hp} : ∀ l : List Int, DpAll K H (iv l) (l.map PyData.int)
  | [] => .nil
  | i :: l => .cons (.int i) (dp_ivs l)
theorem dpAll_take {H : Hp} : ∀ {xs : List V} {ds : List PyData} {k : Nat}, DpAll K H xs ds → DpAll K H (xs.take k) (ds.take k)
  | _, _, 0, _ => by rw [List.take_zero, List.take_zero]; exact .nil
  | _, _, k + 1, .nil => .nil
  | _, _, k + 1, .cons a b => .cons a (dpAll_take b)
theorem dpAll_drop {H : Hp} : ∀ {xs : List V} {ds : List PyData} {k : Nat}, DpAll K H xs ds → DpAll K H (xs.drop k) (ds.drop k)
  | _, _, 0, h => h
  | _, _, k + 1, .nil => .nil
  | _, _, k + 1, .cons a b => by rw [List.drop_succ_cons, List.drop_succ_cons]; exact dpAll_drop b
/-- xs[:-1] -/
theorem ev_init (h : Rv (ta σ) U (sD K (.list ds))) : Rv (tSl (rSlL K) ta tNoPart (tPart (tUn (rU fun i => .int (-i)) (tC (.int 1)))) σ) U (sL K ds.dropLast) := fun H s Q q => h H s _ fun x U1 H1 w1 h1 => by
  obtain ⟨a, xs, rfl, hs, ha⟩ := list_of_dp h1
  refine ⟨1, rfl, _, rfl, a, xs, rfl, w1.up.seq hs, fun p hp => q _ _ _ (w1.trans (Vw.alloc w1.up hp)) ⟨p, _, rfl, upd_same, ?_⟩⟩
  show DpAll K _ (cutV xs none (some (-1))) _
  rw [cut_last, List.dropLast_eq_take, List.dropLast_eq_take, dpAll_len ha]
  exact dpAll_grow' (sA (w1.up.free hp)) (dpAll_take ha)
/-- xs[:k] -/
theorem ev_to {k : Nat} (h : Rv (ta σ) U (sD K (.list ds))) (hk : Rv (tb σ) U (sV (.int (k : Int)))) : Rv (tSl (rSlL K) ta tNoPart (tPart tb) σ) U (sL K (ds.take k)) := fun H s Q q => h H s _ fun x U1 H1 w1 h1 => (hk.mono w1.lo) H1 w1.up _ fun y U2 H2 w2 h2 => by
  cases h2
  obtain ⟨a, xs, rfl, hs, ha⟩ := list_of_dp ((sD K _).g w2.lo h1)
  refine ⟨_, rfl, a, xs, rfl, w2.up.seq hs, fun p hp => q _ _ _ ((w1.trans w2).trans (Vw.alloc w2.up hp)) ⟨p, _, rfl, upd_same, ?_⟩⟩
  rw [cut_to]
  exact dpAll_grow' (sA (w2.up.free hp)) (dpAll_take ha)
/-- xs[k:] -/
theorem ev_from {k : Nat} (h : Rv (ta σ) U (sD K (.list ds))) (hk : Rv (tb σ) U (sV (.int (k : Int)))) : Rv (tSl (rSlL K) ta (tPart tb) tNoPart σ) U (sL K (ds.drop k)) := fun H s Q q => h H s _ fun x U1 H1 w1 h1 => (hk.mono w1.lo) H1 w1.up _ fun y U2 H2 w2 h2 => by
  cases h2
  obtain ⟨a, xs, rfl, hs, ha⟩ := list_of_dp ((sD K _).g w2.lo h1)
  refine ⟨_, rfl, a, xs, rfl, w2.up.seq hs, fun p hp => q _ _ _ ((w1.trans w2).trans (Vw.alloc w2.up hp)) ⟨p, _, rfl, upd_same, ?_⟩⟩
  rw [cut_from]
  exact dpAll_grow' (sA (w2.up.free hp)) (dpAll_drop ha)
theorem ev_sortedI (h : Rv (ta σ) U (sD K (dI ns))) : Rv (tCB (rSortedI K) (tCons ta tNil) σ) U (sD K (dI (srt ns))) :=
  ev_cb1 h fun x U1 _ h1 H sH Q q => by
    obtain ⟨a, rfl, hs⟩ := ints_of_dp h1
    refine ⟨a, ns, rfl, sH.seq hs, fun ns' p pm pw hp => q _ _ _ (Vw.alloc sH hp) ?_⟩
    rw [← srt_of pm pw]
    exact IsInts.dp (SqL.of upd_same)
theorem srt_eq {l m : List Int} (p : l.Perm m) : srt l = srt m := asc_unique ((srt_perm l).trans (p.trans (srt_perm m).symm)) (srt_asc l) (srt_asc m)
/-! rows -/
def sRow (K : PySem.W.Frag) (r : List Int) : Sd V := sL K (r.map PyData.int)
def sRows (K : PySem.W.Frag) (rows : List (List Int)) : Sd V := sLs (rows.map (sRow K))
theorem sds_rowD {H : Hp} : ∀ {xs : List V} {rows : List (List Int)}, sds xs (rows.map (sRow K)) H → DpAll K H xs (rows.map dI)
  | [], [], _ => .nil
  | _ :: _, _ :: _, h => by
    obtain ⟨⟨a, ys, rfl, h1, h2⟩, h3⟩ := h
    exact .cons (.lst (SqL.of h1) h2) (sds_rowD h3)
theorem ev_rowsD {rows : List (List Int)} (h : Rv (ta σ) U (sRows K rows)) : Rv (ta σ) U (sD K (dR rows)) := h.imp fun v U' _ h => by
  obtain ⟨a, xs, rfl, h1, h2⟩ := h
  exact .lst (SqL.of h1) (sds_rowD h2)
theorem sds_rowsOf {H : Hp} : ∀ {rs : List (Addr × List Int)}, (∀ r ∈ rs, H r.1 = some (.lst (iv r.2))) → sds (refs rs) ((vals rs).map (sRow K)) H
  | [], _ => trivial
  | r :: rs, h => ⟨⟨r.1, iv r.2, rfl, h r List.mem_cons_self, by
    have : ∀ l : List Int, DpAll K H (iv l) (l.map PyData.int) := fun l => by
      induction l with
      | nil => exact .nil
      | cons i l ih => exact .cons (.int i) ih
    exact this r.2⟩, sds_rowsOf fun q hq => h q (List.mem_cons_of_mem _ hq)⟩
theorem rows_new {H H' : Hp} {rs : List (Addr × List Int)} {t : Addr} (l : Loc H H' ((t, .lst (refs rs)) :: rowL rs)) : (sRows K (vals rs)).P (.ref t) (grown U H H') :=
  ⟨t, refs rs, rfl, l.grown (t, _) List.mem_cons_self, sds_rowsOf fun r hr => l.grown (r.1, .lst (iv r.2)) (List.mem_cons_of_mem _ (List.mem_map.mpr ⟨r, hr, rfl⟩))⟩
theorem sds_rowSs {H : Hp} : ∀ {xs : List V} {rows : List (List Int)}, sds xs (rows.map (sRow K)) H → ∃ rs : List (Addr × List V), xs = refs rs ∧ (∀ r ∈ rs, H r.1 = some (.lst r.2)) ∧ (vals rs).flatten = iv rows.flatten
  | [], [], _ => ⟨[], rfl, (fun _ z => nomatch z), rfl⟩
  | x :: xs, row :: rows, h => by
    obtain ⟨⟨a, ys, rfl, h1, h2⟩, h3⟩ := h
    obtain ⟨rs, rfl, k1, k2⟩ := sds_rowSs h3
    cases iv_of_dps h2
    refine ⟨(a, iv row) :: rs, rfl, fun r hr => ?_, ?_⟩
    · rcases List.mem_cons.mp hr with rfl | hr
      · exact h1
      · exact k1 r hr
    · show iv row ++ (vals rs).flatten = iv (row ++ rows.flatten)
      rw [k2]
      exact List.map_append.symm
/-- sum(rows, []) -/
theorem ev_sumR {rows : List (List Int)} (ha : Rv (ta σ) U (sRows K rows)) (hb : Rv (tb σ) U (sL K [])) (hl : rows.flatten.length < 100000) : Rv (tCB (rSumL K) (tCons ta (tCons tb tNil)) σ) U (sD K (dI rows.flatten)) :=
  Rv.bind (ρ := ta σ) ha fun x U1 s1 h1 => Rv.bind (ρ := tb σ) (hb.mono s1) fun y U2 s2 h2 H sH Q q => by
    obtain ⟨a, xs, rfl, k1, k2⟩ := (sRows K _).g s2 h1
    obtain ⟨e, es, rfl, k3, k4⟩ := h2
    obtain rfl : es = [] := by
      cases k4; rfl
    obtain ⟨rs, rfl, m1, m2⟩ := sds_rowSs k2
    refine ⟨a, e, rs, rfl, sH.seq (SqL.of k1), fun r hr => sH _ _ (m1 r hr), sH _ _ k3, Nat.le_of_lt (sl_line' (by rw [m2, iv_len]; exact hl)), fun z => ?_, fun _ p hp => q _ _ _ (Vw.alloc sH hp) ?_⟩
    · subst z
      have : rows.flatten = [] := by
        have h : iv rows.flatten = [] := m2.symm
        cases z2 : rows.flatten with
        | nil => rfl
        | cons _ _ => rw [z2] at h; cases h
      refine q _ _ _ (Vw.refl sH) ?_
      show Dp K U2 (.ref e) (dI rows.flatten)
      rw [this]
      exact IsInts.dp (SqL.of k3)
    · rw [m2]
      exact IsInts.dp (SqL.of upd_same)
/-- [x for x in xs if tt], x in slot j -/
theorem ev_flt {α : Type} {enc : α → Sd V} {l : List α} {k : α → Bool} {j : Nat} {vs : List Nat} {tt : TT} (hl : Rv (tl σ) U (sLs (l.map enc))) (hx : l.length < 100000) (hw : ∀ x, wipe ((wipe σ vs).set j (some x)) vs = wipe σ vs) (hj : ∀ x, ((wipe σ vs).set j (some x))[j]? = some (some x))
    (he : ∀ x a U1, a ∈ l → Same U U1 → (enc a).P x U1 → Rv (tt ((wipe σ vs).set j (some x))) U1 (sV (k a))) : Rv (tLc (iList K tl) (gName j) tt (tVar j) vs σ) U (sLs ((l.filter k).map enc)) := by
  refine Rv.bind (ρ := tl σ) hl fun x U1 s1 h1 => ?_
  obtain ⟨a, xs, rfl, h1, h2⟩ := h1
  have xl : xs.length = l.length := by rw [sds_len h2, List.length_map]
  have h := ev_lc (K := K) (σ := σ) (U := U1) (tl := tC (.ref a)) (g := gName j) (tt := tt) (te := tVar j) (vs := vs) (xs := xs) (gd := fun i => match l[i]? with | some b => if k b = true then some (enc b) else none | none => none)
    (Rv.ret ⟨a, rfl, SqL.of h1⟩) (by omega) fun i x hx U2 s2 => ⟨(wipe σ vs).set j (some x), fun H _ R hR => hR, hw x, by
      obtain ⟨S, hS, hx2⟩ := sds_get h2 hx
      rw [List.getElem?_map] at hS
      cases el : l[i]? with
      | none => rw [el] at hS; cases hS
      | some b =>
        rw [el] at hS
        cases hS
        have hb := (enc b).g s2 hx2
        have T := he x b U2 (List.mem_of_getElem? el) (s1.trans s2) hb
        dsimp only
        cases kb : k b with
        | true => rw [kb] at T; rw [if_pos rfl]; exact ⟨T, ev_var (hj x) hb⟩
        | false => rw [kb] at T; rw [if_neg (by decide)]; exact T⟩
  rw [xl, range_flt enc k fun i b hb => by rw [hb]] at h
  exact h
/-- [te for x in xs], x in slot j -/
theorem ev_map {α : Type} {enc f : α → PyData} {l : List α} {j : Nat} {vs : List Nat} {te : TE} (hl : Rv (tl σ) U (sD K (.list (l.map enc)))) (hx : l.length < 100000) (hw : ∀ x, wipe ((wipe σ vs).set j (some x)) vs = wipe σ vs)
    (he : ∀ x a U1, a ∈ l → Same U U1 → (sD K (enc a)).P x U1 → Rv (te ((wipe σ vs).set j (some x))) U1 (sD K (f a))) : Rv (tLc (iList K tl) (gName j) tYes te vs σ) U (sL K (l.map f)) := by
  refine Rv.bind (ρ := tl σ) hl fun x U1 s1 h1 => ?_
  obtain ⟨a, xs, rfl, h1, h2⟩ := list_of_dp h1
  have xl : xs.length = l.length := by rw [dpAll_len h2, List.length_map]
  exact ev_lcM (K := K) (σ := σ) (U := U1) (tl := tC (.ref a)) (Rv.ret ⟨a, rfl, h1⟩) (by omega) (by rw [List.length_map]; exact xl.symm) hw fun i x d hx hd U2 s2 => by
    obtain ⟨d', hd', hx2⟩ := dpAll_get h2 hx
    rw [List.getElem?_map] at hd' hd
    cases el : l[i]? with
    | none => rw [el] at hd; cases hd
    | some b =>
      rw [el] at hd hd'
      cases hd; cases hd'
      exact he x b U2 (List.mem_of_getElem? el) (s1.trans s2) (Dp.grow s2 _ _ hx2)
/-- [x for x in xs if tt], data -/
theorem ev_fltD {α : Type} {enc : α → PyData} {l : List α} {k : α → Bool} {j : Nat} {vs : List Nat} {tt : TT} (hl : Rv (tl σ) U (sD K (.list (l.map enc)))) (hx : l.length < 100000) (hw : ∀ x, wipe ((wipe σ vs).set j (some x)) vs = wipe σ vs) (hj : ∀ x, ((wipe σ vs).set j (some x))[j]? = some (some x))
    (he : ∀ x a U1, a ∈ l → Same U U1 → (sD K (enc a)).P x U1 → Rv (tt ((wipe σ vs).set j (some x))) U1 (sV (k a))) : Rv (tLc (iList K tl) (gName j) tt (tVar j) vs σ) U (sL K ((l.filter k).map enc)) := by
  refine Rv.bind (ρ := tl σ) hl fun x U1 s1 h1 => ?_
  obtain ⟨a, xs, rfl, h1, h2⟩ := list_of_dp h1
  have xl : xs.length = l.length := by rw [dpAll_len h2, List.length_map]
  have h := ev_lc (K := K) (σ := σ) (U := U1) (tl := tC (.ref a)) (g := gName j) (tt := tt) (te := tVar j) (vs := vs) (xs := xs) (gd := fun i => match l[i]? with | some b => if k b = true then some (sD K (enc b)) else none | none => none)
    (Rv.ret ⟨a, rfl, h1⟩) (by omega) fun i x hx U2 s2 => ⟨(wipe σ vs).set j (some x), fun H _ R hR => hR, hw x, by
      obtain ⟨d, hd, hx2⟩ := dpAll_get h2 hx
      rw [List.getElem?_map] at hd
      cases el : l[i]? with
      | none => rw [el] at hd; cases hd
      | some b =>
        rw [el] at hd
        cases hd
        have hb := Dp.grow s2 _ _ hx2
        have T := he x b U2 (List.mem_of_getElem? el) (s1.trans s2) hb
        dsimp only
        cases kb : k b with
        | true => rw [kb] at T; rw [if_pos rfl]; exact ⟨T, ev_var (hj x) hb⟩
        | false => rw [kb] at T; rw [if_neg (by decide)]; exact T⟩
  rw [xl, range_flt (fun b => sD K (enc b)) k fun i b hb => by rw [hb]] at h
  exact lsD h (by rw [List.map_map]; rfl)
/-- list(range(a, b)) as an own list -/
theorem ev_lrgD {m n : Int} (ha : Rv (ta σ) U (sV (.int m))) (hb : Rv (tb σ) U (sV (.int n))) (ok : RgOk m n) (e : rgV m n = iv ns) : Rv (tLstRg (tRg2 ta tb) σ) U (sL K (ns.map PyData.int)) := fun H sH Q q =>
  ha H sH _ fun x U1 H1 w1 h1 => (hb.mono w1.lo) H1 w1.up _ fun y U2 H2 w2 h2 => by
    cases h1; cases h2
    refine ⟨m, n, rfl, rfl, ok, fun l hl => q _ _ _ ((w1.trans w2).trans (Vw.alloc w2.up hl)) ⟨l, _, rfl, upd_same, ?_⟩⟩
    rw [e]
    exact dp_ivs ns
/-- [te for x, y in xs], pairs -/
theorem ev_mapP {f : Int × Int → PyData} {ps : List (Int × Int)} {j k : Nat} {vs : List Nat} {te : TE} (hl : Rv (tl σ) U (sD K (dP ps))) (hx : ps.length < 100000) (hw : ∀ x y, wipe (((wipe σ vs).set j (some x)).set k (some y)) vs = wipe σ vs)
    (he : ∀ e U1, e ∈ ps → Same U U1 → Rv (te (((wipe σ vs).set j (some (.int e.1))).set k (some (.int e.2)))) U1 (sD K (f e))) : Rv (tLc (iList K tl) (gTup K 2 (gCons (gName j) (gCons (gName k) gNil))) tYes te vs σ) U (sL K (ps.map f)) := by
  refine Rv.bind (ρ := tl σ) hl fun x U1 s1 h1 => ?_
  obtain ⟨a, rfl, ts, e1, hs, ht⟩ := pairs_of_dp h1
  have xl : (refs ts).length = ps.length := by rw [refs_len, ← vals_len, e1]
  have h := ev_lc (K := K) (σ := σ) (U := U1) (tl := tC (.ref a)) (g := gTup K 2 (gCons (gName j) (gCons (gName k) gNil))) (tt := tYes) (te := te) (vs := vs) (xs := refs ts) (gd := fun i => some (sD K (f (ps.getD i (0, 0)))))
    (Rv.ret ⟨a, rfl, hs⟩) (by omega) fun i x hx U2 s2 => by
      obtain ⟨⟨b, e⟩, hq, rfl⟩ := refs_inv hx
      have ep : ps[i]? = some e := by rw [← e1]; unfold vals; rw [List.getElem?_map, hq]; rfl
      have eg : ps.getD i (0, 0) = e := by rw [List.getD_eq_getElem?_getD, ep]; rfl
      refine ⟨((wipe σ vs).set j (some (.int e.1))).set k (some (.int e.2)), fun H sH R hR => tg_pair (Same.sqT (s2.trans sH) (ht _ (List.mem_of_getElem? hq))) hR, hw _ _, Rv.ret rfl, ?_⟩
      rw [eg]
      exact he e U2 (List.mem_of_getElem? ep) (s1.trans s2)
  refine lsD h ?_
  rw [xl, show ps.length = ((ps.map f).map (sD K)).length by rw [List.length_map, List.length_map]]
  exact range_fm fun i d hd => by
    rw [List.getElem?_map, List.getElem?_map] at hd
    cases el : ps[i]? with
    | none => rw [el] at hd; cases hd
    | some e => rw [el] at hd; cases hd; rw [List.getD_eq_getElem?_getD, el]; rfl
/-- tuple(xs) of a list -/
theorem ev_tupOf (h : Rv (ta σ) U (sD K (.list ds))) : Rv (tCB (rTupOf K) (tCons ta tNil) σ) U (sD K (.tuple ds)) :=
  ev_cb1 h fun x U1 _ h1 H sH Q q => by
    obtain ⟨a, xs, rfl, hs, ha⟩ := list_of_dp h1
    exact ⟨a, xs, rfl, .inl ⟨sH.seq hs, fun l hl => q _ _ _ (Vw.alloc sH hl) (.tup (SqT.of upd_same) (dpAll_grow' (sA (sH.free hl)) ha))⟩⟩
theorem srt_two (a b : Int) : srt [a, b] = [min a b, max a b] := by
  refine (srt_of ?_ ?_).symm
  · by_cases h : a ≤ b
    · rw [Int.min_eq_left h, Int.max_eq_right h]
    · rw [Int.min_eq_right (by omega), Int.max_eq_left (by omega)]; exact List.Perm.swap _ _ _
  · refine List.pairwise_cons.mpr ⟨fun x hx => ?_, List.pairwise_singleton _ _⟩
    cases List.mem_singleton.mp hx
    omega
/-- sorted pairs -/
def sPs (K : PySem.W.Frag) (ps : List (Int × Int)) : Sd V := ⟨fun v H => ∃ ps' : List (Int × Int), ps'.Perm ps ∧ ps'.Pairwise (fun e f => e.1 * 64 + e.2 ≤ f.1 * 64 + f.2) ∧ Dp K H v (dP ps'), fun s h => by
  obtain ⟨ps', h1, h2, h3⟩ := h
  exact ⟨ps', h1, h2, Dp.grow s _ _ h3⟩⟩
theorem ev_sortedTL {ps : List (Int × Int)} (h : Rv (ta σ) U (sD K (dP ps))) (hb : ∀ e ∈ ps, 0 ≤ e.1 ∧ e.1 < 64 ∧ 0 ≤ e.2 ∧ e.2 < 64) (hl : ps.length < 64) : Rv (tCB (rSortedTL K) (tCons ta tNil) σ) U (sPs K ps) :=
  ev_cb1 h fun x U1 _ h1 H sH Q q => by
    obtain ⟨a, rfl, ts, e1, hs, ht⟩ := pairs_of_dp h1
    let g : Addr × Int × Int → Addr × List Int := fun t => (t.1, [t.2.1, t.2.2])
    have er : refs (ts.map g) = refs ts := by unfold refs; rw [List.map_map]; rfl
    refine ⟨a, ts.map g, 2, 64, rfl, by rw [er]; exact sH.seq hs, fun p hp => ?_, ?_, by decide, fun p hp => ?_, fun ks' p pm pw hn => ?_⟩
    · obtain ⟨t, ht2, rfl⟩ := List.mem_map.mp hp
      exact Same.sqT sH (ht t ht2)
    · rw [List.length_map, ← vals_len, e1]; exact hl
    · obtain ⟨t, ht2, rfl⟩ := List.mem_map.mp hp
      have := hb t.2 (by rw [← e1]; exact List.mem_map.mpr ⟨t, ht2, rfl⟩)
      refine ⟨rfl, fun m hm => ?_⟩
      rcases List.mem_cons.mp hm with rfl | hm
      · omega
      · cases List.mem_singleton.mp hm; omega
    · obtain ⟨ts', pm2, rfl⟩ := perm_lift g pm
      have er' : refs (ts'.map g) = refs ts' := by unfold refs; rw [List.map_map]; rfl
      rw [er']
      refine q _ _ _ (Vw.alloc sH hn) ⟨vals ts', by rw [← e1]; exact pm2.map _, ?_, ?_⟩
      · refine List.pairwise_map.mpr ((List.pairwise_map.mp pw).imp fun {x y} hxy => ?_)
        have c : ∀ t r : Int, TS.code 64 [t, r] = t * 64 + r := fun t r => by
          show t * 64 ^ 1 + (r * 64 ^ 0 + 0) = _
          omega
        have hxy : TS.code 64 [x.2.1, x.2.2] ≤ TS.code 64 [y.2.1, y.2.2] := hxy
        rw [c, c] at hxy
        exact hxy
      · exact IsPairs.dp ⟨ts', rfl, SqL.of upd_same, fun t ht2 => Same.sqT (sA (sH.free hn)) (ht t (pm2.mem_iff.mp ht2))⟩
end
end UN

/-! views: lists of descriptors cut and made, tuples opened -/
namespace UN
open PySem PySem.Spec PyProof.Rows L2
section
variable {K : PySem.W.Frag} {σ : L2.St} {U : Hp} {tl ta tb : TE} {Ss : List (Sd V)} {A B : Sd V}
theorem sds_drop {H : Hp} : ∀ {xs : List V} {Ss : List (Sd V)} {k : Nat}, sds xs Ss H → sds (xs.drop k) (Ss.drop k) H
  | _, _, 0, h => h
  | [], [], k + 1, h => h
  | _ :: _, _ :: _, k + 1, h => by rw [List.drop_succ_cons, List.drop_succ_cons]; exact sds_drop h.2
theorem sds_take {H : Hp} : ∀ {xs : List V} {Ss : List (Sd V)} {k : Nat}, sds xs Ss H → sds (xs.take k) (Ss.take k) H
  | _, _, 0, _ => by rw [List.take_zero, List.take_zero]; trivial
  | [], [], k + 1, h => h
  | _ :: _, _ :: _, k + 1, h => ⟨h.1, sds_take h.2⟩
/-- xs[k:], xs[:k] -/
theorem ev_fromS {k : Nat} (h : Rv (ta σ) U (sLs Ss)) (hk : Rv (tb σ) U (sV (.int (k : Int)))) : Rv (tSl (rSlL K) ta (tPart tb) tNoPart σ) U (sLs (Ss.drop k)) := fun H s Q q => h H s _ fun x U1 H1 w1 h1 => (hk.mono w1.lo) H1 w1.up _ fun y U2 H2 w2 h2 => by
  cases h2
  obtain ⟨a, xs, rfl, hs, ha⟩ := (sLs Ss).g w2.lo h1
  refine ⟨_, rfl, a, xs, rfl, w2.up.seq (SqL.of hs), fun p hp => q _ _ _ ((w1.trans w2).trans (Vw.alloc w2.up hp)) ⟨p, _, rfl, upd_same, ?_⟩⟩
  rw [cut_from]
  exact sds_grow (sA (w2.up.free hp)) (sds_drop ha)
theorem ev_toS {k : Nat} (h : Rv (ta σ) U (sLs Ss)) (hk : Rv (tb σ) U (sV (.int (k : Int)))) : Rv (tSl (rSlL K) ta tNoPart (tPart tb) σ) U (sLs (Ss.take k)) := fun H s Q q => h H s _ fun x U1 H1 w1 h1 => (hk.mono w1.lo) H1 w1.up _ fun y U2 H2 w2 h2 => by
  cases h2
  obtain ⟨a, xs, rfl, hs, ha⟩ := (sLs Ss).g w2.lo h1
  refine ⟨_, rfl, a, xs, rfl, w2.up.seq (SqL.of hs), fun p hp => q _ _ _ ((w1.trans w2).trans (Vw.alloc w2.up hp)) ⟨p, _, rfl, upd_same, ?_⟩⟩
  rw [cut_to]
  exact sds_grow (sA (w2.up.free hp)) (sds_take ha)
/-- [te for x in xs], x in slot j, the elements descriptors -/
theorem ev_mapS {α : Type} {enc : α → PyData} {f : α → Sd V} {l : List α} {j : Nat} {vs : List Nat} {te : TE} (hl : Rv (tl σ) U (sD K (.list (l.map enc)))) (hx : l.length < 100000) (hw : ∀ x, wipe ((wipe σ vs).set j (some x)) vs = wipe σ vs)
    (he : ∀ x a U1, a ∈ l → Same U U1 → (sD K (enc a)).P x U1 → Rv (te ((wipe σ vs).set j (some x))) U1 (f a)) : Rv (tLc (iList K tl) (gName j) tYes te vs σ) U (sLs (l.map f)) := by
  refine Rv.bind (ρ := tl σ) hl fun x U1 s1 h1 => ?_
  obtain ⟨a, xs, rfl, h1, h2⟩ := list_of_dp h1
  have xl : xs.length = l.length := by rw [dpAll_len h2, List.length_map]
  have h := ev_lc (K := K) (σ := σ) (U := U1) (tl := tC (.ref a)) (g := gName j) (tt := tYes) (te := te) (vs := vs) (xs := xs) (gd := fun i => match l[i]? with | some b => some (f b) | none => none)
    (Rv.ret ⟨a, rfl, h1⟩) (by omega) fun i x hx U2 s2 => ⟨(wipe σ vs).set j (some x), fun H _ R hR => hR, hw x, by
      obtain ⟨d, hd, hx2⟩ := dpAll_get h2 hx
      rw [List.getElem?_map] at hd
      cases el : l[i]? with
      | none => rw [el] at hd; cases hd
      | some b =>
        rw [el] at hd
        cases hd
        exact ⟨Rv.ret rfl, he x b U2 (List.mem_of_getElem? el) (s1.trans s2) (Dp.grow s2 _ _ hx2)⟩⟩
  have e : (List.range l.length).filterMap (fun i => match l[i]? with | some b => some (f b) | none => none) = l.map f := by
    have z := range_flt (α := α) (f := fun i => match l[i]? with | some b => some (f b) | none => none) f (fun _ => true) (l := l) fun i b hb => by rw [hb]; rfl
    rwa [List.filter_eq_self.mpr fun _ _ => rfl] at z
  rw [xl, e] at h
  exact h
theorem tup2 {v : V} (h : (sTs [A, B]).P v U) : ∃ a x y, v = .ref a ∧ U a = some (.tup [x, y]) ∧ A.P x U ∧ B.P y U := by
  obtain ⟨a, xs, rfl, h1, h2⟩ := h
  match xs, h2 with
  | [x, y], h2 => exact ⟨a, x, y, rfl, h1, h2.1, h2.2.1⟩
end
end UN

/-! data by their depth; calls of four; tests for None; joined lists -/
namespace UN
open PySem PySem.Spec PyProof.Rows L2
structure Shd (k : Nat) (d : PyData) : Prop where
  c : d.canLay0 = true
  d : d.depth ≤ k
theorem Shd.shaped {k : Nat} {d : PyData} (h : Shd k d) (hk : k ≤ 64 := by decide) : SeqAt.shaped d = true := by
  unfold SeqAt.shaped
  rw [h.c, Bool.true_and, decide_eq_true_iff]
  have := h.d
  omega
theorem Shd.mono {k j : Nat} {d : PyData} (h : Shd k d) (hk : k ≤ j := by decide) : Shd j d := ⟨h.c, Nat.le_trans h.d hk⟩
theorem Shd.int {k : Nat} (i : Int) : Shd k (.int i) := ⟨by simp [PyData.canLay0], by simp [PyData.depth]⟩
theorem Shd.bool {k : Nat} (b : Bool) : Shd k (.bool b) := ⟨by simp [PyData.canLay0], by simp [PyData.depth]⟩
theorem Shd.none {k : Nat} : Shd k .none := ⟨by simp [PyData.canLay0], by simp [PyData.depth]⟩
theorem Shd.all {k : Nat} : ∀ {ds : List PyData}, (∀ d ∈ ds, Shd k d) → PyData.canLayAll0 ds = true ∧ PyData.depthAll ds ≤ k
  | [], _ => ⟨rfl, Nat.zero_le _⟩
  | d :: ds, h => by
    have h1 := h d (by simp)
    have h2 := Shd.all fun e he => h e (List.mem_cons_of_mem _ he)
    have h3 := h1.d
    refine ⟨by simp [PyData.canLayAll0, h1.c, h2.1], ?_⟩
    simp only [PyData.depthAll]
    omega
theorem Shd.list {k : Nat} {ds : List PyData} (h : ∀ d ∈ ds, Shd k d) : Shd (k + 1) (.list ds) := by
  have h2 := Shd.all h
  refine ⟨by simp [PyData.canLay0, h2.1], ?_⟩
  simp only [PyData.depth]
  omega
theorem Shd.tup {k : Nat} {ds : List PyData} (h : ∀ d ∈ ds, Shd k d) : Shd (k + 1) (.tuple ds) := by
  have h2 := Shd.all h
  refine ⟨by simp [PyData.canLay0, h2.1], ?_⟩
  simp only [PyData.depth]
  omega
theorem Shd.dI {k : Nat} (ns : List Int) : Shd (k + 1) (dI ns) := Shd.list fun d hd => by
  obtain ⟨i, _, rfl⟩ := List.mem_map.mp hd
  exact .int i
theorem Shd.dE {k : Nat} (e : Int × Int) : Shd (k + 1) (dE e) := Shd.tup fun d hd => by
  rcases List.mem_cons.mp hd with rfl | hd
  · exact .int _
  · cases List.mem_singleton.mp hd
    exact .int _
theorem Shd.map {α : Type} {k : Nat} {l : List α} {f : α → PyData} (h : ∀ a ∈ l, Shd k (f a)) : Shd (k + 1) (.list (l.map f)) := Shd.list fun d hd => by
  obtain ⟨a, ha, rfl⟩ := List.mem_map.mp hd
  exact h a ha
theorem Shd.dP {k : Nat} (ps : List (Int × Int)) : Shd (k + 2) (dP ps) := Shd.map fun e _ => Shd.dE e
theorem Shd.dR {k : Nat} (rs : List (List Int)) : Shd (k + 2) (dR rs) := Shd.map fun e _ => Shd.dI e
theorem eqv_nil {ds : List PyData} : PyData.eqv (.list ds) (.list []) = ds.isEmpty := by
  cases ds <;> simp [PyData.eqv, PyData.eqvAll]
section
variable {K : PySem.W.Frag} {σ : L2.St} {U : Hp} {ta tb tc td te : TE} {A B C D S : Sd V} {ds : List PyData}
theorem ev_call4 {sp : Sp} (ha : Rv (ta σ) U A) (hb : Rv (tb σ) U B) (hc : Rv (tc σ) U C) (hd : Rv (td σ) U D) (hs : ∀ x y z u U', Same U U' → A.P x U' → B.P y U' → C.P z U' → D.P u U' → Rv (fun H Q => sp [x, y, z, u] H Q E0) U' S) : Rv (tG sp (tCons ta (tCons tb (tCons tc (tCons td tNil)))) σ) U S :=
  Rv.bind (ρ := ta σ) ha fun x U1 s1 h1 => Rv.bind (ρ := tb σ) (hb.mono s1) fun y U2 s2 h2 => Rv.bind (ρ := tc σ) (hc.mono (s1.trans s2)) fun z U3 s3 h3 => Rv.bind (ρ := td σ) (hd.mono ((s1.trans s2).trans s3)) fun u U4 s4 h4 =>
    hs x y z u U4 (((s1.trans s2).trans s3).trans s4) (A.g ((s2.trans s3).trans s4) h1) (B.g (s3.trans s4) h2) (C.g s4 h3) h4
/-- a list is not [] -/
theorem ev_neNil {k : Nat} (ha : Rv (ta σ) U (sD K (.list ds))) (h : Shd k (.list ds)) (hk : k ≤ 64 := by decide) : Rv (tOp (rNeD K) ta (tLst tNil) σ) U (sV (.bl (!ds.isEmpty))) := by
  have z := ev_neD ha (ev_LD (ev_lst (K := K) (ed_nil (σ := σ) (U := U)) (by decide))) (h.shaped hk) rfl
  rwa [eqv_nil] at z
theorem ev_eqNil {k : Nat} (ha : Rv (ta σ) U (sD K (.list ds))) (h : Shd k (.list ds)) (hk : k ≤ 64 := by decide) : Rv (tOp (rEqD K) ta (tLst tNil) σ) U (sV (.bl ds.isEmpty)) := by
  have z := ev_eqD ha (ev_LD (ev_lst (K := K) (ed_nil (σ := σ) (U := U)) (by decide))) (h.shaped hk) rfl
  rwa [eqv_nil] at z
abbrev rNotN : R2 := fun x y H Q => y = .non ∧ Q (.bl (!decide (x = .non))) H
abbrev rIsN : R2 := fun x y H Q => y = .non ∧ Q (.bl (decide (x = .non))) H
/-- what it is, or None -/
def sOr (b : Bool) (S : Sd V) : Sd V := ⟨fun v H => if b = true then S.P v H ∧ v ≠ .non else v = .non, fun s h => by
  cases b with
  | true => exact ⟨S.g s h.1, h.2⟩
  | false => exact h⟩
theorem ev_notN {b : Bool} (ha : Rv (ta σ) U (sOr b S)) : Rv (tOp rNotN ta (tC .non) σ) U (sV (.bl b)) :=
  ev_op ha (ev_c (v := .non)) fun x y U1 _ h1 h2 H sH Q q => by
    cases h2
    refine ⟨rfl, q _ _ _ (Vw.refl sH) ?_⟩
    cases b with
    | true => show V.bl (!decide (x = .non)) = _; rw [decide_eq_false h1.2]; rfl
    | false =>
      have h1 : x = .non := h1
      show V.bl (!decide (x = .non)) = _
      rw [decide_eq_true h1]; rfl
theorem ev_isN {b : Bool} (ha : Rv (ta σ) U (sOr b S)) : Rv (tOp rIsN ta (tC .non) σ) U (sV (.bl (!b))) :=
  ev_op ha (ev_c (v := .non)) fun x y U1 _ h1 h2 H sH Q q => by
    cases h2
    refine ⟨rfl, q _ _ _ (Vw.refl sH) ?_⟩
    cases b with
    | true => show V.bl (decide (x = .non)) = _; rw [decide_eq_false h1.2]; rfl
    | false =>
      have h1 : x = .non := h1
      show V.bl (decide (x = .non)) = _
      rw [decide_eq_true h1]; rfl
theorem dP_pair {v : V} {m : Int} {r : List Int} (h : (sTs [sV (.int m), sRow K r]).P v U) : Dp K U v (.tuple [.int m, dI r]) := by
  obtain ⟨a, xs, rfl, h1, h2⟩ := h
  match xs, h2 with
  | [x, y], h2 =>
    obtain ⟨rfl, ⟨b, ys, rfl, h3, h4⟩, _⟩ := h2
    exact .tup (SqT.of h1) (.cons (.int _) (.cons (.lst (SqL.of h3) h4) .nil))
/-- an item of a tuple -/
theorem ev_ixTs {Ss : List (Sd V)} {i : Int} {k : Nat} (hl : Rv (ta σ) U (sTs Ss)) (hi : Rv (tb σ) U (sV (.int i))) (hk : ixN Ss.length i = some k) (hd : Ss[k]? = some S) : Rv (tOp (rIxT K) ta tb σ) U S :=
  ev_op hl hi fun x y U1 _ h1 h2 H sH Q q => by
    cases h2
    obtain ⟨a, xs, rfl, hs, ha⟩ := h1
    have hl := sds_len ha
    cases e : xs[k]? with
    | none =>
      have := (List.getElem?_eq_some_iff.mp hd).1
      rw [List.getElem?_eq_getElem (by omega)] at e; cases e
    | some x =>
      obtain ⟨d', e1, e2⟩ := sds_get ha e
      rw [hd] at e1; cases e1
      exact ⟨a, xs, i, x, rfl, rfl, Same.sqT sH (SqT.of hs), by unfold atI; rw [hl, hk]; exact e, q _ _ _ (Vw.refl sH) e2⟩
theorem ev_ixT {i : Int} {k : Nat} {d : PyData} (hl : Rv (ta σ) U (sD K (.tuple ds))) (hi : Rv (tb σ) U (sV (.int i))) (hk : ixN ds.length i = some k) (hd : ds[k]? = some d) : Rv (tOp (rIxT K) ta tb σ) U (sD K d) :=
  ev_op hl hi fun x y U1 _ h1 h2 H sH Q q => by
    cases h2
    obtain ⟨a, xs, rfl, hs, ha⟩ := tup_of_dp h1
    have hl := dpAll_len ha
    cases e : xs[k]? with
    | none =>
      have := (List.getElem?_eq_some_iff.mp hd).1
      rw [List.getElem?_eq_getElem (by omega)] at e; cases e
    | some x =>
      obtain ⟨d', e1, e2⟩ := dpAll_get ha e
      rw [hd] at e1; cases e1
      exact ⟨a, xs, i, x, rfl, rfl, Same.sqT sH hs, by unfold atI; rw [hl, hk]; exact e, q _ _ _ (Vw.refl sH) e2⟩
theorem ev_e0 {e : Int × Int} (h : Rv (ta σ) U (sD K (dE e))) : Rv (tOp (rIxT K) ta (tC (.int 0)) σ) U (sV (.int e.1)) := ev_Dint (ev_ixT (k := 0) (ds := [.int e.1, .int e.2]) h ev_c rfl rfl)
theorem ev_e1 {e : Int × Int} (h : Rv (ta σ) U (sD K (dE e))) : Rv (tOp (rIxT K) ta (tC (.int 1)) σ) U (sV (.int e.2)) := ev_Dint (ev_ixT (k := 1) (ds := [.int e.1, .int e.2]) h ev_c rfl rfl)
/-- x in (a, b) -/
theorem ev_inE {m : Int} {e : Int × Int} (ha : Rv (ta σ) U (sV (.int m))) (hb : Rv (tb σ) U (sD K (dE e))) : Rv (tOp (rIn K false) ta tb σ) U (sV (.bl (decide (m = e.1 ∨ m = e.2)))) :=
  ev_op ha hb fun x y U1 _ h1 h2 H sH Q q => by
    cases h1
    obtain ⟨a, rfl, hs⟩ := pair_of_dp h2
    refine ⟨a, iv [e.1, e.2], rfl, .inr (Same.sqT sH hs), rfl, ?_, ?_⟩
    · exact List.all_eq_true.mpr fun v hv => by obtain ⟨i, _, rfl⟩ := List.mem_map.mp hv; rfl
    · rw [inV_iv]
      have z : decide (m ∈ [e.1, e.2]) = decide (m = e.1 ∨ m = e.2) := by
        rw [Bool.eq_iff_iff, decide_eq_true_iff, decide_eq_true_iff]
        simp
      rw [z]
      exact q _ _ _ (Vw.refl sH) rfl
theorem ev_ninE {m : Int} {e : Int × Int} (ha : Rv (ta σ) U (sV (.int m))) (hb : Rv (tb σ) U (sD K (dE e))) : Rv (tOp (rIn K true) ta tb σ) U (sV (.bl (!decide (m = e.1 ∨ m = e.2)))) :=
  ev_op ha hb fun x y U1 _ h1 h2 H sH Q q => by
    cases h1
    obtain ⟨a, rfl, hs⟩ := pair_of_dp h2
    refine ⟨a, iv [e.1, e.2], rfl, .inr (Same.sqT sH hs), rfl, ?_, ?_⟩
    · exact List.all_eq_true.mpr fun v hv => by obtain ⟨i, _, rfl⟩ := List.mem_map.mp hv; rfl
    · rw [inV_iv]
      have z : decide (m ∈ [e.1, e.2]) = decide (m = e.1 ∨ m = e.2) := by
        rw [Bool.eq_iff_iff, decide_eq_true_iff, decide_eq_true_iff]
        simp
      rw [z]
      exact q _ _ _ (Vw.refl sH) rfl
end
section
variable {K : PySem.W.Frag} {σ : L2.St} {U0 H0 U H : Hp} {te : TE} {S : Sd V} {i : Nat} {D : Ends} {L : Addr} {xs : List V} {o : HO}
/-- what is hidden may change -/
theorem Vw.hide (w : Vw U0 H0 U H) (n : U L = none) (n0 : H0 L = none) : Vw U0 H0 U (L2.upd H L o) := ⟨w.lo, Same.hide w.up n, Same.hide w.st n0, w.lc⟩
/-- xs.append(e) at the end of a block, the list in slot i, hidden from the view -/
theorem go_appE (h : σ[i]? = some (some (.ref L))) (hL : H L = some (.lst xs)) (n : U L = none) (sH : Same U H) (hl : xs.length < 100000) (e : Rv (te σ) U S)
    (q : ∀ v U' H', Vw U H U' H' → S.P v U' → H' L = some (.lst xs) → U' L = none → D.nx σ (L2.upd H' L (.lst (xs ++ [v])))) : tDrop (tBM K "list" rAppend (tVar i) (tCons te tNil)) D σ H :=
  ⟨_, h, .inl ⟨rfl, _, SqL.of hL⟩, e H sH _ fun v U' H' w hv => ⟨L, xs, v, rfl, rfl, w.st _ _ hL, sl_line' hl, q v U' H' w hv (w.st _ _ hL) (w.no n hL)⟩⟩
/-- the length of a list of anything -/
theorem ev_lenS {K' : PySem.W.Frag} {ta : TE} {Ss : List (Sd V)} (h : Rv (ta σ) U (sLs Ss)) (hK : K' = K := by rfl) : Rv (tCB (rLenS K') (tCons ta tNil) σ) U (sV (.int Ss.length)) :=
  ev_cb1 h fun x U1 _ h1 H sH Q q => by
    cases hK
    obtain ⟨a, xs, rfl, hs, ha⟩ := h1
    exact ⟨_, _, rfl, .inl (sH.seq (SqL.of hs)), by rw [sds_len ha]; exact q _ _ _ (Vw.refl sH) rfl⟩
theorem ev_lenI {ta : TE} {ns : List Int} (h : Rv (ta σ) U (sD K (dI ns))) : Rv (tCB (rLenS K) (tCons ta tNil) σ) U (sV (.int ns.length)) := by
  have z := ev_len (K := K) h
  rwa [List.length_map] at z
theorem ev_lenP {ta : TE} {ns : List (Int × Int)} (h : Rv (ta σ) U (sD K (dP ns))) : Rv (tCB (rLenS K) (tCons ta tNil) σ) U (sV (.int ns.length)) := by
  have z := ev_len (K := K) h
  rwa [List.length_map] at z
theorem ev_lenR {ta : TE} {ns : List (List Int)} (h : Rv (ta σ) U (sD K (dR ns))) : Rv (tCB (rLenS K) (tCons ta tNil) σ) U (sV (.int ns.length)) := by
  have z := ev_len (K := K) h
  rwa [List.length_map] at z
end
section
variable {σ : L2.St} {U H : Hp} {A B : Sd V} {ta tb : TE} {i j : Nat} {D : Ends}
theorem go_par2E (ha : Rv (ta σ) U A) (hb : Rv (tb σ) U B) (sH : Same U H) (q : ∀ v w U' H', Vw U H U' H' → A.P v U' → B.P w U' → D.nx ((σ.set i (some v)).set j (some w)) H') : tPar i j (tCons ta (tCons tb tNil)) D σ H :=
  ha H sH _ fun v U1 H1 w1 h1 => (hb.mono w1.lo) H1 w1.up _ fun w U2 H2 w2 h2 => ⟨v, w, rfl, q v w U2 H2 (w1.trans w2) (A.g w2.lo h1) h2⟩
end
theorem ev_neStE {σ : L2.St} {U : Hp} {ta tb : TE} {a : Str} (ha : Rv (ta σ) U (sV (.str a))) (hb : Rv (tb σ) U (sV (.str a))) : Rv (tOp rNe ta tb σ) U (sV (.bl false)) := by
  have h := ev_neSt ha hb
  rwa [decide_eq_true rfl] at h
theorem ev_eqStE {σ : L2.St} {U : Hp} {ta tb : TE} {a : Str} (ha : Rv (ta σ) U (sV (.str a))) (hb : Rv (tb σ) U (sV (.str a))) : Rv (tOp rEq ta tb σ) U (sV (.bl true)) := by
  have h := ev_eqSt ha hb
  rwa [decide_eq_true rfl] at h
section
variable {K : PySem.W.Frag} {σ : L2.St} {U : Hp} {tr ta tb tc : TE} {ts : TA} {x y : Int}
theorem ev_pr {x y : Int} : Rv (tTup (tCons (tC (.int x)) (tCons (tC (.int y)) tNil)) σ) U (sD K (dE (x, y))) := ev_tup (ed_cons (ev_intD ev_c) (ed_cons (ev_intD ev_c) ed_nil)) (by show 2 < 100000; decide)
theorem ev_pl (ps : List (Int × Int)) (h : Rv (ts σ) U (sAD K (ps.map dE))) (hl : ps.length < 100000 := by decide) : Rv (tLst ts σ) U (sD K (dP ps)) := ev_LD (ev_lst h (by rw [List.length_map]; exact hl))
theorem ev_il (ns : List Int) (h : Rv (ts σ) U (sAD K (ns.map PyData.int))) (hl : ns.length < 100000 := by decide) : Rv (tLst ts σ) U (sL K (ns.map PyData.int)) := ev_lst h (by rw [List.length_map]; exact hl)
theorem ev_rl (rows : List (List Int)) (h : Rv (ts σ) U (sAD K (rows.map dI))) (hl : rows.length < 100000 := by decide) : Rv (tLst ts σ) U (sD K (dR rows)) := ev_LD (ev_lst h (by rw [List.length_map]; exact hl))
theorem ev_i3 (x y z : Int) : Rv (tLst (tCons (tC (.int x)) (tCons (tC (.int y)) (tCons (tC (.int z)) tNil))) σ) U (sD K (dI [x, y, z])) := ev_LD (ev_lst (ed_cons (ev_intD ev_c) (ed_cons (ev_intD ev_c) (ed_cons (ev_intD ev_c) ed_nil))) (by show 3 < 100000; decide))
theorem ev_eqIe {m n : Int} (ha : Rv (ta σ) U (sV (.int m))) (hb : Rv (tb σ) U (sV (.int n))) (e : m = n) : Rv (tOp rEq ta tb σ) U (sV (.bl true)) := by
  have h := ev_eqI ha hb
  rwa [decide_eq_true e] at h
theorem ev_chainI {p q : Int → Int → Bool} {a b c : Int} (ha : Rv (ta σ) U (sV (.int a))) (hb : Rv (tb σ) U (sV (.int b))) (hc : Rv (tc σ) U (sV (.int c))) : Rv (tChain (rI0 fun i j => .bl (p i j)) (rI0 fun i j => .bl (q i j)) ta tb tc σ) U (sV (.bl (p a b && q b c))) :=
  Rv.bind (ρ := ta σ) ha fun x U1 s1 h1 => Rv.bind (ρ := tb σ) (hb.mono s1) fun y U2 s2 h2 H sH Q k => by
    cases h1; cases h2
    refine ⟨a, b, rfl, rfl, p a b, rfl, ?_⟩
    cases e : p a b with
    | true => exact iteTT rfl ((hc.mono (s1.trans s2)) H sH _ fun v U3 H3 w3 h3 => by cases h3; exact ⟨b, c, rfl, rfl, k _ _ _ w3 (by show V.bl (q b c) = V.bl (p a b && q b c); rw [e]; rfl)⟩)
    | false => exact iteFF rfl (k _ _ _ (Vw.refl sH) (by show V.bl false = V.bl (p a b && q b c); rw [e]; rfl))
theorem ev_blEq {b : Bool} (ha : Rv (ta σ) U (sV (.bl b))) (hb : Rv (tb σ) U (sV (.bl b))) : Rv (tOp rEq ta tb σ) U (sV (.bl true)) := by
  have z := ev_eqV ha hb
  rwa [decide_eq_true rfl] at z
end
section
variable {K : PySem.W.Frag} {σ : L2.St} {U H : Hp} {tl : TE} {j : Nat} {Ss : List (Sd V)} {D : Ends} {tB r : TS}
/-- for x in xs: .., the items by descriptors -/
theorem go_forS (hl : Rv (tl σ) U (sLs Ss)) (sH : Same U H)
    (q : ∀ U1 H1 xs, Vw U H U1 H1 → sds xs Ss U1 → ∃ Pv : Nat → L2.St → Hp → Prop, Pv 0 σ H1 ∧ (∀ i σ H, Pv i σ H → Same U1 H) ∧
      (∀ i x S σ H, Ss[i]? = some S → S.P x U1 → Pv i σ H → tB { D with nx := Pv (i + 1), ct := Pv (i + 1), bk := r D } (σ.set j (some x)) H) ∧ ∀ σ H, Pv Ss.length σ H → r D σ H) :
    tSeq (tFor (iList K tl) (gName j) tB) r D σ H := hl H sH _ fun v U1 H1 w ha => by
  obtain ⟨a, xs, rfl, ha, hs⟩ := ha
  obtain ⟨Pv, p0, p1, p2, p3⟩ := q U1 H1 xs w hs
  have hq : SqL K U1 a xs := SqL.of ha
  exact ⟨a, rfl, ⟨xs, w.up.seq hq⟩, for_list (K := K) (a := a) (xs := xs) Pv p0 (fun i σ H _ h => (p1 i σ H h).seq hq) (fun i x σ H hx h => by
    obtain ⟨S, e1, e2⟩ := sds_get hs hx
    exact p2 i x S σ H e1 e2 h) fun σ H h => p3 σ H (by rwa [sds_len hs] at h)⟩
theorem go_forSE (hl : Rv (tl σ) U (sLs Ss)) (sH : Same U H)
    (q : ∀ U1 H1 xs, Vw U H U1 H1 → sds xs Ss U1 → ∃ Pv : Nat → L2.St → Hp → Prop, Pv 0 σ H1 ∧ (∀ i σ H, Pv i σ H → Same U1 H) ∧
      (∀ i x S σ H, Ss[i]? = some S → S.P x U1 → Pv i σ H → tB { D with nx := Pv (i + 1), ct := Pv (i + 1), bk := D.nx } (σ.set j (some x)) H) ∧ ∀ σ H, Pv Ss.length σ H → D.nx σ H) :
    tFor (iList K tl) (gName j) tB D σ H := hl H sH _ fun v U1 H1 w ha => by
  obtain ⟨a, xs, rfl, ha, hs⟩ := ha
  obtain ⟨Pv, p0, p1, p2, p3⟩ := q U1 H1 xs w hs
  have hq : SqL K U1 a xs := SqL.of ha
  exact ⟨a, rfl, ⟨xs, w.up.seq hq⟩, for_list (K := K) (a := a) (xs := xs) Pv p0 (fun i σ H _ h => (p1 i σ H h).seq hq) (fun i x σ H hx h => by
    obtain ⟨S, e1, e2⟩ := sds_get hs hx
    exact p2 i x S σ H e1 e2 h) fun σ H h => p3 σ H (by rwa [sds_len hs] at h)⟩
end
section
variable {K : PySem.W.Frag} {σ : L2.St} {U : Hp} {ta : TE} {ps : List (Int × Int)} {k : Nat} {i : Int}
theorem ev_toP (h : Rv (ta σ) U (sD K (dP ps))) (e : i = k := by rfl) : Rv (tSl (rSlL K) ta tNoPart (tPart (tC (.int i))) σ) U (sL K ((ps.take k).map dE)) := by
  subst e
  have z := ev_to (K := K) (k := k) (tb := tC (.int (k : Int))) h (ev_c (v := .int (k : Int)))
  rwa [← List.map_take] at z
theorem ev_fromP (h : Rv (ta σ) U (sD K (dP ps))) (e : i = k := by rfl) : Rv (tSl (rSlL K) ta (tPart (tC (.int i))) tNoPart σ) U (sL K ((ps.drop k).map dE)) := by
  subst e
  have z := ev_from (K := K) (k := k) (tb := tC (.int (k : Int))) h (ev_c (v := .int (k : Int)))
  rwa [← List.map_drop] at z
end
section
variable {K : PySem.W.Frag} {σ : L2.St} {U H : Hp} {ta tb : TE} {ns : List Int} {m : Int} {B : Sd V} {i j : Nat} {r : TS} {D : Ends}
theorem idxOf_le : ∀ {ns : List Int} {k : Nat} {c : Int}, ns[k]? = some c → ns.idxOf c ≤ k
  | [], _, _, h => by cases h
  | n :: ns, 0, c, h => by cases h; rw [List.idxOf_cons_self]; exact Nat.le_refl _
  | n :: ns, k + 1, c, h => by
    have := idxOf_le (ns := ns) (k := k) (c := c) h
    rw [List.idxOf_cons]
    cases n == c <;> simp <;> omega
/-- xs.index(m) -/
theorem ev_indexI (ha : Rv (ta σ) U (sD K (dI ns))) (hb : Rv (tb σ) U (sV (.int m))) (hm : m ∈ ns) : Rv (tBM K "list" (rIndex K) ta (tCons tb tNil) σ) U (sV (.int (ns.idxOf m))) := fun H sH Q q =>
  ha H sH _ fun x U1 H1 w1 h1 => by
    obtain ⟨a, rfl, hs⟩ := ints_of_dp h1
    refine ⟨.inl ⟨rfl, _, w1.up.seq hs⟩, (hb.mono w1.lo) H1 w1.up _ fun y U2 H2 w2 h2 => ?_⟩
    cases h2
    have hi : ns.idxOf m < ns.length := List.idxOf_lt_length_iff.mpr hm
    refine ⟨a, iv ns, .int m, ns.idxOf m, .int m, rfl, rfl, w2.up.seq (w2.lo.seq hs), rfl, iv_flat ns, ?_, by simp [eqV], fun k z' hk hz => ?_, q _ _ _ (w1.trans w2) rfl⟩
    · show (ns.map V.int)[_]? = _
      rw [List.getElem?_map, List.getElem?_eq_getElem hi, List.getElem_idxOf hi]; rfl
    · obtain ⟨c, hc, rfl⟩ := iv_inv hz
      have : c ≠ m := fun z => by
        subst z
        have h4 := idxOf_le hc
        omega
      simp [eqV, this]
/-- x, y = ([], e) -/
theorem go_parNewS (hb : Rv (tb σ) U B) (sH : Same U H) (q : ∀ L v U' H', Vw U H U' H' → B.P v U' → H' L = some (.lst []) → U' L = none → H L = none → r D ((σ.set i (some (.ref L))).set j (some v)) H') :
    tSeq (tPar i j (tCons (tLst tNil) (tCons tb tNil))) r D σ H :=
  ⟨Nat.zero_le _, fun L hL => hb (L2.upd H L (.lst [])) (sH.trans (sA hL)) _ fun v U2 H2 w2 h2 => ⟨_, _, rfl, q L v U2 H2 ⟨w2.lo, w2.up, (sA hL).trans w2.st, fun b o h => by
    rcases w2.lc b o h with z | z
    · exact .inl z
    · by_cases hb : b = L
      · rw [hb, upd_same] at z; cases z
      · rw [upd_ne hb] at z; exact .inr z⟩ h2 (w2.st _ _ upd_same) (Vw.no' w2 (sH.free hL) upd_same) hL⟩⟩
/-- from a view in which more is shown back to the first one -/
theorem Vw.back {U0 U1 H1 : Hp} (s : Same U0 H) (w : Vw U H U1 H1) : Vw U0 H (grown U0 H H1) H1 := Vw.max s w.st
theorem ev_ninP {ps : List (Int × Int)} {e : Int × Int} (ha : Rv (ta σ) U (sD K (dE e))) (hb : Rv (tb σ) U (sD K (dP ps))) : Rv (tOp (rNotInD K) ta tb σ) U (sV (.bl (!decide (e ∈ ps)))) :=
  ev_ninA (x := e) (l := ps) eqE ha hb ((Shd.dE (k := 0) e).shaped) ((Shd.dP (k := 0) ps).shaped)
end
end UN

/-! sorted lists of pairs, any number; zip of lists in views; sum of lists of pairs -/
namespace UN
open PySem PySem.Spec PyProof.Rows L2
def pairLe (x y : Int × Int) : Bool := decide (x.1 < y.1 ∨ (x.1 = y.1 ∧ x.2 ≤ y.2))
/-- pairs, upwards -/
def srtPs (ps : List (Int × Int)) : List (Int × Int) := ps.mergeSort pairLe
theorem pairLe_trans (a b c : Int × Int) (h : pairLe a b = true) (k : pairLe b c = true) : pairLe a c = true := by
  unfold pairLe at *
  rw [decide_eq_true_iff] at *
  omega
theorem pairLe_total (a b : Int × Int) : (pairLe a b || pairLe b a) = true := by
  unfold pairLe
  rw [Bool.or_eq_true, decide_eq_true_iff, decide_eq_true_iff]
  omega
theorem pairLe_asymm (a b : Int × Int) (h : pairLe a b = true) (k : pairLe b a = true) : a = b := by
  unfold pairLe at *
  rw [decide_eq_true_iff] at *
  exact Prod.ext (by omega) (by omega)
theorem srtPs_perm (ps : List (Int × Int)) : (srtPs ps).Perm ps := List.mergeSort_perm ps pairLe
theorem srtPs_asc (ps : List (Int × Int)) : (srtPs ps).Pairwise (fun a b => pairLe a b = true) := List.pairwise_mergeSort pairLe_trans pairLe_total ps
theorem pairs_unique : ∀ {l m : List (Int × Int)}, l.Perm m → l.Pairwise (fun a b => pairLe a b = true) → m.Pairwise (fun a b => pairLe a b = true) → l = m
  | [], m, p, _, _ => (p.symm.eq_nil).symm
  | x :: l, [], p, _, _ => by cases p.eq_nil
  | x :: l, y :: m, p, h1, h2 => by
    obtain ⟨a1, a2⟩ := List.pairwise_cons.mp h1
    obtain ⟨b1, b2⟩ := List.pairwise_cons.mp h2
    have e : x = y := by
      have hx : x ∈ y :: m := p.mem_iff.mp (by simp)
      have hy : y ∈ x :: l := p.mem_iff.mpr (by simp)
      rcases List.mem_cons.mp hx with rfl | hx
      · rfl
      · rcases List.mem_cons.mp hy with rfl | hy
        · rfl
        · exact pairLe_asymm x y (a1 y hy) (b1 x hx)
    subst e
    rw [pairs_unique p.cons_inv a2 b2]
theorem srtPs_of {l m : List (Int × Int)} (p : l.Perm m) : srtPs l = srtPs m := pairs_unique ((srtPs_perm l).trans (p.trans (srtPs_perm m).symm)) (srtPs_asc l) (srtPs_asc m)
theorem srtPs_self {l : List (Int × Int)} (h : l.Pairwise (fun a b => pairLe a b = true)) : srtPs l = l := pairs_unique (srtPs_perm l) (srtPs_asc l) h
def rSortedPD (K : PySem.W.Frag) : List V → Hp → VK → Prop := fun vs H Q => ∃ (a : Addr) (ks : List (Addr × Int × Int)), vs = [V.ref a] ∧ SqL K H a (refs ks) ∧ (∀ p ∈ ks, SqT K H p.1 [.int p.2.1, .int p.2.2]) ∧
  ∀ p : Addr, H p = none → Q (.ref p) (upd H p (.lst (refs (ks.mergeSort fun x y => pairLe x.2 y.2))))
theorem cr_sortedPDK {X : Cx} (K : PySem.W.Frag) (hK : X.K = K) (hu : X.A.units + 64 < cLine) : CallR X (.builtin "sorted") (rSortedPD K) := by
  cases hK
  intro pins s σ H vs us Q J r h
  obtain ⟨a, ks, rfl, hs, hk, q⟩ := h
  obtain ⟨its, rv, hl, hz⟩ := J.list hs
  rw [Vals.ref1 r]
  have e1 := vals_refs' ks rv
  subst e1
  rw [refs_len] at hz
  let enc : Addr × Int × Int → PyData := fun q => .tuple [.int q.2.1, .int q.2.2]
  have rd : PySem.W.EachIs (fun v b => ∃ as, Reads s.heap v (enc b) as) (ks.map fun q => Value.ref q.1) ks := each_of fun b hb => Dp.reads J _ _ _ (.tup (hk b hb) (.cons (.int _) (.cons (.int _) .nil))) rfl
  refine PySem.W.sorted_data (R := fun v b => v = Value.ref b.1) (enc := enc) hl.isList (each_of fun b _ => rfl) rd (PySem.W.AllAlike.of fun b b' => ?_) (PySem.W.Sortable.tuples fun b => ⟨_, _, rfl⟩) hz (fun b _ => ?_) fun out h1 h2 => ?_
  · show PySem.W.alikeAll [.int b.2.1, .int b.2.2] [.int b'.2.1, .int b'.2.2] = true
    simp [PySem.W.alikeAll, PySem.W.alike]
  · have := (Shd.dE (k := 0) b.2).d
    show X.A.units + 2 + (dE b.2).depth < cLine
    omega
  · have ed : PySem.W.dataLe false enc = fun x y => pairLe x.2 y.2 := PySem.W.dataLe_ii (fun q : Addr × Int × Int => q.2.1) fun q => q.2.2
    rw [ed] at h2
    have eo := each_refs h2
    have hn : H (s.heap.objs.size + 1) = none := J.hok.fresh (Nat.le_succ _)
    refine ⟨.ref (s.heap.objs.size + 1), upd H (s.heap.objs.size + 1) (.lst (refs (ks.mergeSort fun x y => pairLe x.2 y.2))), J.laid (t' := s.toks) (fun b o e => sortedAll_old e) (Nat.le_succ _) ⟨?_, (ks.mergeSort fun x y => pairLe x.2 y.2).map fun q => Value.ref q.1, ?_⟩, rfl, q _ hn⟩
    · rw [refs_len, List.length_mergeSort]; exact hz
    · obtain ⟨n, hn2⟩ := sortedAll_at s.heap (ks.map fun q => Value.ref q.1) out.toArray
      refine ⟨n, refs_vals _, ?_⟩
      rw [← eo]
      exact hn2
theorem map_srtP (ks : List (Addr × Int × Int)) : vals (ks.mergeSort fun x y => pairLe x.2 y.2) = srtPs (vals ks) := by
  unfold vals srtPs
  exact List.map_mergeSort (fun x _ y _ => rfl)
section
variable {K : PySem.W.Frag} {σ : L2.St} {U H : Hp} {ta tb tl te : TE} {ps : List (Int × Int)} {ds es : List PyData} {tt : TT} {vs : List Nat}
theorem ev_sortedPD (h : Rv (ta σ) U (sD K (dP ps))) : Rv (tCB (rSortedPD K) (tCons ta tNil) σ) U (sL K ((srtPs ps).map dE)) :=
  ev_cb1 h fun x U1 _ h1 H sH Q q => by
    obtain ⟨a, rfl, ts, e1, hs, ht⟩ := pairs_of_dp h1
    refine ⟨a, ts, rfl, sH.seq hs, fun p hp => Same.sqT sH (ht p hp), fun p hp => q _ _ _ (Vw.alloc sH hp) ⟨p, _, rfl, upd_same, ?_⟩⟩
    rw [← e1, ← map_srtP]
    have s := sA (o := .lst (refs (ts.mergeSort fun x y => pairLe x.2 y.2))) (sH.free hp)
    have : ∀ l : List (Addr × Int × Int), (∀ t ∈ l, SqT K U1 t.1 [.int t.2.1, .int t.2.2]) → DpAll K (upd U1 p (.lst (refs (ts.mergeSort fun x y => pairLe x.2 y.2)))) (refs l) ((vals l).map dE) := fun l => by
      induction l with
      | nil => exact fun _ => .nil
      | cons t l ih => exact fun h => .cons (.tup (Same.sqT s (h t (by simp))) (.cons (.int _) (.cons (.int _) .nil))) (ih fun t ht => h t (List.mem_cons_of_mem _ ht))
    exact this _ fun t h => ht t (List.mem_mergeSort.mp h)
/-- list(zip(xs, ys)) -/
theorem dpAll_zip {H : Hp} : ∀ {xs ys : List V} {ds es : List PyData} {ts : List (Addr × V × V)}, DpAll K H xs ds → DpAll K H ys es → vals ts = xs.zip ys → (∀ t ∈ ts, H t.1 = some (.tup [t.2.1, t.2.2])) → DpAll K H (refs ts) ((ds.zip es).map fun p => PyData.tuple [p.1, p.2])
  | [], _, _, _, ts, .nil, _, e, _ => by
    have : ts = [] := by
      match ts with
      | [] => rfl
      | _ :: _ => cases e
    subst this; exact .nil
  | _ :: _, [], _, _, ts, .cons a b, .nil, e, _ => by
    have : ts = [] := by
      match ts with
      | [] => rfl
      | _ :: _ => cases e
    subst this; exact .nil
  | x :: xs, y :: ys, _, _, ts, .cons a b, .cons c d, e, h => by
    match ts with
    | [] => cases e
    | t :: ts =>
      have e1 : t.2 = (x, y) := (List.cons.inj e).1
      have e2 : vals ts = xs.zip ys := (List.cons.inj e).2
      have ht := h t (by simp)
      rw [e1] at ht
      exact .cons (.tup (SqT.of ht) (.cons a (.cons c .nil))) (dpAll_zip b d e2 fun t ht => h t (List.mem_cons_of_mem _ ht))
theorem ev_listZip (ha : Rv (ta σ) U (sD K (.list ds))) (hb : Rv (tb σ) U (sD K (.list es))) (hl : ds.length < 100000) : Rv (tListZip K (tCons ta (tCons tb tNil)) σ) U (sL K ((ds.zip es).map fun p => PyData.tuple [p.1, p.2])) :=
  Rv.bind (ρ := ta σ) ha fun x U1 s1 h1 => Rv.bind (ρ := tb σ) (hb.mono s1) fun y U2 s2 h2 H sH Q q => by
    obtain ⟨a, xs, rfl, hx, kx⟩ := list_of_dp ((sD K _).g s2 h1)
    obtain ⟨b, ys, rfl, hy, ky⟩ := list_of_dp h2
    refine ⟨a, b, xs, ys, rfl, sH.seq hx, sH.seq hy, sl_line' (by rw [dpAll_len kx]; exact hl), fun H2 p ts l e => q _ _ _ (Vw.max sH l.same) ⟨p, refs ts, rfl, l.grown (p, _) (.head _), ?_⟩⟩
    have sg : Same U2 (grown U2 H H2) := (Vw.max sH l.same).lo
    exact dpAll_zip (dpAll_grow' sg kx) (dpAll_grow' sg ky) e fun t ht => l.grown (t.1, .tup [t.2.1, t.2.2]) (.tail _ (List.mem_map.mpr ⟨t, ht, rfl⟩))
/-- sum(lists of pairs, []) -/
theorem ev_sumP {Fs : List (List (Int × Int))} (ha : Rv (ta σ) U (sLs (Fs.map fun F => sL K (F.map dE)))) (hb : Rv (tb σ) U (sL K [])) (hl : Fs.flatten.length < 100000) : Rv (tCB (rSumL K) (tCons ta (tCons tb tNil)) σ) U (sL K (Fs.flatten.map dE)) :=
  Rv.bind (ρ := ta σ) ha fun x U1 s1 h1 => Rv.bind (ρ := tb σ) (hb.mono s1) fun y U2 s2 h2 H sH Q q => by
    obtain ⟨a, xs, rfl, k1, k2⟩ := (sLs _).g s2 h1
    obtain ⟨e, es, rfl, k3, k4⟩ := h2
    obtain rfl : es = [] := by cases k4; rfl
    have go : ∀ {xs : List V} {Fs : List (List (Int × Int))}, sds xs (Fs.map fun F => sL K (F.map dE)) U2 → ∃ rs : List (Addr × List V), xs = refs rs ∧ (∀ r ∈ rs, U2 r.1 = some (.lst r.2)) ∧ DpAll K U2 (vals rs).flatten (Fs.flatten.map dE) := fun {xs} => by
      induction xs with
      | nil =>
        intro Fs h
        match Fs, h with
        | [], _ => exact ⟨[], rfl, (fun _ z => nomatch z), .nil⟩
      | cons x xs ih =>
        intro Fs h
        match Fs, h with
        | F :: Fs, h =>
          obtain ⟨⟨a, ys, rfl, h1, h2⟩, h3⟩ := h
          obtain ⟨rs, rfl, m1, m2⟩ := ih h3
          refine ⟨(a, ys) :: rs, rfl, fun r hr => ?_, ?_⟩
          · rcases List.mem_cons.mp hr with rfl | hr
            · exact h1
            · exact m1 r hr
          · rw [List.flatten_cons, List.map_append]
            have app : ∀ {xs ys : List V} {ds es : List PyData}, DpAll K U2 xs ds → DpAll K U2 ys es → DpAll K U2 (xs ++ ys) (ds ++ es) := fun {xs ys ds es} h k => by
              induction xs generalizing ds with
              | nil => cases h; exact k
              | cons x r ih =>
                cases h with
                | cons h1 h2 => exact .cons h1 (ih h2)
            exact app h2 m2
    obtain ⟨rs, rfl, m1, m2⟩ := go k2
    have ml := dpAll_len m2
    rw [List.length_map] at ml
    refine ⟨a, e, rs, rfl, sH.seq (SqL.of k1), fun r hr => sH _ _ (m1 r hr), sH _ _ k3, Nat.le_of_lt (sl_line' (by rw [ml]; exact hl)), fun z => ?_, fun _ p hp => q _ _ _ (Vw.alloc sH hp) ⟨p, _, rfl, upd_same, dpAll_grow' (sA (sH.free hp)) m2⟩⟩
    subst z
    refine q _ _ _ (Vw.refl sH) ⟨e, [], rfl, k3, ?_⟩
    exact m2
end
section
variable {K : PySem.W.Frag} {σ : L2.St} {U : Hp} {ta tb te : TE} {tt : TT} {g : TG} {vs : List Nat} {xs ys : List V} {gd : Nat → Option (Sd V)}
/-- [te for x, y in zip(xs, ys) if tt]: T the pair -/
theorem ev_lcZip (ha : Rv (ta σ) U (sQ K xs)) (hb : Rv (tb σ) U (sQ K ys)) (hl : ys.length = xs.length) (hx : xs.length < 100000)
    (hi : ∀ (i : Nat) (x y : V), xs[i]? = some x → ys[i]? = some y → ∀ U2 T, Same U U2 → SqT K U2 T [x, y] → ∃ σ', (∀ H, Same U2 H → ∀ R : L2.St → Hp → Prop, R σ' H → g (.ref T) (wipe σ vs) H R) ∧ wipe σ' vs = wipe σ vs ∧ LcT tt te σ' U2 (gd i)) :
    Rv (tLc (iZip K (tCons ta (tCons tb tNil))) g tt te vs σ) U (sLs ((List.range xs.length).filterMap gd)) := by
  intro H sH Q q
  refine ha H sH _ fun v U1 H1 w1 h1 => (hb.mono w1.lo) H1 w1.up _ fun v2 U2 H2 w2 h2 => ?_
  obtain ⟨a, rfl, ha⟩ := (sQ K xs).g w2.lo h1
  obtain ⟨b, rfl, hb⟩ := h2
  have w := w1.trans w2
  have s1 := w.up
  refine ⟨a, b, xs, ys, rfl, s1.seq ha, s1.seq hb, fun D hD => lcJ hx s1 hD (fun i U3 H3 hin s12 s2 => ?_) (fun U3 H3 s12 s2 => ⟨xs, ys, s2.seq (s12.seq ha), s2.seq (s12.seq hb), .inl (Nat.le_refl _)⟩) fun U' H' w' h => q _ _ _ (w.trans w') h⟩
  have hqa := s2.seq (s12.seq ha)
  have hqb := s2.seq (s12.seq hb)
  have hin2 : i < ys.length := by omega
  refine ⟨⟨xs, ys, xs[i], ys[i], hqa, hqb, by simp [hin], by simp [hin2]⟩, ?_⟩
  rintro x H4 ⟨T, u, v, rfl, nT, rfl, f1, f2⟩
  obtain ⟨σ', k1, k2, k3⟩ := hi i u v (f1 xs hqa) (f2 ys hqb) (L2.upd U3 T (.tup [u, v])) T ((w.lo.trans s12).trans (sA (s2.free nT))) (SqT.of upd_same)
  exact ⟨_, σ', Vw.alloc s2 nT, k1 _ (Same.upd s2 nT), k2, k3⟩
end
/-- addresses that the view does not show -/
def Hid (A : List Addr) (U H : Hp) : Prop := ∀ a ∈ A, U a = none ∧ ∃ o, H a = some o
theorem Hid.next {A : List Addr} {U H U' H' : Hp} (h : Hid A U H) (w : Vw U H U' H') : Hid A U' H' := fun a ha => by
  obtain ⟨h1, o, h2⟩ := h a ha
  exact ⟨Vw.no w h1 h2, o, w.st _ _ h2⟩
section
variable {K : PySem.W.Frag} {U : Hp} {web : List (Int × Int)}
theorem sL_of_ts {H : Hp} {a : Addr} (h : ∃ ts : List (Addr × Int × Int), vals ts = web ∧ H a = some (.lst (refs ts)) ∧ ∀ t ∈ ts, SqT K H t.1 [.int t.2.1, .int t.2.2]) : (sL K (web.map dE)).P (.ref a) H := by
  obtain ⟨ts, rfl, h1, h2⟩ := h
  refine ⟨a, refs ts, rfl, h1, ?_⟩
  clear h1
  induction ts with
  | nil => exact .nil
  | cons t ts ih => exact .cons (.tup (h2 t (by simp)) (.cons (.int _) (.cons (.int _) .nil))) (ih fun q hq => h2 q (List.mem_cons_of_mem _ hq))
theorem sL_pairs {v : V} (h : (sL K (web.map dE)).P v U) : ∃ l, v = .ref l ∧ IsPairs K U l web ∧ ∃ ts : List (Addr × Int × Int), vals ts = web ∧ U l = some (.lst (refs ts)) ∧ ∀ t ∈ ts, SqT K U t.1 [.int t.2.1, .int t.2.2] := by
  obtain ⟨l, xs, rfl, h1, h2⟩ := h
  obtain ⟨ts, e1, rfl, e3⟩ := pairs_of_dps h2
  exact ⟨l, rfl, ⟨ts, e1, SqL.of h1, e3⟩, ts, e1, h1, e3⟩
end
/-- min of a list of alike data: the item whose data is the least -/
def rMinB (K : PySem.W.Frag) : List V → Hp → VK → Prop := fun vs H Q => ∃ (a : Addr) (xs : List V) (d : PyData) (ds : List PyData), vs = [V.ref a] ∧ SqL K H a xs ∧ DpAll K H xs (d :: ds) ∧ PySem.W.AlikeAll (d :: ds) ∧ PyData.depthAll (d :: ds) ≤ 60 ∧
  ∀ (i : Nat) (v : V), xs[i]? = some v → (d :: ds)[i]? = some (PySem.W.minD d ds) → Q v H
theorem cr_minBK {X : Cx} (K : PySem.W.Frag) (hK : X.K = K) (hc : X.calm = true) (hu : X.A.units + 64 < cLine) : CallR X (.builtin "min") (rMinB K) := by
  cases hK
  intro pins s σ H vs us Q J r h
  obtain ⟨a, xs, d, ds, rfl, hs, hd, ha, hdp, q⟩ := h
  obtain ⟨its, rv, hl, hz⟩ := J.list hs
  rw [Vals.ref1 r]
  obtain ⟨as, rd⟩ := Dp.readsAll J _ _ _ hd rv
  have rd' : ReadsAll s.heap its.toArray.toList (d :: ds) as := by simpa using rd
  refine PySem.W.min_list_data (J.ok.hd hc) hl.isList rd' ha (by omega) fun i v h' tk bs hv hm hk => ?_
  have hv' : its[i]? = some v := by simpa using hv
  obtain ⟨x, hx, rx⟩ : ∃ x, xs[i]? = some x ∧ RelV x v := by
    clear hs hd hl rd rd' hv r q hz hm
    induction rv generalizing i with
    | nil => cases hv'
    | cons r1 _ ih =>
      cases i with
      | zero => cases hv'; exact ⟨_, rfl, r1⟩
      | succ i => exact ih i hv'
  obtain ⟨bs2, r2, il, _⟩ := PySem.W.readsAll_atA rd' i v (by simpa using hv')
  have e1 : (d :: ds)[i]? = some ((d :: ds).getD i .none) := by rw [List.getD_eq_getElem?_getD, List.getElem?_eq_getElem il]; rfl
  have e2 := (PySem.Reads.unique (PySem.W.reads_keeps hk r2) _ _ hm).1
  exact ⟨x, H, J.kept hk, rx, q i x hx (by rw [e1, e2])⟩
section
variable {K : PySem.W.Frag} {σ : L2.St} {U : Hp} {ta tb te : TE} {tt : TT} {g : TG} {vs : List Nat} {xs ys : List V} {gd : Nat → Option (Sd V)}
/-- .. where the second one may be shorter -/
theorem ev_lcZip2 (ha : Rv (ta σ) U (sQ K xs)) (hb : Rv (tb σ) U (sQ K ys)) (hl : ys.length ≤ xs.length) (hx : ys.length < 100000)
    (hi : ∀ (i : Nat) (x y : V), xs[i]? = some x → ys[i]? = some y → ∀ U2 T, Same U U2 → SqT K U2 T [x, y] → ∃ σ', (∀ H, Same U2 H → ∀ R : L2.St → Hp → Prop, R σ' H → g (.ref T) (wipe σ vs) H R) ∧ wipe σ' vs = wipe σ vs ∧ LcT tt te σ' U2 (gd i)) :
    Rv (tLc (iZip K (tCons ta (tCons tb tNil))) g tt te vs σ) U (sLs ((List.range ys.length).filterMap gd)) := by
  intro H sH Q q
  refine ha H sH _ fun v U1 H1 w1 h1 => (hb.mono w1.lo) H1 w1.up _ fun v2 U2 H2 w2 h2 => ?_
  obtain ⟨a, rfl, ha⟩ := (sQ K xs).g w2.lo h1
  obtain ⟨b, rfl, hb⟩ := h2
  have w := w1.trans w2
  have s1 := w.up
  refine ⟨a, b, xs, ys, rfl, s1.seq ha, s1.seq hb, fun D hD => lcJ hx s1 hD (fun i U3 H3 hin s12 s2 => ?_) (fun U3 H3 s12 s2 => ⟨xs, ys, s2.seq (s12.seq ha), s2.seq (s12.seq hb), .inr (Nat.le_refl _)⟩) fun U' H' w' h => q _ _ _ (w.trans w') h⟩
  have hqa := s2.seq (s12.seq ha)
  have hqb := s2.seq (s12.seq hb)
  have hin2 : i < xs.length := by omega
  refine ⟨⟨xs, ys, xs[i], ys[i], hqa, hqb, by simp [hin2], by simp [hin]⟩, ?_⟩
  rintro x H4 ⟨T, u, v, rfl, nT, rfl, f1, f2⟩
  obtain ⟨σ', k1, k2, k3⟩ := hi i u v (f1 xs hqa) (f2 ys hqb) (L2.upd U3 T (.tup [u, v])) T ((w.lo.trans s12).trans (sA (s2.free nT))) (SqT.of upd_same)
  exact ⟨_, σ', Vw.alloc s2 nT, k1 _ (Same.upd s2 nT), k2, k3⟩
end
end UN

/-! defs that raise: promises with the errors' wish, calls of them, try with the error kept as a value -/
namespace UN
open PySem PySem.Spec PyProof.Rows L2
section
variable {P : Program} {w : World} {K : PySem.W.Frag} {mg : Str → Option Value} {base : Heap} {k : Nat} {f : Addr} {fd : FuncData} {ps : List Str} {sp : Sp}
/-- where the wish excludes errors, nothing is raised -/
theorem FG.calm (F : FG P w K mg base (L2.CX P w) k f fd ps sp) : FG P w K mg base CX0 k f fd ps (fun vs H Q _ => sp vs H Q E0) :=
  ⟨fun xs H Q E h => F.many xs H Q E0 h, fun A out s H args us xs Q E hr hg e0 hb hv hs => codeAny_mono (F.go A out s H args us xs Q E0 hr hg e0 hb hv hs) fun r s' h => by
    cases r with
    | ok fl => cases fl <;> exact h
    | error e => obtain ⟨_, _, _, _, _, _, _, _, _, _, _, _, z⟩ := h; exact z⟩
/-- a def of the text that may raise -/
theorem fg_funX {x qual : Str} {st : Stmt} {N : List Str} (F : Fun K x qual st f fd) (S : FnScope N ps (defScope st))
    (many : ∀ xs H Q E, sp xs H Q E → xs.length = ps.length)
    (bd : ∀ (cdv : Value) (A : Around) (out : List Env) (s : Shared) (H : Hp) (xs : List V) (Q : VK) (E : XK),
      Room k (A.deeper (envOfC qual (defScope st) s.heap.objs.size f cdv)) → A.guards = some [] → sp xs H Q E →
      Takes (cxOf (L2.CX P w) P w K mg base N qual (defScope st) f cdv A out s H E) (fun cls d _ H' => E cls d H') →
      ∃ t, PSs (cxOf (L2.CX P w) P w K mg base N qual (defScope st) f cdv A out s H E) (defBody st) t ∧ t { nx := fun _ H' => Q .non H', rt := Q } (start N xs) H) :
    FG P w K mg base (L2.CX P w) (k + 1) f fd ps sp := by
  obtain ⟨oc, od, kV, doc, pm, an, cdv, ct, osl, e, lk, hc⟩ := F.ex
  cases e
  exact fg_body lk hc S many fun A out s H xs Q E hr hg hs => bd cdv A out s H xs Q E hr hg hs (takes_of rfl rfl rfl rfl)
end
structure CalX (P : Program) (w : World) (K : PySem.W.Frag) (mg : Str → Option Value) (base : Heap) (k : Nat) (x : Str) (st : Stmt) (ps : List Str) (sp : Sp) : Prop where
  ex : ∃ f fd, FG P w K mg base (L2.CX P w) k f fd ps sp ∧ mg x = some (.ref f) ∧ Fun K x x st f fd
  bd : ∀ (kV doc pm : Value) (an : Option Addr) (cdv ct : Value) (us : List Value), us.length = ps.length →
    bindArgs (PySem.W.fnOf x x (defArgs st) (defBody st) (defScope st) .none kV doc pm an cdv ct) ⟨us, []⟩ = pure (ps.zip us)
theorem CalX.mono {P : Program} {w : World} {K : PySem.W.Frag} {mg : Str → Option Value} {base : Heap} {k j : Nat} {x : Str} {st : Stmt} {ps : List Str} {sp : Sp} (c : CalX P w K mg base j x st ps sp) (h : j ≤ k) : CalX P w K mg base k x st ps sp := by
  obtain ⟨⟨f, fd, F, h1, h2⟩, h3⟩ := c
  exact ⟨⟨f, fd, F.mono h, h1, h2⟩, h3⟩
theorem CalX.calm {P : Program} {w : World} {K : PySem.W.Frag} {mg : Str → Option Value} {base : Heap} {k : Nat} {x : Str} {st : Stmt} {ps : List Str} {sp : Sp} (c : CalX P w K mg base k x st ps sp) : CalG P w K mg base k x st ps (fun vs H Q _ => sp vs H Q E0) := by
  obtain ⟨⟨f, fd, F, h1, h2⟩, h3⟩ := c
  exact ⟨⟨f, fd, F.calm, h1, h2⟩, h3⟩
/-- a call that may let an error out: W what is wished of it -/
def tGX (sp : Sp) (W : WX) (t : TA) : TE := fun σ H Q => t σ H fun vs H1 => sp vs H1 Q (WE W σ)
section
variable {X : Cx} {k j : Nat} {x : Str} {st : Stmt} {ps : List Str} {sp : Sp} {p pos : Pos} {e : Expr} {es : List Expr} {t : TA} {W : WX}
theorem pe_cGX (tk : Takes X W) (c : CalX X.prog X.w X.K X.mg X.base k x st ps sp) (hr : Room j X.A) (hk : k ≤ j) (hg : X.A.guards = some []) (gl : Gl X x) (ha : PA X (e :: es) t)
    (hdb : (x == ("__debug__" : Str)) = false := by decide) (he : starEach (e :: es) X.env = (false, eval e X.env) :: starEach es X.env := by rfl) (hpl : (backTo pos (starEach es X.env)).any (·.1) = false := by rfl) :
    PE X (.Call (.Name x p) (e :: es) [] pos) (tGX sp W t) := by
  constructor
  intro pins s σ H Q J h
  obtain ⟨f, fd, F, hm, fn⟩ := c.ex
  apply wpAny_Call_Name_kw
  apply ld_glob J gl hm _ hdb
  refine PySem.W.callWith_K (h₀ := X.base) J.ok.mod.kin fn.kp (thn (ha.run pos pins s σ H _ J h) ?_) he hpl
  rintro us s1 ⟨vs, H1, J1, r1, q1⟩
  refine And.intro J1.kIn ?_
  have nl : us.length = ps.length := by rw [← r1.length]; exact F.many _ _ _ _ q1
  have hb : BindsTo s1 fd ⟨us, []⟩ (ps.zip us) := by
    obtain ⟨_, _, kV, doc, pm, an, cdv, ct, _, e, _, _⟩ := fn.ex
    cases e
    exact .of_eq (c.bd kV doc pm an cdv ct us nl)
  apply wpAny_call
  refine codeAny_mono (F.go X.A X.stack s1 H1 ⟨us, []⟩ us vs Q (WE W σ) (hr.mono hk) hg J1.env0 hb r1 q1) ?_
  intro r s' hq
  cases r with
  | error e => exact passAt tk σ pins H1 s1 e s' J1 hq
  | ok fl =>
    cases fl with
    | ret u => exact J1.after hq
    | next => exact hq
    | brk => exact hq
    | cont => exact hq
end
/-! an exception kept as a value -/
def ExK (cls : Value) (d : Option Addr) (a : Addr) : HO := .ext fun h => ∃ (oe : Obj) (vs : Array Value), h.get? a = some oe ∧ Zc cls d oe ∧ oe.data = .fields vs
section
variable {X : Cx} {pins : List (Addr × Obj)} {σ : L2.St} {H : Hp} {s : Shared}
theorem Inv.track {a : Addr} {oe : Obj} {vs : Array Value} {cls : Value} {d : Option Addr} (I : Inv X pins σ H s) (e : s.heap.get? a = some oe) (z : Zc cls d oe) (hd : oe.data = .fields vs) (hn : H a = none) (n0 : X.s_0.heap.get? a = none) (nL : a ≠ X.env.locals)
    (nP : ∀ p ∈ X.pn ++ pins, p.1 ≠ a) : Inv X pins σ (upd H a (ExK cls d a)) s := by
  have ne : ∀ {b : Addr} {u : HO}, H b = some u → b ≠ a := fun h z => by rw [z, hn] at h; cases h
  refine ⟨I.ok, I.os, I.bare, ⟨I.base.keep, I.base.slot, fun b o q n hx => ?_, I.base.there, fun b xs q => ?_, fun b o u q => ?_, fun b ps q => ?_⟩, I.loc, I.cell, ?_, fun x c q => ?_, fun p hp => ?_, fun b u q => ?_, I.len⟩
  · rw [upd_ne (fun z => by rw [z, n0] at q; cases q)]; exact I.base.free b o q n hx
  · have h := I.base.tups b xs q
    rw [upd_ne (ne h)]; exact h
  · have h := I.base.frzs b o u q
    rw [upd_ne (ne h)]; exact h
  · obtain ⟨m, h⟩ := I.base.tbls b ps q
    exact ⟨m, by rw [upd_ne (ne h)]; exact h⟩
  · rw [upd_ne (fun z => nL z.symm)]; exact I.free
  · have hc : c ≠ a := fun z => by
      obtain ⟨v, o, ho, hv⟩ := I.cell x c q
      rw [z, e] at ho
      cases ho
      rw [hd] at hv; cases hv
    rw [upd_ne hc]; exact I.freeC x c q
  · obtain ⟨p1, p2, p3⟩ := I.pin p hp
    exact ⟨p1, by rw [upd_ne (nP p hp)]; exact p2, p3⟩
  · by_cases hb : b = a
    · subst hb
      rw [upd_same] at q
      cases q
      exact ⟨⟨oe, vs, e, z, hd⟩, ⟨oe, e⟩, fun _ _ ⟨o, v, q, r⟩ k => ⟨o, v, k o q, r⟩⟩
    · rw [upd_ne hb] at q
      exact (I.hok b u q).stay (fun c v _ q => q) (fun c q => by rw [upd_ne (ne q)]; exact q) fun c xs q => by rw [upd_ne (ne q)]; exact q
end
/-- what the clause 'except x as n' wishes of an exception of the body; behind its suite the exception is a value -/
def wKeep (K : PySem.W.Frag) (c : Value) (i : Nat) (ts : Addr → Value → Option Addr → TS) (Wout : WX) (D : Ends) : WX := fun cls d σ H =>
  ∃ b, PySem.W.exmOne K cls c = some b ∧ (b = true → ∀ a, H a = none → ts a cls d { nx := fun σ' H' => D.nx (σ'.set i none) (upd H' a (ExK cls d a)), rt := fun v H' => D.rt v (upd H' a (ExK cls d a)), bk := fun σ' H' => D.bk (σ'.set i none) (upd H' a (ExK cls d a)), ct := fun σ' H' => D.ct (σ'.set i none) (upd H' a (ExK cls d a)) } (σ.set i (some (.ref a))) H) ∧
    (b = false → Wout cls d σ H)
section
variable {X : Cx} {x n : Str} {c : Value} {i : Nat} {body suite : List Stmt} {b₀ : Stmt} {np pos pos' : Pos} {tb : WX → TS} {ts : Addr → Value → Option Addr → TS} {Wout : WX}
theorem ps_try_keep (hs : X.stack = X.env :: X.outer) (hf : X.env.frame = some X.env.locals) (hex : X.ex = []) (hN : X.N.Nodup) (hi : X.N[i]? = some n) (hln : X.env.kindOf n = some .local) (hc : Names X x c) (tk : Takes X Wout)
    (hb : ∀ (W : WX) (pn : List (Addr × Obj)) (xe : Value → Shared → Prop), Takes (X.tr pn xe) W → PassesOwn (model X.prog X.w) X.A X.env xe → PSs (X.tr pn xe) body (tb W))
    (hsu : ∀ (a : Addr) (oe : Obj) (cls : Value) (d : Option Addr) (pn : List (Addr × Obj)), Zc cls d oe → (∃ vs, oe.data = .fields vs) → PSs (X.suite a ((a, oe) :: pn)) (b₀ :: suite) (ts a cls d)) :
    PS X (.Try body [.ExceptHandler (some (.Name x np)) (some n) (b₀ :: suite) pos'] [] [] pos) (fun D σ H => tb (wKeep X.K c i ts Wout D) D σ H) := by
  refine ⟨fun pins s σ H D I h => ?_⟩
  have ok := I.ok
  have hfr : X.A.frames = some (X.env :: X.outer) := by rw [ok.frames, hs]
  have hloc : L2.Loc X.env.scope n := .inl hln
  refine wpAny_Try_except ?_
  refine wpAny_mono ((hb (wKeep X.K c i ts Wout D) (X.pn ++ pins) (fun e s₁ => wpAny (model X.prog X.w) X.A (noteFrame e X.env) (fun _ s₂ => wpAny (model X.prog X.w) X.A (setFlight e none) (fun _ s₃ =>
    wpAny (model X.prog X.w) X.A (handleBy e X.env [.ExceptHandler (some (.Name x np)) (some n) (b₀ :: suite) pos']) (SP X pins D) X.xe s₃) X.xe s₂) X.xe s₁) (fun u s' xx => ?_) PassesOwn.looking).run [] s σ H D (I.toTry _) h) (fun f s1 hsp => ?_) (fun e s1 he => he)
  · obtain ⟨a, B, sI, pins', σ', H', cls, d, rfl, J', nb, up, sky, na, os, ag, b, hb1, hyes, hno⟩ := xx
    have J : Inv X pins σ' H' sI := J'.ofTry ok
    have sky' : Sky B (X.env :: X.outer) a (Zc cls d) X.env.locals s'.heap := by rw [← hs]; exact sky
    show wpAny (model X.prog X.w) X.A (noteFrame (.ref a) X.env) _ _ _
    refine Sky.land Zc.steady hfr hf sky' fun h3 fl3 up3 => ?_
    have J3 : Inv X pins σ' H' { s' with heap := h3 } := J.landed nb fl3.1 (up.trans up3) os ag
    obtain ⟨oe3, vs3, he3, hz3, hd3⟩ := fl3.there
    have notFr : ∀ {h : Heap} {o : Obj} {vs : Array Value}, h.FunFrames B (X.env :: X.outer) → h.get? a = some o → o.data = .fields vs → a ∉ frs (X.env :: X.outer) := fun {h o vs} ff e dd hm => by
      obtain ⟨_, o', e', hnf⟩ := ff.mem hm
      rw [e] at e'; cases e'
      exact hnf _ dd
    have nfr := notFr fl3.2.2.1 he3 hd3
    have nL : a ≠ X.env.locals := fun z => nfr (List.mem_filterMap.mpr ⟨X.env, List.mem_cons_self, by rw [hf, z]⟩)
    have nF : a ∉ X.fs := fun hm => by
      obtain ⟨e, he, q⟩ := List.mem_filterMap.mp hm
      exact nfr (List.mem_filterMap.mpr ⟨e, List.mem_cons_of_mem _ he, q⟩)
    have Ba : B.get? a = none := fl3.2.1
    have nst : a ∉ frs X.stack := by rw [hs]; exact nfr
    have n0 : X.s_0.heap.get? a = none := by
      cases e : X.s_0.heap.get? a with
      | none => rfl
      | some o =>
        obtain ⟨o', e2⟩ := J.base.there a o e (by rw [hex]; exact fun z => nomatch z)
        have := nb a o' e2 nst
        rw [Ba] at this; cases this
    have nP : ∀ p ∈ X.pn ++ pins, p.1 ≠ a := fun p hp z => by
      have := nb p.1 p.2 (J.pin p hp).1 (by rw [z]; exact nst)
      rw [z, Ba] at this; cases this
    have S3 := J3.suite he3 hd3 na nL nF
    refine wpAny_handleBy_cons (codeAny_handlers_test ?_) (by intro q; cases q)
    have LT : PySem.W.Looks (model X.prog X.w) h3 (typeOf (.ref a)) cls := fun A Q E s k q => wpAny_typeOf_ref (k _ _ he3) (by rw [hz3.1]; exact q)
    have LM := PySem.W.exm_one (M := model X.prog X.w) (J3.kIn) LT hb1
    have test : ∀ {Q : Value → Shared → Prop} {E : Value → Shared → Prop}, Q c { s' with heap := h3 } → wpAny (model X.prog X.w) (X.A.mark (some (.ref a))) (eval (.Name x np) X.env) Q E { s' with heap := h3 } := fun {Q E} q => by
      obtain ⟨hg, hdbg, hm | ⟨hm, hv, hnn⟩⟩ := hc
      · exact ld_glob (X := X.suite a ((a, oe3) :: (X.pn ++ pins))) S3 hg hm q hdbg
      · exact ld_blt (X := X.suite a ((a, oe3) :: (X.pn ++ pins))) S3 hg hm hv q hnn hdbg
    refine test (LM.here ?_)
    cases b with
    | true =>
      refine codeAny_handlers_suite_as ?_
      refine HandSPX.lands_againZ fl3 fun h4 fl4 up4 => ?_
      have J4 : Inv X pins σ' H' { s' with heap := h4 } := J.landed nb fl4.1 ((up.trans up3).trans up4) os ag
      obtain ⟨oe4, vs4, he4, hz4, hd4⟩ := fl4.there
      have S4 := J4.suite he4 hd4 na nL nF
      refine store_ok (X := X.suite a ((a, oe4) :: (X.pn ++ pins))) (v := .ref a) S4 hN hi hloc rfl (fun s5 S5 => ?_) (.inr hln)
      refine wpAny_mono ((hsu a oe4 cls d (X.pn ++ pins) hz4 ⟨_, hd4⟩).run [] s5 _ H' _ S5 (hyes rfl a na)) (fun f s6 hsp => ?_) (fun _ _ z => False.elim z)
      have end_ : ∀ {σ6 : L2.St} {H6 : Hp} {Q : Shared → Prop}, Inv (X.suite a ((a, oe4) :: (X.pn ++ pins))) [] σ6 H6 s6 → (∀ s7, Inv X pins (σ6.set i none) (upd H6 a (ExK cls d a)) s7 → Q s7) →
          wpAny (model X.prog X.w) X.A (do bindName X.env n .none; unbindBehindTheSuite X.env n pos') (fun _ s7 => Q s7) X.xe s6 := fun {σ6 H6 Q} S6 hq => by
        obtain ⟨p1, p2, _⟩ := S6.pin (a, oe4) (List.mem_append_left _ List.mem_cons_self)
        exact gone_ok (Inv.track (S6.unsuite ok) p1 hz4 hd4 p2 n0 nL nP) hN hi hln hq
      cases f with
      | next =>
        obtain ⟨σ6, H6, S6, q6⟩ := hsp
        exact end_ S6 fun s7 J7 => ⟨_, _, J7, q6⟩
      | brk =>
        obtain ⟨σ6, H6, S6, q6⟩ := hsp
        exact end_ S6 fun s7 J7 => ⟨_, _, J7, q6⟩
      | cont =>
        obtain ⟨σ6, H6, S6, q6⟩ := hsp
        exact end_ S6 fun s7 J7 => ⟨_, _, J7, q6⟩
      | ret u =>
        obtain ⟨v6, σ6, H6, S6, r6, q6⟩ := hsp
        exact end_ S6 fun s7 J7 => ⟨_, _, _, J7, r6, q6⟩
    | false =>
      show wpAny _ X.A (handleBy (.ref a) X.env []) _ _ _
      refine wpAny_handleBy_nil ?_
      obtain ⟨k1, k2, k3, oe, vs, T, oT, ts', he, hz, hd, h1, hr⟩ := id fl3
      unfold PySem.passOn
      refine wpAny_bind (wpAny_field he hd h1 ?_)
      rw [if_neg (show ¬ ((Value.ref T == Value.none) = true) from by simp)]
      have fin : wpAny (model X.prog X.w) X.A (setFlight (.ref a) X.env.frame) (fun _ s4 => wpAny (model X.prog X.w) X.A (throw (.ref a) : Sem Flow) (SP X pins D) X.xe s4) X.xe { s' with heap := h3 } := by
        rw [hf]
        refine HandSPX.setFlight_upZ fl3 fun h4 hh4 up4 => wpAny_throw (tk _ _ ?_)
        exact ⟨a, B, sI, pins, σ', H', cls, d, rfl, J, nb, (up.trans up3).trans up4, .inr (.inr (by rw [hs]; exact hh4)), na, os, ag, hno rfl⟩
      first
        | exact wpAny_bind (wpAny_pure (wpAny_bind fin))
        | exact wpAny_bind fin
  · cases f with
    | next =>
      obtain ⟨σ', H', J', q⟩ := hsp
      exact wpAny_execs_nil ⟨σ', H', J'.ofTry ok, q⟩
    | brk =>
      obtain ⟨σ', H', J', q⟩ := hsp
      exact ⟨σ', H', J'.ofTry ok, q⟩
    | cont =>
      obtain ⟨σ', H', J', q⟩ := hsp
      exact ⟨σ', H', J'.ofTry ok, q⟩
    | ret u =>
      obtain ⟨v, σ', H', J', r, q⟩ := hsp
      exact ⟨v, σ', H', J'.ofTry ok, r, q⟩
end
/-- isinstance(e, c), e a kept exception without fields -/
def rIsKX (K : PySem.W.Frag) (D : Addr) : List V → Hp → VK → Prop := fun xs H Q => ∃ (a : Addr) (c : V) (cv : Value) (b : Bool), xs = [.ref a, c] ∧ H a = some (ExK (.ref D) none a) ∧ (∀ u, RelV c u → u = cv) ∧ PySem.W.kitOne K (.ref D) cv = some b ∧ Q (.bl b) H
theorem call_isKX {X : Cx} {D : Addr} (K : PySem.W.Frag) (hK : X.K = K) (C : ExcC K D) : CallR X (.builtin "isinstance") (rIsKX K D) := by
  cases hK
  intro pins s σ H xs us Q I r h
  obtain ⟨a, c, cv, b, rfl, ha, hcv, e, q⟩ := h
  cases r with
  | cons rx rr =>
    cases rr with
    | cons rt rr =>
      cases rr
      cases rx
      have ec := hcv _ rt
      subst ec
      obtain ⟨⟨oe, vs, ho, hz, hv⟩, _, _⟩ := I.hok a _ ha
      have J : PySem.W.InstAt s.heap a oe D none := by
        obtain ⟨oc, od, oda, osl⟩ := oe
        obtain ⟨h1, h2⟩ := hz
        dsimp only at h1 h2 hv
        subst h1 h2 hv
        exact ⟨ho, rfl, rfl, trivial⟩
      exact PySem.W.kia_one (PySem.W.handS_kitx_exc C.hg C.hk C.hs C.hd C.ha C.hn C.ht C.hm) I.kIn J e (fun z => nomatch z) fun tk => ⟨.bl b, H, I.kept (t' := tk) fun _ _ z => z, rfl, q⟩
/-- X(), an own exception class without own __init__ -/
theorem pmk_own0 {X : Cx} {C : Addr} {bmB : List Value} {B newId initId : String} {x : Str} {p pos : Pos} (F : ExcBaseFacts B newId initId bmB) (q : PySem.W.excIn X.K C bmB newId = true) (gC : X.mg x = some (.ref C))
    (kC : PySem.W.keepIn X.K (.ref C) = true) (r : Raises X (.ref C)) (hg : Gl X x) (hdb : (x == ("__debug__" : Str)) = false := by decide) :
    PMk X (.Call (.Name x p) [] [] pos) (fun _ H Q => Q (.ref C) none H) := by
  intro pins s σ H Q I h
  refine wpAny_Call_Name_kw (ld_glob I hg gC ?_ hdb)
  refine PySem.W.callWith_K0 I.kIn kC ?_
  show wpAny _ _ (call (.ref C) []) _ _ _
  obtain ⟨bm, N, nm, qn, bs, hdct, sn, sub, ab, col, dd, k0, k1, k2, k3, k5, mN, hC, hN, hni, T⟩ := exc_obj I.kIn q
  refine wpAny_call_exc_subT F T hC hN hni (fun h' e hm => ?_) (Nat.zero_le _)
  exact mk_of I hm r h (I.hok.gone hm.new)
/-- an own error class without own __init__: what its text gives -/
structure ErrC (K : PySem.W.Frag) (mg : Str → Option Value) (x : Str) (C : Addr) (B newId initId : String) (bmB : List Value) : Prop where
  F : ExcBaseFacts B newId initId bmB
  g : mg x = some (.ref C)
  ex : PySem.W.excIn K C bmB newId = true
  k : PySem.W.keepIn K (.ref C) = true
  sb : PySem.W.subIn K (.ref C) (.type "BaseException") = some true
  ty : PySem.W.typeIn K (.ref C) = some (.type "type")
  me : PySem.W.subIn K (.ref C) (.ref C) = some true
  ic : ExcC K C
theorem ErrC.r {X : Cx} {x : Str} {C : Addr} {B newId initId : String} {bmB : List Value} (h : ErrC X.K X.mg x C B newId initId bmB) : Raises X (.ref C) := raises_own h.sb h.ty
theorem ErrC.met {K : PySem.W.Frag} {mg : Str → Option Value} {x : Str} {C : Addr} {B newId initId : String} {bmB : List Value} (h : ErrC K mg x C B newId initId bmB) : PySem.W.exmOne K (.ref C) (.ref C) = some true := PySem.W.exm_ref h.sb h.ic.hd h.ty h.me
theorem kit_type {K : PySem.W.Frag} {C : Addr} {T : String} {b : Bool} (h1 : PySem.W.kitMeta T = true) (h2 : PySem.W.subIn K (.ref C) (.type T) = some b) : PySem.W.kitOne K (.ref C) (.type T) = some b := by
  unfold PySem.W.kitOne PySem.W.kitCls
  rw [if_neg (show ¬ ((Value.ref C == Value.type T) = true) from by simp)]
  show (if PySem.W.kitMeta T = true then _ else _) = _
  rw [if_pos h1]
  exact h2
theorem bt_LookupError : bootBuiltins "LookupError" = some (.type "LookupError") := by decide +kernel
theorem bt_ValueError : bootBuiltins "ValueError" = some (.type "ValueError") := by decide +kernel
theorem takes_no {X : Cx} : Takes X (fun _ _ _ _ => False) := fun _ _ ⟨_, _, _, _, _, _, _, _, _, _, _, _, _, _, _, _, w⟩ => w.elim
end UN

namespace UN
open PySem PySem.Spec PyProof.Rows L2
def topS (i : Nat) : Stmt := PySem.Challenge.pw_unnoted_k18_whole_bridges.main.body.getD i (.Pass ⟨0, 0, 0, 0⟩)
/-- the neighbours of a cell in the order of a log -/
def nbraw (web : List (Int × Int)) (k : Int) : List Int := web.flatMap fun e => (if e.1 = k then [e.2] else []) ++ (if e.2 = k then [e.1] else [])
def nbrows (n : Nat) (web : List (Int × Int)) : List (List Int) := (List.range (n + 1)).map fun (k : Nat) => nbraw web k
def nbs (n : Nat) (web : List (Int × Int)) : List (List Int) := (nbrows n web).map srt
def ValidL (n : Nat) (web : List (Int × Int)) : Prop := ∀ e ∈ web, 1 ≤ e.1 ∧ e.1 < e.2 ∧ e.2 ≤ n
theorem take_snoc {α : Type} {l : List α} {i : Nat} {x : α} (h : l[i]? = some x) : l.take (i + 1) = l.take i ++ [x] := by
  rw [List.take_add_one, h]; rfl
theorem nbrows_len (n : Nat) (web : List (Int × Int)) : (nbrows n web).length = n + 1 := by simp [nbrows]
theorem nbrows_get (n : Nat) (web : List (Int × Int)) (k : Nat) (hk : k ≤ n) : (nbrows n web)[k]? = some (nbraw web k) := by
  unfold nbrows
  rw [List.getElem?_map, List.getElem?_range (by omega)]
  rfl
/-- one exchange more -/
theorem nbrows_snoc {n : Nat} {web : List (Int × Int)} {a b : Nat} (ha : a ≤ n) (hb : b ≤ n) (ne : a ≠ b) :
    nbrows n (web ++ [((a : Int), (b : Int))]) = ((nbrows n web).set a (nbraw web a ++ [(b : Int)])).set b (nbraw web b ++ [(a : Int)]) := by
  refine List.ext_getElem? fun j => ?_
  by_cases hj : j ≤ n
  · rw [nbrows_get _ _ _ hj, List.getElem?_set, List.getElem?_set]
    have e : nbraw (web ++ [((a : Int), (b : Int))]) j = nbraw web j ++ ((if a = j then [(b : Int)] else []) ++ (if b = j then [(a : Int)] else [])) := by
      unfold nbraw
      rw [List.flatMap_append]
      simp [Int.ofNat_inj]
    rw [e]
    simp only [List.length_set, nbrows_len]
    by_cases h1 : b = j
    · subst h1
      have h2 : b < n + 1 := by omega
      simp [h2, ne]
    · by_cases h2 : a = j
      · subst h2
        have h3 : a < n + 1 := by omega
        simp [h1, h3]
      · rw [if_neg h1, if_neg h2, nbrows_get _ _ _ hj]
        simp [h1, h2]
  · rw [List.getElem?_eq_none (by rw [nbrows_len]; omega), List.getElem?_eq_none (by rw [List.length_set, List.length_set, nbrows_len]; omega)]
theorem nbraw_len (web : List (Int × Int)) (k : Int) : (nbraw web k).length ≤ 2 * web.length := by
  induction web with
  | nil => exact Nat.le_refl _
  | cons e r ih =>
    have : nbraw (e :: r) k = ((if e.1 = k then [e.2] else []) ++ (if e.2 = k then [e.1] else [])) ++ nbraw r k := rfl
    rw [this, List.length_append, List.length_append, List.length_cons]
    have h1 : (if e.1 = k then [e.2] else []).length ≤ 1 := by split <;> simp
    have h2 : (if e.2 = k then [e.1] else []).length ≤ 1 := by split <;> simp
    omega
/-- a web: exchanges, ascending -/
def ltP (p q : Int × Int) : Prop := p.1 < q.1 ∨ (p.1 = q.1 ∧ p.2 < q.2)
def ValidW (n : Nat) (web : List (Int × Int)) : Prop := ValidL n web ∧ web.Pairwise ltP

/-! ### things that are exchanged -/
def swp (e : Int × Int) (x : Int) : Int := if x = e.1 then e.2 else if x = e.2 then e.1 else x
theorem swp_swp (e : Int × Int) (x : Int) : swp e (swp e x) = x := by
  unfold swp
  split <;> split <;> (try split) <;> omega
def loc (log : List (Int × Int)) (t : Int) : Int := log.foldl (fun x e => swp e x) t
def ivr (log : List (Int × Int)) (c : Int) : Int := log.foldr (fun e x => swp e x) c
theorem loc_snoc (l : List (Int × Int)) (e : Int × Int) (t : Int) : loc (l ++ [e]) t = swp e (loc l t) := by unfold loc; rw [List.foldl_append]; rfl
theorem ivr_snoc (l : List (Int × Int)) (e : Int × Int) (c : Int) : ivr (l ++ [e]) c = ivr l (swp e c) := by unfold ivr; rw [List.foldr_append]; rfl
theorem loc_cons (l : List (Int × Int)) (e : Int × Int) (t : Int) : loc (e :: l) t = loc l (swp e t) := rfl
theorem ivr_cons (l : List (Int × Int)) (e : Int × Int) (c : Int) : ivr (e :: l) c = swp e (ivr l c) := rfl
theorem ivr_loc (l : List (Int × Int)) : ∀ t, ivr l (loc l t) = t := by
  induction l with
  | nil => intro t; rfl
  | cons e r ih => intro t; rw [ivr_cons, loc_cons, ih, swp_swp]
theorem loc_ivr (l : List (Int × Int)) : ∀ c, loc l (ivr l c) = c := by
  induction l with
  | nil => intro t; rfl
  | cons e r ih => intro t; rw [ivr_cons, loc_cons, swp_swp, ih]
theorem swp_in {n : Nat} {e : Int × Int} {x : Int} (h : 1 ≤ e.1 ∧ e.1 < e.2 ∧ e.2 ≤ n) (hx : 1 ≤ x ∧ x ≤ n) : 1 ≤ swp e x ∧ swp e x ≤ n := by
  unfold swp
  split
  · omega
  · split <;> omega
theorem ValidL.init {n : Nat} {l : List (Int × Int)} {e : Int × Int} (h : ValidL n (l ++ [e])) : ValidL n l ∧ 1 ≤ e.1 ∧ e.1 < e.2 ∧ e.2 ≤ n :=
  ⟨fun q hq => h q (List.mem_append_left _ hq), h e (List.mem_append_right _ (List.mem_singleton.mpr rfl))⟩
theorem loc_in {n : Nat} : ∀ {l : List (Int × Int)}, ValidL n l → ∀ t : Int, 1 ≤ t ∧ t ≤ n → 1 ≤ loc l t ∧ loc l t ≤ n
  | [], _, _, ht => ht
  | e :: r, hv, t, ht => by
    rw [loc_cons]
    exact loc_in (fun q hq => hv q (List.mem_cons_of_mem _ hq)) _ (swp_in (hv e List.mem_cons_self) ht)
theorem ivr_in {n : Nat} : ∀ {l : List (Int × Int)}, ValidL n l → ∀ t : Int, 1 ≤ t ∧ t ≤ n → 1 ≤ ivr l t ∧ ivr l t ≤ n
  | [], _, _, ht => ht
  | e :: r, hv, t, ht => by
    rw [ivr_cons]
    exact swp_in (hv e List.mem_cons_self) (ivr_in (fun q hq => hv q (List.mem_cons_of_mem _ hq)) _ ht)
theorem ivr_zero {n : Nat} : ∀ {l : List (Int × Int)}, ValidL n l → ivr l 0 = 0
  | [], _ => rfl
  | e :: r, hv => by
    rw [ivr_cons, ivr_zero (fun q hq => hv q (List.mem_cons_of_mem _ hq))]
    have := hv e List.mem_cons_self
    unfold swp
    split
    · omega
    · split
      · omega
      · rfl
/-! ### ways -/
def wayStep (e : Int × Int) (w : List Int) : List Int := if w.getLastD 0 = e.1 then w ++ [e.2] else if w.getLastD 0 = e.2 then w ++ [e.1] else w
def way (log : List (Int × Int)) (t : Int) : List Int := log.foldl (fun w e => wayStep e w) [t]
theorem way_snoc (l : List (Int × Int)) (e : Int × Int) (t : Int) : way (l ++ [e]) t = wayStep e (way l t) := by unfold way; rw [List.foldl_append]; rfl
theorem last_snoc (w : List Int) (x : Int) : (w ++ [x]).getLastD 0 = x := by rw [List.getLastD_eq_getLast?, List.getLast?_concat]; rfl
theorem snoc_ind {α : Type} {p : List α → Prop} (h0 : p []) (h1 : ∀ l e, p l → p (l ++ [e])) : ∀ l, p l := by
  intro l
  induction hl : l.length generalizing l with
  | zero => rw [List.length_eq_zero_iff.mp hl]; exact h0
  | succ n ih =>
    have ne : l ≠ [] := by intro z; rw [z] at hl; cases hl
    rw [← List.dropLast_concat_getLast ne]
    exact h1 _ _ (ih _ (by rw [List.length_dropLast, hl]; rfl))
theorem way_last (t : Int) : ∀ l : List (Int × Int), (way l t).getLastD 0 = loc l t := by
  refine snoc_ind rfl fun l e ih => ?_
  rw [way_snoc, loc_snoc, ← ih]
  unfold wayStep swp
  split
  · rw [last_snoc]
  · split
    · rw [last_snoc]
    · rfl
theorem way_ne (t : Int) : ∀ l : List (Int × Int), way l t ≠ [] := by
  refine snoc_ind (by intro z; cases z) fun l e ih => ?_
  rw [way_snoc]
  unfold wayStep
  split
  · simp
  · split
    · simp
    · exact ih
theorem way_len (t : Int) : ∀ l : List (Int × Int), (way l t).length ≤ l.length + 1 := by
  refine snoc_ind (Nat.le_refl _) fun l e ih => ?_
  rw [way_snoc, List.length_append, List.length_singleton]
  unfold wayStep
  split
  · rw [List.length_append, List.length_singleton]; omega
  · split
    · rw [List.length_append, List.length_singleton]; omega
    · omega
theorem way_in {n : Nat} (t : Int) (ht : 1 ≤ t ∧ t ≤ n) : ∀ l : List (Int × Int), ValidL n l → ∀ x ∈ way l t, 1 ≤ x ∧ x ≤ n := by
  refine snoc_ind (fun _ x hx => ?_) fun l e ih hv x hx => ?_
  · cases List.mem_singleton.mp hx; exact ht
  · have ⟨h1, h2⟩ := hv.init
    rw [way_snoc] at hx
    unfold wayStep at hx
    split at hx
    · rcases List.mem_append.mp hx with hx | hx
      · exact ih h1 x hx
      · cases List.mem_singleton.mp hx; omega
    · split at hx
      · rcases List.mem_append.mp hx with hx | hx
        · exact ih h1 x hx
        · cases List.mem_singleton.mp hx; omega
      · exact ih h1 x hx
/-! ### lists by place -/
def tab {α : Type} (n : Nat) (g : Nat → α) : List α := (List.range n).map g
section
variable {α : Type} {n : Nat} {g h : Nat → α}
theorem tab_len : (tab n g).length = n := by simp [tab]
theorem tab_get {j : Nat} (hj : j < n) : (tab n g)[j]? = some (g j) := by
  unfold tab
  rw [List.getElem?_map, List.getElem?_range hj]
  rfl
theorem tab_ext (e : ∀ j, j < n → g j = h j) : tab n g = tab n h := List.map_congr_left fun j hj => e j (List.mem_range.mp hj)
theorem tab_set {j : Nat} {x : α} : (tab n g).set j x = tab n fun m => if m = j then x else g m := by
  refine List.ext_getElem? fun i => ?_
  rw [List.getElem?_set]
  by_cases hi : i < n
  · rw [tab_get hi, tab_get hi, tab_len]
    by_cases e : j = i
    · subst e; rw [if_pos rfl, if_pos hi, if_pos rfl]
    · rw [if_neg e, if_neg (fun z => e z.symm)]
  · rw [List.getElem?_eq_none (l := tab n fun m => if m = j then x else g m) (by rw [tab_len]; omega), List.getElem?_eq_none (l := tab n g) (by rw [tab_len]; omega), tab_len]
    split
    · rw [if_neg (by omega)]
    · rfl
theorem tab_succ : tab (n + 1) g = tab n g ++ [g n] := by
  unfold tab
  rw [List.range_succ, List.map_append]
  rfl
theorem tab_mem {x : α} (hx : x ∈ tab n g) : ∃ j, j < n ∧ x = g j := by
  obtain ⟨j, hj, rfl⟩ := List.mem_map.mp hx
  exact ⟨j, List.mem_range.mp hj, rfl⟩
theorem of_tab {l : List α} (hl : l.length = n) (e : ∀ j, j < n → l[j]? = some (g j)) : l = tab n g := by
  refine List.ext_getElem? fun i => ?_
  by_cases hi : i < n
  · rw [e i hi, tab_get hi]
  · rw [List.getElem?_eq_none (by omega), List.getElem?_eq_none (by rw [tab_len]; omega)]
end
def waysL (n : Nat) (log : List (Int × Int)) : List (List Int) := tab n fun m => way log (m + 1)
def ordsL (n : Nat) (log : List (Int × Int)) : List (List Int) := tab n fun m => nbraw log (m + 1)
def endsL (n : Nat) (log : List (Int × Int)) : List Int := tab n fun m => loc log (m + 1)
def thgsL (n : Nat) (log : List (Int × Int)) : List Int := tab (n + 1) fun m => ivr log m
section
variable {n : Nat} {l : List (Int × Int)} {a b : Int}
/-- one exchange more: the rows of the two things in the cells grow -/
theorem ways_step (hv : ValidL n (l ++ [(a, b)])) : waysL n (l ++ [(a, b)]) =
    ((waysL n l).set (ivr l a - 1).toNat (way l (ivr l a) ++ [b])).set (ivr l b - 1).toNat (way l (ivr l b) ++ [a]) := by
  obtain ⟨h1, h2⟩ := hv.init
  simp only at h2
  have ia := ivr_in h1 a (by omega)
  have ib := ivr_in h1 b (by omega)
  unfold waysL
  rw [tab_set, tab_set]
  refine tab_ext fun j hj => ?_
  rw [way_snoc]
  unfold wayStep
  rw [way_last]
  have ka : loc l ((j : Int) + 1) = a ↔ (j : Int) + 1 = ivr l a := ⟨fun e => by rw [← e, ivr_loc], fun e => by rw [e, loc_ivr]⟩
  have kb : loc l ((j : Int) + 1) = b ↔ (j : Int) + 1 = ivr l b := ⟨fun e => by rw [← e, ivr_loc], fun e => by rw [e, loc_ivr]⟩
  have ne : ivr l a ≠ ivr l b := fun e => by
    have := loc_ivr l a
    rw [e, loc_ivr] at this
    omega
  simp only [ka, kb]
  by_cases e1 : (j : Int) + 1 = ivr l a
  · rw [if_pos e1, if_neg (by omega), if_pos (by omega), e1]
  · rw [if_neg e1]
    by_cases e2 : (j : Int) + 1 = ivr l b
    · rw [if_pos e2, if_pos (by omega), e2]
    · rw [if_neg e2, if_neg (by omega), if_neg (by omega)]
theorem thgs_step (hv : ValidL n (l ++ [(a, b)])) : thgsL n (l ++ [(a, b)]) = ((thgsL n l).set a.toNat (ivr l b)).set b.toNat (ivr l a) := by
  obtain ⟨h1, h2⟩ := hv.init
  simp only at h2
  unfold thgsL
  rw [tab_set, tab_set]
  refine tab_ext fun j hj => ?_
  rw [ivr_snoc]
  unfold swp
  by_cases e1 : (j : Int) = a
  · rw [if_pos e1, if_neg (by omega), if_pos (by omega)]
  · rw [if_neg e1]
    by_cases e2 : (j : Int) = b
    · rw [if_pos e2, if_pos (by omega)]
    · rw [if_neg e2, if_neg (by omega), if_neg (by omega)]
theorem nbraw_snoc (e : Int × Int) (k : Int) : nbraw (l ++ [e]) k = nbraw l k ++ ((if e.1 = k then [e.2] else []) ++ (if e.2 = k then [e.1] else [])) := by
  unfold nbraw
  rw [List.flatMap_append]
  simp
theorem ords_step (hv : ValidL n (l ++ [(a, b)])) : ordsL n (l ++ [(a, b)]) = ((ordsL n l).set (a - 1).toNat (nbraw l a ++ [b])).set (b - 1).toNat (nbraw l b ++ [a]) := by
  obtain ⟨h1, h2⟩ := hv.init
  simp only at h2
  unfold ordsL
  rw [tab_set, tab_set]
  refine tab_ext fun j hj => ?_
  rw [nbraw_snoc]
  by_cases e1 : a = (j : Int) + 1
  · rw [if_pos e1, if_neg (by omega : ¬ b = (j : Int) + 1), if_neg (by omega), if_pos (by omega), e1, List.append_nil]
  · rw [if_neg e1]
    by_cases e2 : b = (j : Int) + 1
    · rw [if_pos e2, if_pos (by omega), e2]; rfl
    · rw [if_neg e2, if_neg (by omega), if_neg (by omega)]; simp
end
theorem thgs_start (n : Nat) : rgV 0 ((n : Int) + 1) = iv (thgsL n []) := by
  unfold rgV iv thgsL tab
  rw [List.map_map]
  have e : ((n : Int) + 1 - 0).toNat = n + 1 := by omega
  rw [e]
  refine List.map_congr_left fun i _ => ?_
  show V.int (0 + (i : Nat)) = V.int i
  rw [Int.zero_add]

/-! ### cells that are joined -/
def edge (web : List (Int × Int)) (a b : Int) : Prop := (a, b) ∈ web ∨ (b, a) ∈ web
inductive Conn (web : List (Int × Int)) (a : Int) : Int → Prop where
  | refl : Conn web a a
  | step {b c : Int} : Conn web a b → edge web b c → Conn web a c
section
variable {web : List (Int × Int)} {a b c : Int}
theorem edge.symm (h : edge web a b) : edge web b a := h.elim .inr .inl
theorem Conn.trans (h : Conn web a b) (k : Conn web b c) : Conn web a c := by
  induction k with
  | refl => exact h
  | step _ e ih => exact .step ih e
theorem Conn.symm (h : Conn web a b) : Conn web b a := by
  induction h with
  | refl => exact .refl
  | step _ e ih => exact (Conn.step .refl e.symm).trans ih
theorem edge_snoc {e : Int × Int} : edge (web ++ [e]) a b ↔ edge web a b ∨ (a = e.1 ∧ b = e.2) ∨ (a = e.2 ∧ b = e.1) := by
  unfold edge
  obtain ⟨x, y⟩ := e
  simp only [List.mem_append, List.mem_singleton, Prod.mk.injEq]
  constructor
  · rintro ((h | ⟨h1, h2⟩) | (h | ⟨h1, h2⟩))
    · exact .inl (.inl h)
    · exact .inr (.inl ⟨h1, h2⟩)
    · exact .inl (.inr h)
    · exact .inr (.inr ⟨h2, h1⟩)
  · rintro ((h | h) | ⟨h1, h2⟩ | ⟨h1, h2⟩)
    · exact .inl (.inl h)
    · exact .inr (.inl h)
    · exact .inl (.inr ⟨h1, h2⟩)
    · exact .inr (.inr ⟨h2, h1⟩)
theorem Conn.more {e : Int × Int} (h : Conn web a b) : Conn (web ++ [e]) a b := by
  induction h with
  | refl => exact .refl
  | step _ e ih => exact .step ih (edge_snoc.mpr (.inl e))
theorem conn_snoc {e : Int × Int} : Conn (web ++ [e]) a b ↔ Conn web a b ∨ (Conn web a e.1 ∧ Conn web e.2 b) ∨ (Conn web a e.2 ∧ Conn web e.1 b) := by
  constructor
  · intro h
    induction h with
    | refl => exact .inl .refl
    | step _ q ih =>
      rcases edge_snoc.mp q with q | ⟨rfl, rfl⟩ | ⟨rfl, rfl⟩
      · rcases ih with h | ⟨h1, h2⟩ | ⟨h1, h2⟩
        · exact .inl (.step h q)
        · exact .inr (.inl ⟨h1, .step h2 q⟩)
        · exact .inr (.inr ⟨h1, .step h2 q⟩)
      · rcases ih with h | ⟨h1, h2⟩ | ⟨h1, h2⟩
        · exact .inr (.inl ⟨h, .refl⟩)
        · exact .inr (.inl ⟨h1, .refl⟩)
        · exact .inl h1
      · rcases ih with h | ⟨h1, h2⟩ | ⟨h1, h2⟩
        · exact .inr (.inr ⟨h, .refl⟩)
        · exact .inl h1
        · exact .inr (.inr ⟨h1, .refl⟩)
  · have q : edge (web ++ [e]) e.1 e.2 := edge_snoc.mpr (.inr (.inl ⟨rfl, rfl⟩))
    rintro (h | ⟨h1, h2⟩ | ⟨h1, h2⟩)
    · exact h.more
    · exact (h1.more.step q).trans h2.more
    · exact (h1.more.step q.symm).trans h2.more
/-- what is reached stays within the cells -/
theorem Conn.within {n : Nat} (hv : ValidL n web) (h : Conn web a b) (ha : 1 ≤ a ∧ a ≤ n) : 1 ≤ b ∧ b ≤ n := by
  induction h with
  | refl => exact ha
  | step _ q _ =>
    rcases q with q | q
    · have := hv _ q; simp at this; omega
    · have := hv _ q; simp at this; omega
end
/-! ### marks -/
def markAt (m : List Int) (k : Int) : Int := m.getD k.toNat 0
def markStep (m : List Int) (e : Int × Int) : List Int := m.map fun x => if x = markAt m e.2 then markAt m e.1 else x
def marks (n : Nat) (web : List (Int × Int)) : List Int := web.foldl markStep ((List.range (n + 1)).map fun (k : Nat) => (k : Int))
theorem marks_len (n : Nat) (web : List (Int × Int)) : (marks n web).length = n + 1 := by
  have : ∀ (web : List (Int × Int)) (m : List Int), (web.foldl markStep m).length = m.length := by
    intro web
    induction web with
    | nil => intro m; rfl
    | cons e r ih => intro m; rw [List.foldl_cons, ih]; unfold markStep; rw [List.length_map]
  unfold marks
  rw [this]
  simp
theorem marks_snoc (n : Nat) (web : List (Int × Int)) (e : Int × Int) : marks n (web ++ [e]) = markStep (marks n web) e := by
  unfold marks
  rw [List.foldl_append]
  rfl
theorem mark_step_at {m : List Int} {e : Int × Int} {k : Int} (hk : k.toNat < m.length) : markAt (markStep m e) k = if markAt m k = markAt m e.2 then markAt m e.1 else markAt m k := by
  unfold markAt markStep
  rw [List.getD_eq_getElem?_getD, List.getElem?_map, List.getElem?_eq_getElem hk]
  simp [List.getD_eq_getElem?_getD, List.getElem?_eq_getElem hk, markAt]
/-- marks tell what is joined -/
theorem marks_conn {n : Nat} : ∀ (web : List (Int × Int)), ValidL n web → ∀ a b : Int, 0 ≤ a → a ≤ n → 0 ≤ b → b ≤ n → (markAt (marks n web) a = markAt (marks n web) b ↔ Conn web a b) := by
  intro web
  induction hl : web.length generalizing web with
  | zero =>
    have e : web = [] := List.length_eq_zero_iff.mp hl
    subst e
    intro _ a b a0 an b0 bn
    have m : ∀ k : Int, 0 ≤ k → k ≤ n → markAt (marks n []) k = k := by
      intro k k0 kn
      unfold markAt marks
      rw [List.foldl_nil, List.getD_eq_getElem?_getD, List.getElem?_map, List.getElem?_range (by omega)]
      simp; omega
    rw [m a a0 an, m b b0 bn]
    constructor
    · rintro rfl; exact .refl
    · intro h
      cases h with
      | refl => rfl
      | step _ q => cases q with | inl q => cases q | inr q => cases q
  | succ l ih =>
    obtain ⟨r, e, rfl⟩ : ∃ r e, web = r ++ [e] := by
      refine ⟨web.dropLast, web.getLast (by intro z; rw [z] at hl; cases hl), (List.dropLast_concat_getLast _).symm⟩
    intro hv a b a0 an b0 bn
    have hr : ValidL n r := fun q hq => hv q (List.mem_append_left _ hq)
    have he := hv e (List.mem_append_right _ (List.mem_singleton.mpr rfl))
    have len : r.length = l := by simp at hl; exact hl
    have ih := ih r len hr
    rw [marks_snoc, mark_step_at (by rw [marks_len]; omega), mark_step_at (by rw [marks_len]; omega), conn_snoc, ← ih a b a0 an b0 bn]
    have e1 := ih a e.1 a0 an (by omega) (by omega)
    have e2 := ih a e.2 a0 an (by omega) (by omega)
    have e3 := ih e.1 b (by omega) (by omega) b0 bn
    have e4 := ih e.2 b (by omega) (by omega) b0 bn
    rw [← e1, ← e2, ← e3, ← e4]
    constructor
    · intro h
      split at h <;> split at h
      · left; omega
      · right; right; omega
      · right; left; omega
      · left; exact h
    · intro h
      rcases h with h | ⟨h1, h2⟩ | ⟨h1, h2⟩
      · rw [h]
      · split <;> split <;> omega
      · split <;> split <;> omega
/-! ### pieces -/
def cellsTo (n : Nat) : List Int := (List.range n).map fun (k : Nat) => (k : Int) + 1
def comp (n : Nat) (web : List (Int × Int)) (k : Int) : List Int := (cellsTo n).filter fun j => decide (markAt (marks n web) j = markAt (marks n web) k)
def isLeast (n : Nat) (web : List (Int × Int)) (k : Int) : Bool := (comp n web k).head? == some k
/-- the pieces whose least cells are among the first m -/
def pcsTo (n : Nat) (web : List (Int × Int)) (m : Nat) : List (List Int) := ((cellsTo m).filter (isLeast n web)).map (comp n web)
def pcs (n : Nat) (web : List (Int × Int)) : List (List Int) := pcsTo n web n
theorem mem_cellsTo {n : Nat} {k : Int} : k ∈ cellsTo n ↔ 1 ≤ k ∧ k ≤ n := by
  unfold cellsTo
  rw [List.mem_map]
  constructor
  · rintro ⟨j, hj, rfl⟩
    have := List.mem_range.mp hj
    omega
  · intro h
    exact ⟨(k - 1).toNat, List.mem_range.mpr (by omega), by omega⟩
theorem cellsTo_asc (n : Nat) : (cellsTo n).Pairwise (· < ·) := by
  unfold cellsTo
  rw [List.pairwise_map]
  exact List.pairwise_lt_range.imp (fun h => by omega)
theorem cellsTo_succ (n : Nat) : cellsTo (n + 1) = cellsTo n ++ [(n : Int) + 1] := by
  unfold cellsTo
  rw [List.range_succ, List.map_append]
  rfl
theorem cellsTo_len (n : Nat) : (cellsTo n).length = n := by simp [cellsTo]
section
variable {n : Nat} {web : List (Int × Int)} (hv : ValidL n web)
include hv
theorem mem_comp {j k : Int} (hk : 1 ≤ k ∧ k ≤ n) : j ∈ comp n web k ↔ Conn web k j := by
  unfold comp
  rw [List.mem_filter, mem_cellsTo, decide_eq_true_eq]
  constructor
  · rintro ⟨hj, e⟩
    exact (marks_conn web hv k j (by omega) (by omega) (by omega) (by omega)).mp e.symm
  · intro h
    have hj := h.within hv hk
    exact ⟨hj, ((marks_conn web hv k j (by omega) (by omega) (by omega) (by omega)).mpr h).symm⟩
theorem comp_asc (k : Int) : (comp n web k).Pairwise (· < ·) := (cellsTo_asc n).sublist List.filter_sublist
theorem isLeast_iff {k : Int} (hk : 1 ≤ k ∧ k ≤ n) : isLeast n web k = true ↔ ∀ j, Conn web k j → k ≤ j := by
  unfold isLeast
  have self : k ∈ comp n web k := (mem_comp hv hk).mpr .refl
  have asc := comp_asc hv k
  cases e : comp n web k with
  | nil => rw [e] at self; cases self
  | cons x r =>
    rw [e] at asc self
    have asc' := List.pairwise_cons.mp asc
    have mem : ∀ j, j ∈ x :: r ↔ Conn web k j := fun j => by rw [← e]; exact mem_comp hv hk
    constructor
    · intro h j hj
      have ex : x = k := by simpa using h
      subst ex
      rcases List.mem_cons.mp ((mem j).mpr hj) with rfl | q
      · omega
      · have := asc'.1 j q; omega
    · intro h
      have h1 := h x ((mem x).mp List.mem_cons_self)
      rcases List.mem_cons.mp self with q | q
      · simp [q]
      · have := asc'.1 k q
        omega
theorem pcsTo_succ (m : Nat) : pcsTo n web (m + 1) = pcsTo n web m ++ (if isLeast n web ((m : Int) + 1) = true then [comp n web ((m : Int) + 1)] else []) := by
  unfold pcsTo
  rw [cellsTo_succ, List.filter_append, List.map_append]
  congr 1
  by_cases h : isLeast n web ((m : Int) + 1) = true
  · rw [if_pos h, List.filter_cons_of_pos h]; rfl
  · rw [if_neg h, List.filter_cons_of_neg h]; rfl
/-- an ascending list of just the joined cells is the piece -/
theorem comp_unique {k : Int} (hk : 1 ≤ k ∧ k ≤ n) {l : List Int} (nd : l.Nodup) (mem : ∀ j, j ∈ l ↔ Conn web k j) : srt l = comp n web k := by
  refine (srt_of (l := l) ?_ ((comp_asc hv k).imp (fun h => by omega))).symm
  refine (List.perm_ext_iff_of_nodup ?_ nd).mpr fun j => ?_
  · exact (comp_asc hv k).imp (fun h => by omega)
  · rw [mem, mem_comp hv hk]
end

theorem nodup_len : ∀ {l m : List Int}, l.Nodup → (∀ x ∈ l, x ∈ m) → l.length ≤ m.length
  | [], _, _, _ => Nat.zero_le _
  | x :: l, m, nd, sub => by
    have nd' := List.nodup_cons.mp nd
    have hx := sub x List.mem_cons_self
    have h := nodup_len (l := l) (m := m.erase x) nd'.2 fun y hy => (List.mem_erase_of_ne (fun e => by subst e; exact nd'.1 hy)).mpr (sub y (List.mem_cons_of_mem _ hy))
    rw [List.length_erase_of_mem hx] at h
    have : 0 < m.length := List.length_pos_of_mem hx
    rw [List.length_cons]
    omega
/-! ### a row of neighbours -/
theorem nbraw_cons (e : Int × Int) (r : List (Int × Int)) (k : Int) : nbraw (e :: r) k = ((if e.1 = k then [e.2] else []) ++ (if e.2 = k then [e.1] else [])) ++ nbraw r k := rfl
theorem mem_nbraw {web : List (Int × Int)} {j k : Int} : j ∈ nbraw web k ↔ edge web k j := by
  induction web with
  | nil => simp [nbraw, edge]
  | cons e r ih =>
    rw [nbraw_cons, List.mem_append, ih]
    obtain ⟨x, y⟩ := e
    unfold edge
    simp only [List.mem_append, List.mem_cons, Prod.mk.injEq]
    constructor
    · rintro ((h | h) | (h | h))
      · split at h
        · rename_i e; subst e; exact .inl (.inl ⟨rfl, by simpa using h⟩)
        · cases h
      · split at h
        · rename_i e; subst e; exact .inr (.inl ⟨by simpa using h, rfl⟩)
        · cases h
      · exact .inl (.inr h)
      · exact .inr (.inr h)
    · rintro ((⟨rfl, rfl⟩ | h) | (⟨rfl, rfl⟩ | h))
      · left; left; simp
      · right; left; exact h
      · left; right; simp
      · right; right; exact h
theorem nbraw_nodup {n : Nat} : ∀ {web : List (Int × Int)}, ValidW n web → ∀ k, (nbraw web k).Nodup
  | [], _, k => List.Pairwise.nil
  | e :: r, hv, k => by
    have hr : ValidW n r := ⟨fun q hq => hv.1 q (List.mem_cons_of_mem _ hq), (List.pairwise_cons.mp hv.2).2⟩
    have he := hv.1 e List.mem_cons_self
    have ih := nbraw_nodup hr k
    have ne : ∀ q ∈ r, q ≠ e := fun q hq z => by
      have := (List.pairwise_cons.mp hv.2).1 q hq
      rw [z] at this
      rcases this with h | ⟨_, h⟩ <;> omega
    rw [nbraw_cons]
    obtain ⟨x, y⟩ := e
    simp only at he ⊢
    by_cases h1 : x = k
    · have h2 : ¬ y = k := by omega
      rw [if_pos h1, if_neg h2]
      refine List.nodup_cons.mpr ⟨fun z => ?_, ih⟩
      rcases mem_nbraw.mp z with z | z
      · exact ne _ z (by rw [h1])
      · have := hr.1 _ z; simp at this; omega
    · by_cases h2 : y = k
      · rw [if_neg h1, if_pos h2]
        refine List.nodup_cons.mpr ⟨fun z => ?_, ih⟩
        rcases mem_nbraw.mp z with z | z
        · have := hr.1 _ z; simp at this; omega
        · exact ne _ z (by rw [h2])
      · rw [if_neg h1, if_neg h2]
        exact ih
theorem nbs_get (n : Nat) (web : List (Int × Int)) (k : Nat) (hk : k ≤ n) : (nbs n web)[k]? = some (srt (nbraw web k)) := by
  unfold nbs
  rw [List.getElem?_map, nbrows_get n web k hk]
  rfl
/-! ### going on from a cell -/
structure Dfs (web : List (Int × Int)) (c : Int) (pl wl : List Int) : Prop where
  nd : pl.Nodup
  self : c ∈ pl
  conn : ∀ j ∈ pl, Conn web c j
  sub : ∀ j ∈ wl, j ∈ pl
  cl : ∀ j ∈ pl, j ∉ wl → ∀ k, edge web j k → k ∈ pl
section
variable {web : List (Int × Int)} {c j : Int} {pl wl row : List Int} {n : Nat}
theorem Dfs.start : Dfs web c [c] [c] := by
  refine ⟨by simp, by simp, ?_, by simp, ?_⟩
  · intro j hj; cases List.mem_singleton.mp hj; exact .refl
  · intro j hj h; exact absurd hj h
theorem Dfs.step (d : Dfs web c pl (wl ++ [j])) (rn : row.Nodup) (rm : ∀ k, k ∈ row ↔ edge web j k) : Dfs web c (pl ++ row.filter fun k => !decide (k ∈ pl)) (wl ++ row.filter fun k => !decide (k ∈ pl)) := by
  have jp : j ∈ pl := d.sub j (List.mem_append_right _ (List.mem_singleton.mpr rfl))
  have mf : ∀ k, k ∈ row.filter (fun k => !decide (k ∈ pl)) ↔ edge web j k ∧ k ∉ pl := fun k => by rw [List.mem_filter, rm]; simp
  refine ⟨?_, List.mem_append_left _ d.self, ?_, ?_, ?_⟩
  · rw [List.nodup_append]
    refine ⟨d.nd, rn.sublist List.filter_sublist, ?_⟩
    rintro a ha b hb rfl
    exact ((mf a).mp hb).2 ha
  · intro k hk
    rcases List.mem_append.mp hk with hk | hk
    · exact d.conn k hk
    · exact .step (d.conn j jp) ((mf k).mp hk).1
  · intro k hk
    rcases List.mem_append.mp hk with hk | hk
    · exact List.mem_append_left _ (d.sub k (List.mem_append_left _ hk))
    · exact List.mem_append_right _ hk
  · intro k hk nk l hl
    have nk1 : k ∉ wl := fun z => nk (List.mem_append_left _ z)
    have nk2 := fun z => nk (List.mem_append_right wl z)
    have kp : k ∈ pl := by
      rcases List.mem_append.mp hk with hk | hk
      · exact hk
      · exact absurd hk nk2
    by_cases e : k = j
    · subst e
      by_cases lp : l ∈ pl
      · exact List.mem_append_left _ lp
      · exact List.mem_append_right _ ((mf l).mpr ⟨hl, lp⟩)
    · refine List.mem_append_left _ (d.cl k kp (fun z => ?_) l hl)
      rcases List.mem_append.mp z with z | z
      · exact nk1 z
      · exact e (List.mem_singleton.mp z)
theorem Dfs.done (d : Dfs web c pl []) (k : Int) : k ∈ pl ↔ Conn web c k := by
  refine ⟨d.conn k, fun h => ?_⟩
  induction h with
  | refl => exact d.self
  | step _ e ih => exact d.cl _ ih (by simp) _ e
theorem Dfs.len (d : Dfs web c pl wl) (hv : ValidL n web) (hc : 1 ≤ c ∧ c ≤ n) : pl.length ≤ n := by
  have := nodup_len (m := cellsTo n) d.nd fun j hj => mem_cellsTo.mpr ((d.conn j hj).within hv hc)
  rwa [cellsTo_len] at this
end

theorem cellsTo_nodup (n : Nat) : (cellsTo n).Nodup := (cellsTo_asc n).imp fun h e => by omega
/-! ### arrangements, their rounds -/
structure PermF (n : Nat) (p : Int → Int) : Prop where
  into : ∀ c : Int, 1 ≤ c ∧ c ≤ n → 1 ≤ p c ∧ p c ≤ n
  inj : ∀ c d : Int, (1 ≤ c ∧ c ≤ n) → (1 ≤ d ∧ d ≤ n) → p c = p d → c = d
def it (p : Int → Int) : Nat → Int → Int
  | 0, c => c
  | k + 1, c => p (it p k c)
theorem it_add (p : Int → Int) (j k : Nat) (c : Int) : it p (j + k) c = it p j (it p k c) := by
  induction j with
  | zero => rw [Nat.zero_add]; rfl
  | succ j ih => rw [Nat.succ_add]; show p (it p (j + k) c) = p (it p j (it p k c)); rw [ih]
theorem it_succ' (p : Int → Int) (k : Nat) (c : Int) : it p (k + 1) c = it p k (p c) := it_add p k 1 c
section
variable {n : Nat} {p : Int → Int} {c d : Int}
theorem PermF.it_in (h : PermF n p) (hc : 1 ≤ c ∧ c ≤ n) : ∀ k, 1 ≤ it p k c ∧ it p k c ≤ n
  | 0 => hc
  | k + 1 => h.into _ (h.it_in hc k)
theorem PermF.it_inj (h : PermF n p) (hc : 1 ≤ c ∧ c ≤ n) (hd : 1 ≤ d ∧ d ≤ n) : ∀ k, it p k c = it p k d → c = d
  | 0, e => e
  | k + 1, e => h.it_inj hc hd k (h.inj _ _ (h.it_in hc k) (h.it_in hd k) e)
theorem PermF.ret (h : PermF n p) (hc : 1 ≤ c ∧ c ≤ n) : ∃ m, 1 ≤ m ∧ m ≤ n ∧ it p m c = c := by
  rcases Classical.em (∃ m, 1 ≤ m ∧ m ≤ n ∧ it p m c = c) with q | q
  · exact q
  · exfalso
    have nd : ((List.range (n + 1)).map fun k => it p k c).Nodup := by
      have hp : (List.range (n + 1)).Pairwise fun i j => i < j ∧ j < n + 1 := by
        have h1 := List.pairwise_lt_range (n := n + 1)
        exact h1.imp_of_mem fun {a b} _ hb hab => ⟨hab, List.mem_range.mp hb⟩
      refine List.pairwise_map.mpr (hp.imp fun {i j} hij (e : it p i c = it p j c) => q ⟨j - i, by omega, by omega, ?_⟩)
      have e2 : it p j c = it p i (it p (j - i) c) := by rw [← it_add]; congr 1; omega
      rw [e2] at e
      exact (h.it_inj hc (h.it_in hc _) i e).symm
    have l := nodup_len (m := cellsTo n) nd fun x hx => by
      obtain ⟨k, _, rfl⟩ := List.mem_map.mp hx
      exact mem_cellsTo.mpr (h.it_in hc k)
    rw [cellsTo_len, List.length_map, List.length_range] at l
    omega
theorem PermF.least (h : PermF n p) (hc : 1 ≤ c ∧ c ≤ n) : ∃ m, 1 ≤ m ∧ m ≤ n ∧ it p m c = c ∧ ∀ k, 1 ≤ k → k < m → it p k c ≠ c := by
  obtain ⟨m, h1, h2, h3⟩ := h.ret hc
  obtain ⟨k, a, ⟨b1, b2⟩, d⟩ := L2.st_least (p := fun m => 1 ≤ m ∧ it p m c = c) m ⟨h1, h3⟩
  exact ⟨k, b1, by omega, b2, fun j j1 j2 e => d j j2 ⟨j1, e⟩⟩
end
def ringA (p : Int → Int) (c : Int) : Nat → Int → List Int
  | 0, _ => []
  | k + 1, x => x :: (if p x = c then [] else ringA p c k (p x))
def ring (n : Nat) (p : Int → Int) (c : Int) : List Int := ringA p c n c
section
variable {n : Nat} {p : Int → Int} {c d : Int}
theorem ringA_eq {m : Nat} (h3 : it p m c = c) (h4 : ∀ k, 1 ≤ k → k < m → it p k c ≠ c) : ∀ (f j : Nat), j < m → m - j ≤ f → ringA p c f (it p j c) = (List.range (m - j)).map fun k => it p (j + k) c
  | 0, j, h1, h2 => by omega
  | f + 1, j, h1, h2 => by
    have e : m - j = (m - (j + 1)) + 1 := by omega
    rw [e, List.range_succ_eq_map, List.map_cons, List.map_map]
    show it p j c :: (if p (it p j c) = c then [] else ringA p c f (p (it p j c))) = _
    congr 1
    by_cases hj : j + 1 = m
    · have : p (it p j c) = c := by
        have h5 : it p (j + 1) c = c := by rw [hj]; exact h3
        exact h5
      rw [if_pos this, show m - (j + 1) = 0 by omega]
      rfl
    · have : ¬ p (it p j c) = c := h4 (j + 1) (by omega) (by omega)
      rw [if_neg this]
      have ih := ringA_eq h3 h4 f (j + 1) (by omega) (by omega)
      show ringA p c f (it p (j + 1) c) = _
      rw [ih]
      refine List.map_congr_left fun k _ => ?_
      show it p (j + 1 + k) c = it p (j + (k + 1)) c
      congr 1
      omega
theorem PermF.ring_eq (h : PermF n p) (hc : 1 ≤ c ∧ c ≤ n) : ∃ m, 1 ≤ m ∧ m ≤ n ∧ it p m c = c ∧ (∀ k, 1 ≤ k → k < m → it p k c ≠ c) ∧ ring n p c = (List.range m).map fun k => it p k c := by
  obtain ⟨m, h1, h2, h3, h4⟩ := h.least hc
  refine ⟨m, h1, h2, h3, h4, ?_⟩
  have := ringA_eq h3 h4 n 0 (by omega) (by omega)
  rw [Nat.sub_zero] at this
  simpa [ring, it] using this
theorem it_mod {m : Nat} (h3 : it p m c = c) (q : Nat) : it p (q * m) c = c := by
  induction q with
  | zero => rw [Nat.zero_mul]; rfl
  | succ q ih => rw [Nat.succ_mul, it_add, h3, ih]
theorem it_rem {m : Nat} (h3 : it p m c = c) (k : Nat) : it p k c = it p (k % m) c := by
  have e : k = k % m + k / m * m := by rw [Nat.add_comm, Nat.mul_comm]; exact (Nat.div_add_mod k m).symm
  rw [e, it_add, it_mod h3]
  rw [← e]
theorem PermF.mem_ring (h : PermF n p) (hc : 1 ≤ c ∧ c ≤ n) {x : Int} : x ∈ ring n p c ↔ ∃ k, it p k c = x := by
  obtain ⟨m, h1, h2, h3, h4, e⟩ := h.ring_eq hc
  rw [e]
  constructor
  · intro hx
    obtain ⟨k, _, rfl⟩ := List.mem_map.mp hx
    exact ⟨k, rfl⟩
  · rintro ⟨k, rfl⟩
    rw [it_rem h3 k]
    exact List.mem_map.mpr ⟨k % m, List.mem_range.mpr (Nat.mod_lt _ (by omega)), rfl⟩
theorem PermF.ring_in (h : PermF n p) (hc : 1 ≤ c ∧ c ≤ n) {x : Int} (hx : x ∈ ring n p c) : 1 ≤ x ∧ x ≤ n := by
  obtain ⟨k, rfl⟩ := (h.mem_ring hc).mp hx
  exact h.it_in hc k
theorem PermF.ring_nodup (h : PermF n p) (hc : 1 ≤ c ∧ c ≤ n) : (ring n p c).Nodup := by
  obtain ⟨m, h1, h2, h3, h4, e⟩ := h.ring_eq hc
  rw [e]
  have hp : (List.range m).Pairwise fun i j => i < j ∧ j < m := (List.pairwise_lt_range (n := m)).imp_of_mem fun {a b} _ hb hab => ⟨hab, List.mem_range.mp hb⟩
  refine List.pairwise_map.mpr (hp.imp fun {i j} hij (e : it p i c = it p j c) => h4 (j - i) (by omega) (by omega) ?_)
  have e2 : it p j c = it p i (it p (j - i) c) := by rw [← it_add]; congr 1; omega
  rw [e2] at e
  exact (h.it_inj hc (h.it_in hc _) i e).symm
theorem PermF.ring_len (h : PermF n p) (hc : 1 ≤ c ∧ c ≤ n) : 1 ≤ (ring n p c).length ∧ (ring n p c).length ≤ n := by
  obtain ⟨m, h1, h2, h3, h4, e⟩ := h.ring_eq hc
  rw [e, List.length_map, List.length_range]
  exact ⟨h1, h2⟩
/-- to be in one round -/
def Rnd (p : Int → Int) (c d : Int) : Prop := ∃ k, it p k c = d
theorem Rnd.refl : Rnd p c c := ⟨0, rfl⟩
theorem Rnd.trans {e : Int} (a : Rnd p c d) (b : Rnd p d e) : Rnd p c e := by
  obtain ⟨j, rfl⟩ := a
  obtain ⟨k, rfl⟩ := b
  exact ⟨k + j, it_add p k j c⟩
theorem Rnd.step : Rnd p c (p c) := ⟨1, rfl⟩
theorem PermF.symm (h : PermF n p) (hc : 1 ≤ c ∧ c ≤ n) (a : Rnd p c d) : Rnd p d c := by
  obtain ⟨k, rfl⟩ := a
  obtain ⟨m, h1, h2, h3⟩ := h.ret hc
  refine ⟨k * m - k, ?_⟩
  have hk : k ≤ k * m := Nat.le_mul_of_pos_right k (by omega)
  rw [← it_add, Nat.sub_add_cancel hk, it_mod h3]
theorem PermF.rnd_in (h : PermF n p) (hc : 1 ≤ c ∧ c ≤ n) (a : Rnd p c d) : 1 ≤ d ∧ d ≤ n := by
  obtain ⟨k, rfl⟩ := a
  exact h.it_in hc k
theorem PermF.mem_ring' (h : PermF n p) (hc : 1 ≤ c ∧ c ≤ n) {x : Int} : x ∈ ring n p c ↔ Rnd p c x := h.mem_ring hc
theorem PermF.len_eq (h : PermF n p) (hc : 1 ≤ c ∧ c ≤ n) (a : Rnd p c d) : (ring n p d).length = (ring n p c).length := by
  have hd := h.rnd_in hc a
  have b := h.symm hc a
  have pe : (ring n p d).Perm (ring n p c) := (List.perm_ext_iff_of_nodup (h.ring_nodup hd) (h.ring_nodup hc)).mpr fun x => by
    rw [h.mem_ring' hd, h.mem_ring' hc]
    exact ⟨fun z => a.trans z, fun z => b.trans z⟩
  exact pe.length_eq
def lead (n : Nat) (p : Int → Int) (c : Int) : Bool := (ring n p c).all fun x => decide (c ≤ x)
def roundsF (n : Nat) (p : Int → Int) : List (List Int) := ((cellsTo n).filter (lead n p)).map (ring n p)
theorem PermF.lead_iff (h : PermF n p) (hc : 1 ≤ c ∧ c ≤ n) : lead n p c = true ↔ ∀ x, Rnd p c x → c ≤ x := by
  unfold lead
  rw [List.all_eq_true]
  exact ⟨fun a x hx => of_decide_eq_true (a x ((h.mem_ring' hc).mpr hx)), fun a x hx => decide_eq_true (a x ((h.mem_ring' hc).mp hx))⟩
/-- each round has one that leads -/
theorem PermF.has_lead (h : PermF n p) (hc : 1 ≤ c ∧ c ≤ n) : ∃ d : Int, (1 ≤ d ∧ d ≤ n) ∧ Rnd p d c ∧ lead n p d = true := by
  obtain ⟨k, _, ⟨hk1, hk2, hk3⟩, hm⟩ := L2.st_least (p := fun k : Nat => (1 : Int) ≤ k ∧ (k : Int) ≤ n ∧ Rnd p k c) c.toNat ⟨by omega, by omega, by rw [show ((c.toNat : Nat) : Int) = c from by omega]; exact Rnd.refl⟩
  refine ⟨k, ⟨hk1, hk2⟩, hk3, (h.lead_iff ⟨hk1, hk2⟩).mpr fun x hx => ?_⟩
  have xi := h.rnd_in ⟨hk1, hk2⟩ hx
  by_cases q : (k : Int) ≤ x
  · exact q
  · exfalso
    refine hm x.toNat (by omega) ⟨by omega, by omega, ?_⟩
    rw [show ((x.toNat : Nat) : Int) = x from by omega]
    exact (h.symm ⟨hk1, hk2⟩ hx).trans hk3
theorem PermF.lead_one (h : PermF n p) {d : Int} (hc : 1 ≤ c ∧ c ≤ n) (hd : 1 ≤ d ∧ d ≤ n) (a : lead n p c = true) (b : lead n p d = true) (r : Rnd p c d) : c = d := by
  have h1 := (h.lead_iff hc).mp a d r
  have h2 := (h.lead_iff hd).mp b c (h.symm hc r)
  omega
theorem PermF.flat (h : PermF n p) : (roundsF n p).flatten.Perm (cellsTo n) := by
  refine (List.perm_ext_iff_of_nodup ?_ (cellsTo_nodup n)).mpr fun x => ?_
  · unfold roundsF
    refine List.pairwise_flatten.mpr ⟨fun l hl => ?_, ?_⟩
    · obtain ⟨c, hc, rfl⟩ := List.mem_map.mp hl
      exact h.ring_nodup (mem_cellsTo.mp (List.mem_filter.mp hc).1)
    · refine List.pairwise_map.mpr (((cellsTo_nodup n).sublist List.filter_sublist).imp_of_mem fun {a b} ha hb ne x hx y hy e => ne ?_)
      obtain ⟨a1, a2⟩ := List.mem_filter.mp ha
      obtain ⟨b1, b2⟩ := List.mem_filter.mp hb
      subst e
      have ra := (h.mem_ring' (mem_cellsTo.mp a1)).mp hx
      have rb := (h.mem_ring' (mem_cellsTo.mp b1)).mp hy
      exact h.lead_one (mem_cellsTo.mp a1) (mem_cellsTo.mp b1) a2 b2 (ra.trans (h.symm (mem_cellsTo.mp b1) rb))
  · rw [List.mem_flatten, mem_cellsTo]
    constructor
    · rintro ⟨l, hl, hx⟩
      obtain ⟨c, hc, rfl⟩ := List.mem_map.mp hl
      exact h.ring_in (mem_cellsTo.mp (List.mem_filter.mp hc).1) hx
    · intro hx
      obtain ⟨d, hd, r, l⟩ := h.has_lead hx
      exact ⟨ring n p d, List.mem_map.mpr ⟨d, List.mem_filter.mpr ⟨mem_cellsTo.mpr hd, l⟩, rfl⟩, (h.mem_ring' hd).mpr r⟩
/-- how many rounds have the length L -/
theorem PermF.len_count (h : PermF n p) (L : Nat) : (cellsTo n).countP (fun c => decide ((ring n p c).length = L)) = ((roundsF n p).map List.length).count L * L := by
  rw [← h.flat.countP_eq, List.countP_flatten]
  have e : (roundsF n p).map (List.countP fun c => decide ((ring n p c).length = L)) = (roundsF n p).map fun r => if r.length = L then L else 0 := by
    refine List.map_congr_left fun r hr => ?_
    obtain ⟨c, hc, rfl⟩ := List.mem_map.mp hr
    have hc' := mem_cellsTo.mp (List.mem_filter.mp hc).1
    have al : ∀ x ∈ ring n p c, decide ((ring n p x).length = L) = decide ((ring n p c).length = L) := fun x hx => by
      rw [h.len_eq hc' ((h.mem_ring' hc').mp hx)]
    rw [List.countP_congr (q := fun _ => decide ((ring n p c).length = L)) (fun x hx => by rw [al x hx])]
    by_cases q : (ring n p c).length = L
    · simp [q]
    · simp [q]
  rw [e]
  generalize roundsF n p = R
  induction R with
  | nil => simp
  | cons r t ih =>
    rw [List.map_cons, List.map_cons, List.sum_cons, ih, List.count_cons]
    by_cases q : r.length = L
    · rw [if_pos q, if_pos (beq_iff_eq.mpr q), Nat.add_mul]; omega
    · rw [if_neg q, if_neg (fun z => q (beq_iff_eq.mp z)), Nat.zero_add, Nat.add_zero]
end
/-- named anew -/
theorem ringA_conj {n : Nat} {p q t : Int → Int} (hp : PermF n p) (ht : PermF n t) (e : ∀ c : Int, 1 ≤ c ∧ c ≤ n → q (t c) = t (p c)) {c : Int} (hc : 1 ≤ c ∧ c ≤ n) : ∀ (k : Nat) (x : Int), 1 ≤ x ∧ x ≤ n → ringA q (t c) k (t x) = (ringA p c k x).map t
  | 0, _, _ => rfl
  | k + 1, x, hx => by
    show t x :: (if q (t x) = t c then [] else ringA q (t c) k (q (t x))) = t x :: (if p x = c then [] else ringA p c k (p x)).map t
    rw [e x hx]
    by_cases z : p x = c
    · rw [if_pos z, if_pos (by rw [z])]; rfl
    · rw [if_neg z, if_neg (fun y => z (ht.inj _ _ (hp.into x hx) hc y)), ringA_conj hp ht e hc k (p x) (hp.into x hx)]
theorem PermF.cells {n : Nat} {t : Int → Int} (ht : PermF n t) : ((cellsTo n).map t).Perm (cellsTo n) := by
  have nd : ((cellsTo n).map t).Nodup := List.pairwise_map.mpr ((cellsTo_nodup n).imp_of_mem fun {a b} ha hb ne e => ne (ht.inj _ _ (mem_cellsTo.mp ha) (mem_cellsTo.mp hb) e))
  have sub : ∀ x ∈ (cellsTo n).map t, x ∈ cellsTo n := fun x hx => by
    obtain ⟨c, hc, rfl⟩ := List.mem_map.mp hx
    exact mem_cellsTo.mpr (ht.into c (mem_cellsTo.mp hc))
  refine (List.perm_ext_iff_of_nodup nd (cellsTo_nodup n)).mpr fun x => ⟨sub x, fun hx => ?_⟩
  rcases Classical.em (x ∈ (cellsTo n).map t) with q | q
  · exact q
  · exfalso
    have l := nodup_len (l := x :: (cellsTo n).map t) (m := cellsTo n) (List.nodup_cons.mpr ⟨q, nd⟩) fun y hy => by
      rcases List.mem_cons.mp hy with rfl | hy
      · exact hx
      · exact sub y hy
    rw [List.length_cons, List.length_map] at l
    omega
theorem conj_lens {n : Nat} {p q t : Int → Int} (hp : PermF n p) (hq : PermF n q) (ht : PermF n t) (e : ∀ c : Int, 1 ≤ c ∧ c ≤ n → q (t c) = t (p c)) : ((roundsF n q).map List.length).Perm ((roundsF n p).map List.length) := by
  refine List.perm_iff_count.mpr fun L => ?_
  have h1 := hq.len_count L
  have h2 := hp.len_count L
  rw [← ht.cells.countP_eq, List.countP_map] at h1
  have e2 : (cellsTo n).countP ((fun c => decide ((ring n q c).length = L)) ∘ t) = (cellsTo n).countP fun c => decide ((ring n p c).length = L) := by
    refine List.countP_congr fun c hc => ?_
    have hc' := mem_cellsTo.mp hc
    show decide ((ring n q (t c)).length = L) = true ↔ _
    unfold ring
    rw [ringA_conj hp ht e hc' n c hc', List.length_map]
  rw [e2, h2] at h1
  cases L with
  | zero =>
    have z : ∀ {r : Int → Int}, PermF n r → ((roundsF n r).map List.length).count 0 = 0 := fun {r} hr => by
      refine List.count_eq_zero.mpr fun m => ?_
      obtain ⟨l, hl, e0⟩ := List.mem_map.mp m
      obtain ⟨c, hc, rfl⟩ := List.mem_map.mp hl
      have := (hr.ring_len (mem_cellsTo.mp (List.mem_filter.mp hc).1)).1
      omega
    rw [z hq, z hp]
  | succ L => exact (Nat.eq_of_mul_eq_mul_right (Nat.succ_pos L) h1).symm

/-- an arrangement's list -/
def arrL (n : Nat) (p : Int → Int) : List Int := tab n fun j => p (j + 1)
theorem rgV_cells (n : Nat) : rgV 1 ((n : Int) + 1) = iv (cellsTo n) := by
  unfold rgV iv cellsTo
  rw [List.map_map, show ((n : Int) + 1 - 1).toNat = n by omega]
  exact List.map_congr_left fun i _ => by show V.int (1 + (i : Nat)) = V.int ((i : Int) + 1); congr 1; omega
theorem arrL_len {n : Nat} {p : Int → Int} : (arrL n p).length = n := tab_len
theorem arrL_get {n : Nat} {p : Int → Int} {c : Int} (h : 1 ≤ c ∧ c ≤ n) : (arrL n p)[(c - 1).toNat]? = some (p c) := by
  unfold arrL
  rw [tab_get (by omega)]
  congr 2
  omega
theorem arrL_ext {n : Nat} {p q : Int → Int} (h : ∀ c : Int, 1 ≤ c ∧ c ≤ n → p c = q c) : arrL n p = arrL n q := tab_ext fun j hj => h _ (by omega)
theorem arrL_inj {n : Nat} {p q : Int → Int} (h : arrL n p = arrL n q) {c : Int} (hc : 1 ≤ c ∧ c ≤ n) : p c = q c := by
  have h1 := arrL_get (p := p) hc
  rw [h, arrL_get hc] at h1
  exact (Option.some.inj h1).symm
theorem arrL_at {n : Nat} {p : Int → Int} {i : Nat} {x : Int} (h : (arrL n p)[i]? = some x) : i < n ∧ x = p (i + 1) := by
  have hi := (List.getElem?_eq_some_iff.mp h).1
  rw [arrL_len] at hi
  unfold arrL at h
  rw [tab_get hi] at h
  exact ⟨hi, (Option.some.inj h).symm⟩
theorem arrL_in {n : Nat} {p : Int → Int} (hp : PermF n p) : ∀ x ∈ arrL n p, 1 ≤ x ∧ x ≤ n := fun x hx => by
  obtain ⟨j, hj, rfl⟩ := tab_mem hx
  exact hp.into _ (by omega)
theorem ends_arrL (n : Nat) (log : List (Int × Int)) : endsL n log = arrL n (loc log) := rfl
theorem loc_perm {n : Nat} {log : List (Int × Int)} (hv : ValidL n log) : PermF n (loc log) :=
  ⟨fun c hc => loc_in hv c hc, fun c d _ _ e => by rw [← ivr_loc log c, e, ivr_loc]⟩
theorem perm_id (n : Nat) : PermF n id := ⟨fun _ h => h, fun _ _ _ _ e => e⟩
theorem PermF.comp {n : Nat} {p q : Int → Int} (hq : PermF n q) (hp : PermF n p) : PermF n (fun c => q (p c)) :=
  ⟨fun c hc => hq.into _ (hp.into c hc), fun c d hc hd e => hp.inj c d hc hd (hq.inj _ _ (hp.into c hc) (hp.into d hd) e)⟩
/-- what leads back, reckoned -/
def inv (n : Nat) (p : Int → Int) (x : Int) : Int := ((cellsTo n).find? fun c => p c == x).getD 0
theorem PermF.inv_p {n : Nat} {p : Int → Int} (h : PermF n p) {c : Int} (hc : 1 ≤ c ∧ c ≤ n) : inv n p (p c) = c := by
  unfold inv
  cases e : (cellsTo n).find? fun d => p d == p c with
  | none =>
    have := List.find?_eq_none.mp e c (mem_cellsTo.mpr hc)
    simp at this
  | some d =>
    have h1 := List.find?_some e
    have h2 := List.mem_of_find?_eq_some e
    have : p d = p c := by simpa using h1
    exact h.inj d c (mem_cellsTo.mp h2) hc this
theorem PermF.onto {n : Nat} {p : Int → Int} (h : PermF n p) {x : Int} (hx : 1 ≤ x ∧ x ≤ n) : ∃ c : Int, (1 ≤ c ∧ c ≤ n) ∧ p c = x := by
  obtain ⟨c, hc, e⟩ := List.mem_map.mp (h.cells.mem_iff.mpr (mem_cellsTo.mpr hx))
  exact ⟨c, mem_cellsTo.mp hc, e⟩
theorem PermF.p_inv {n : Nat} {p : Int → Int} (h : PermF n p) {x : Int} (hx : 1 ≤ x ∧ x ≤ n) : p (inv n p x) = x := by
  obtain ⟨c, hc, rfl⟩ := h.onto hx
  rw [h.inv_p hc]
theorem PermF.inv {n : Nat} {p : Int → Int} (h : PermF n p) : PermF n (inv n p) :=
  ⟨fun x hx => by obtain ⟨c, hc, rfl⟩ := h.onto hx; rw [h.inv_p hc]; exact hc, fun x y hx hy e => by rw [← h.p_inv hx, e, h.p_inv hy]⟩
theorem Loc.rowPut {H0 H : Hp} {r t : Addr} {row : List Int} {rs : List (Addr × List Int)} (l : Loc H0 H ((r, .lst (iv row)) :: (t, .lst (refs rs)) :: rowL rs)) :
    Loc H0 (upd H t (.lst (refs rs ++ [.ref r]))) ((t, .lst (refs (rs ++ [(r, row)]))) :: rowL (rs ++ [(r, row)])) := by
  have l2 := (l.setIx (i := 1) (o' := .lst (refs rs ++ [.ref r])) rfl).rot
  rw [refs_snoc]
  have e : rowL (rs ++ [(r, row)]) = rowL rs ++ [(r, .lst (iv row))] := List.map_append ..
  rw [e]
  exact l2
theorem roundsTo_snoc (n : Nat) (p : Int → Int) (i : Nat) : ((cellsTo (i + 1)).filter (lead n p)).map (ring n p) = ((cellsTo i).filter (lead n p)).map (ring n p) ++ (if lead n p (i + 1) = true then [ring n p (i + 1)] else []) := by
  rw [cellsTo_succ, List.filter_append, List.map_append]
  congr 1
  by_cases h : lead n p (i + 1) = true
  · rw [if_pos h, List.filter_cons_of_pos h]; rfl
  · rw [if_neg h, List.filter_cons_of_neg h]; rfl

/-! ### whole orders tell the ways -/
theorem nbraw_app (a b : List (Int × Int)) (k : Int) : nbraw (a ++ b) k = nbraw a k ++ nbraw b k := by unfold nbraw; rw [List.flatMap_append]
theorem nbraw_cons' (e : Int × Int) (r : List (Int × Int)) (k : Int) : nbraw (e :: r) k = ((if e.1 = k then [e.2] else []) ++ (if e.2 = k then [e.1] else [])) ++ nbraw r k := rfl
theorem foldl_still : ∀ (l : List (Int × Int)) (w : List Int), nbraw l (w.getLastD 0) = [] → l.foldl (fun w e => wayStep e w) w = w
  | [], _, _ => rfl
  | e :: r, w, h => by
    rw [nbraw_cons'] at h
    have h1 : ¬ w.getLastD 0 = e.1 := fun z => by rw [if_pos z.symm] at h; simp at h
    have h2 : ¬ w.getLastD 0 = e.2 := fun z => by rw [if_pos z.symm] at h; simp at h
    have h3 : nbraw r (w.getLastD 0) = [] := by
      rw [if_neg (fun z => h1 z.symm), if_neg (fun z => h2 z.symm)] at h
      simpa using h
    rw [List.foldl_cons]
    have : wayStep e w = w := by unfold wayStep; rw [if_neg h1, if_neg h2]
    rw [this]
    exact foldl_still r w h3
theorem way_app (l1 l2 : List (Int × Int)) (k : Int) : way (l1 ++ l2) k = l2.foldl (fun w e => wayStep e w) (way l1 k) := by unfold way; rw [List.foldl_append]
/-- the next exchange of a cell -/
theorem nb_next {n : Nat} : ∀ {l : List (Int × Int)} {c d : Int} {r : List Int}, ValidL n l → nbraw l c = d :: r → ∃ m e l3, l = m ++ e :: l3 ∧ nbraw m c = [] ∧ ((e.1 = c ∧ e.2 = d) ∨ (e.2 = c ∧ e.1 = d)) ∧ r = nbraw l3 c
  | [], _, _, _, _, h => by cases h
  | e :: l, c, d, r, hv, h => by
    have he := hv e List.mem_cons_self
    rw [nbraw_cons'] at h
    by_cases h1 : e.1 = c
    · rw [if_pos h1, if_neg (by omega)] at h
      have h' : e.2 :: nbraw l c = d :: r := h
      injection h' with a b
      exact ⟨[], e, l, rfl, rfl, .inl ⟨h1, a⟩, b.symm⟩
    · by_cases h2 : e.2 = c
      · rw [if_neg h1, if_pos h2] at h
        have h' : e.1 :: nbraw l c = d :: r := h
        injection h' with a b
        exact ⟨[], e, l, rfl, rfl, .inr ⟨h2, a⟩, b.symm⟩
      · rw [if_neg h1, if_neg h2] at h
        obtain ⟨m, e', l3, rfl, h3, h4, h5⟩ := nb_next (fun q hq => hv q (List.mem_cons_of_mem _ hq)) (show nbraw l c = d :: r from h)
        refine ⟨e :: m, e', l3, rfl, ?_, h4, h5⟩
        rw [nbraw_cons', if_neg h1, if_neg h2, h3]
        rfl
theorem nb_mem {l : List (Int × Int)} {c d : Int} (h : c ∈ nbraw l d) : ∃ e ∈ l, (e.1 = d ∧ e.2 = c) ∨ (e.2 = d ∧ e.1 = c) := by
  obtain ⟨e, he, h⟩ := List.mem_flatMap.mp h
  refine ⟨e, he, ?_⟩
  rcases List.mem_append.mp h with h | h
  · split at h
    · rename_i q; exact .inl ⟨q, (List.mem_singleton.mp h).symm⟩
    · cases h
  · split at h
    · rename_i q; exact .inr ⟨q, (List.mem_singleton.mp h).symm⟩
    · cases h
/-- one step of a way, told by the rows alone -/
theorem walk_step {n : Nat} {l1 l2 : List (Int × Int)} {k d : Int} {r : List Int} (hv : ValidL n (l1 ++ l2)) (hn : (l1 ++ l2).Nodup) (h : nbraw l2 (loc l1 k) = d :: r) :
    ∃ l1' l2', l1 ++ l2 = l1' ++ l2' ∧ l2'.length < l2.length ∧ way l1' k = way l1 k ++ [d] ∧ loc l1' k = d ∧ 1 ≤ d ∧ d ≤ n ∧
      loc l1 k ∈ nbraw (l1 ++ l2) d ∧ (nbraw (l1 ++ l2) d).idxOf (loc l1 k) + 1 ≤ (nbraw (l1 ++ l2) d).length ∧ (nbraw (l1 ++ l2) d).drop ((nbraw (l1 ++ l2) d).idxOf (loc l1 k) + 1) = nbraw l2' d := by
  obtain ⟨m, e, l3, rfl, h3, h4, _⟩ := nb_next (fun q hq => hv q (List.mem_append_right _ hq)) h
  have he := hv e (by simp)
  have wm : way (l1 ++ m) k = way l1 k := by rw [way_app]; exact foldl_still m _ (by rw [way_last]; exact h3)
  have we : way (l1 ++ m ++ [e]) k = way l1 k ++ [d] := by
    rw [way_snoc, wm]
    unfold wayStep
    rw [way_last]
    rcases h4 with ⟨a, b⟩ | ⟨a, b⟩
    · rw [if_pos a.symm, b]
    · rw [if_neg (by omega), if_pos a.symm, b]
  have row : nbraw (l1 ++ (m ++ e :: l3)) d = nbraw (l1 ++ m) d ++ loc l1 k :: nbraw l3 d := by
    rw [← List.append_assoc, nbraw_app, nbraw_cons']
    rcases h4 with ⟨a, b⟩ | ⟨a, b⟩
    · rw [if_neg (by omega), if_pos b, a]; rfl
    · rw [if_pos b, if_neg (by omega), a]; rfl
  have no : loc l1 k ∉ nbraw (l1 ++ m) d := by
    intro z
    obtain ⟨e', he', q⟩ := nb_mem z
    have hve' := hv e' (by
      rcases List.mem_append.mp he' with q | q
      · exact List.mem_append_left _ q
      · exact List.mem_append_right _ (List.mem_append_left _ q))
    have ee : e' = e := by
      obtain ⟨x, y⟩ := e
      obtain ⟨x', y'⟩ := e'
      simp only [Prod.mk.injEq] at *
      omega
    subst ee
    rw [← List.append_assoc, List.nodup_append] at hn
    exact hn.2.2 _ he' _ List.mem_cons_self rfl
  have ix : (nbraw (l1 ++ (m ++ e :: l3)) d).idxOf (loc l1 k) = (nbraw (l1 ++ m) d).length := by
    rw [row, List.idxOf_append, if_neg no, List.idxOf_cons_self, Nat.zero_add]
  refine ⟨l1 ++ m ++ [e], l3, by simp, by simp; omega, we, ?_, ?_, ?_, ?_, ?_, ?_⟩
  · rw [← way_last, we, last_snoc]
  · omega
  · omega
  · rw [row]; simp
  · rw [ix, row]; simp
  · rw [ix, row, List.drop_append]
    simp
def goW (rows : List (List Int)) : Nat → List Int → List Int → List Int
  | 0, told, _ => told
  | _ + 1, told, [] => told
  | f + 1, told, d :: _ => goW rows f (told ++ [d]) ((rows.getD (d - 1).toNat []).drop ((rows.getD (d - 1).toNat []).idxOf (told.getLastD 0) + 1))
theorem ords_at {n : Nat} {log : List (Int × Int)} {d : Int} (h1 : 1 ≤ d) (h2 : d ≤ n) : (ordsL n log)[(d - 1).toNat]? = some (nbraw log d) := by
  unfold ordsL
  rw [tab_get (by omega), show (((d - 1).toNat : Nat) : Int) + 1 = d from by omega]
theorem goW_way {n : Nat} {log : List (Int × Int)} (hv : ValidL n log) (hn : log.Nodup) (k : Int) : ∀ (f : Nat) (l1 l2 : List (Int × Int)), log = l1 ++ l2 → l2.length ≤ f → goW (ordsL n log) f (way l1 k) (nbraw l2 (loc l1 k)) = way log k := by
  intro f
  induction f with
  | zero =>
    intro l1 l2 e hf
    have : l2 = [] := List.length_eq_zero_iff.mp (by omega)
    subst this
    rw [e, List.append_nil]
    rfl
  | succ f ih =>
    intro l1 l2 e hf
    cases h : nbraw l2 (loc l1 k) with
    | nil =>
      show way l1 k = _
      rw [e, way_app, foldl_still l2 _ (by rw [way_last]; exact h)]
    | cons d r =>
      obtain ⟨l1', l2', e', hl, hw, hlo, d1, d2, _, _, hdrop⟩ := walk_step (by rw [← e]; exact hv) (by rw [← e]; exact hn) h
      show goW _ f (way l1 k ++ [d]) _ = _
      rw [← e] at e' hdrop
      have hg : (ordsL n log).getD (d - 1).toNat [] = nbraw log d := by
        rw [List.getD_eq_getElem?_getD, ords_at d1 d2]
        rfl
      rw [hg, way_last, hdrop, ← hw, ← hlo]
      exact ih l1' l2' e' (by omega)
theorem ords_way {n : Nat} {a b : List (Int × Int)} (ha : ValidL n a) (na : a.Nodup) (hb : ValidL n b) (nb : b.Nodup) (e : ordsL n a = ordsL n b) {k : Int} (h1 : 1 ≤ k) (h2 : k ≤ n) : way a k = way b k := by
  have ek : nbraw a k = nbraw b k := by
    have := ords_at (log := a) h1 h2
    rw [e, ords_at h1 h2] at this
    exact (Option.some.inj this).symm
  have wa := goW_way ha na k (a.length + b.length) [] a rfl (by omega)
  have wb := goW_way hb nb k (a.length + b.length) [] b rfl (by omega)
  rw [← wa, ← wb, e]
  show goW _ _ [k] (nbraw a k) = goW _ _ [k] (nbraw b k)
  rw [ek]
theorem ords_ends {n : Nat} {a b : List (Int × Int)} (ha : ValidL n a) (na : a.Nodup) (hb : ValidL n b) (nb : b.Nodup) (e : ordsL n a = ordsL n b) : endsL n a = endsL n b := by
  refine tab_ext fun j hj => ?_
  rw [← way_last, ← way_last, ords_way ha na hb nb e (by omega) (by omega)]
/-! ### neighbouring exchanges without a common cell -/
def apart (p q : Int × Int) : Prop := p.1 ≠ q.1 ∧ p.1 ≠ q.2 ∧ p.2 ≠ q.1 ∧ p.2 ≠ q.2
inductive Shk (l : List (Int × Int)) : List (Int × Int) → Prop
  | refl : Shk l l
  | step {x y : List (Int × Int)} {p q : Int × Int} : Shk l (x ++ [p, q] ++ y) → apart p q → Shk l (x ++ [q, p] ++ y)
theorem Shk.perm {l m : List (Int × Int)} (h : Shk l m) : m.Perm l := by
  induction h with
  | refl => exact List.Perm.refl _
  | step _ _ ih => exact ((List.Perm.append_left _ (List.Perm.swap _ _ _)).append_right _).trans ih
theorem Shk.ords {l m : List (Int × Int)} (h : Shk l m) (k : Int) : nbraw m k = nbraw l k := by
  induction h with
  | refl => rfl
  | @step x y p q _ ap ih =>
    rw [← ih, nbraw_app, nbraw_app, nbraw_app, nbraw_app]
    congr 2
    obtain ⟨a1, a2, a3, a4⟩ := ap
    rw [nbraw_cons', nbraw_cons', nbraw_cons', nbraw_cons']
    by_cases h1 : q.1 = k
    · rw [if_neg (by omega : ¬ p.1 = k), if_neg (by omega : ¬ p.2 = k)]; simp
    · by_cases h2 : q.2 = k
      · rw [if_neg (by omega : ¬ p.1 = k), if_neg (by omega : ¬ p.2 = k)]; simp
      · rw [if_neg h1, if_neg h2]; simp
theorem Shk.ordsL {n : Nat} {l m : List (Int × Int)} (h : Shk l m) : ordsL n m = ordsL n l := tab_ext fun j _ => h.ords _

/-! ### one step: two exchanges that follow one another -/
theorem loc_app (a b : List (Int × Int)) (c : Int) : loc (a ++ b) c = loc b (loc a c) := by unfold loc; rw [List.foldl_append]
theorem last_conj {n : Nat} {log : List (Int × Int)} (hv : ValidL n log) {c : Int} (hc : 1 ≤ c ∧ c ≤ n) : loc (log.drop 1 ++ log.take 1) c = loc (log.take 1) (loc log (inv n (loc (log.take 1)) c)) := by
  have hs : PermF n (loc (log.take 1)) := loc_perm fun e he => hv e (List.mem_of_mem_take he)
  have e : loc log (inv n (loc (log.take 1)) c) = loc (log.drop 1) c := by
    have h : loc log (inv n (loc (log.take 1)) c) = loc (log.take 1 ++ log.drop 1) (inv n (loc (log.take 1)) c) := by rw [List.take_append_drop]
    rw [h, loc_app, hs.p_inv hc]
  rw [e, loc_app]
theorem last_turn {log : List (Int × Int)} (c : Int) : loc (log.drop 1 ++ log.take 1) (loc (log.take 1) c) = loc (log.take 1) (loc log c) := by
  have h : loc log c = loc (log.take 1 ++ log.drop 1) c := by rw [List.take_append_drop]
  rw [h, loc_app, loc_app]
def tr (a b x : Int) : Int := if x = a then b else if x = b then a else x
theorem tr_symm (a b x : Int) : tr a b x = tr b a x := by
  unfold tr
  by_cases h : x = a
  · rw [if_pos h]
    by_cases g : x = b
    · rw [if_pos g]; omega
    · rw [if_neg g, if_pos h]
  · rw [if_neg h]
    by_cases g : x = b
    · rw [if_pos g, if_pos g]
    · rw [if_neg g, if_neg g, if_neg h]
theorem swp_tr (e : Int × Int) (x : Int) : swp e x = tr e.1 e.2 x := rfl
/-- have a cell in common, as the law asks it -/
def nearB (e f : Int × Int) : Bool := (decide (e.1 = f.1) || decide (e.1 = f.2)) || (decide (e.2 = f.1) || decide (e.2 = f.2))
theorem near_cells {n : Nat} {e f : Int × Int} (he : 1 ≤ e.1 ∧ e.1 < e.2 ∧ e.2 ≤ n) (hf : 1 ≤ f.1 ∧ f.1 < f.2 ∧ f.2 ≤ n) (ne : e ≠ f) (h : nearB e f = true) :
    ∃ s u v : Int, s ≠ u ∧ s ≠ v ∧ u ≠ v ∧ (1 ≤ s ∧ s ≤ n) ∧ (1 ≤ u ∧ u ≤ n) ∧ (1 ≤ v ∧ v ≤ n) ∧ (∀ x, swp e x = tr s u x) ∧ ∀ x, swp f x = tr s v x := by
  obtain ⟨a, b⟩ := e
  obtain ⟨c, d⟩ := f
  have ne' : ¬ (a = c ∧ b = d) := fun z => ne (by rw [z.1, z.2])
  simp only [nearB, Bool.or_eq_true, decide_eq_true_eq] at h
  simp only at he hf
  rcases h with (h | h) | (h | h)
  · exact ⟨a, b, d, by omega, by omega, by omega, by omega, by omega, by omega, fun x => swp_tr _ x, fun x => by rw [swp_tr]; simp only; rw [h]⟩
  · exact ⟨a, b, c, by omega, by omega, by omega, by omega, by omega, by omega, fun x => swp_tr _ x, fun x => by rw [swp_tr, tr_symm]; simp only; rw [h]⟩
  · exact ⟨b, a, d, by omega, by omega, by omega, by omega, by omega, by omega, fun x => by rw [swp_tr, tr_symm], fun x => by rw [swp_tr]; simp only; rw [h]⟩
  · exact ⟨b, a, c, by omega, by omega, by omega, by omega, by omega, by omega, fun x => by rw [swp_tr, tr_symm], fun x => by rw [swp_tr, tr_symm]; simp only; rw [h]⟩
theorem far_apart {e f : Int × Int} (h : nearB e f = false) : apart e f := by
  simp only [nearB, Bool.or_eq_false_iff, decide_eq_false_iff_not] at h
  exact ⟨h.1.1, h.1.2, h.2.1, h.2.2⟩
theorem far_same {e f : Int × Int} (h : apart e f) (x : Int) : swp e (swp f x) = swp f (swp e x) := by
  obtain ⟨h1, h2, h3, h4⟩ := h
  unfold swp
  repeat' split
  all_goals omega
theorem loc_mid (l r : List (Int × Int)) (e f : Int × Int) (c : Int) : loc (l ++ e :: f :: r) c = loc r (swp f (swp e (loc l c))) := by rw [loc_app]; rfl
section
variable {n : Nat} {l r : List (Int × Int)} {e f : Int × Int}
theorem far_loc (h : apart e f) (c : Int) : loc (l ++ f :: e :: r) c = loc (l ++ e :: f :: r) c := by rw [loc_mid, loc_mid, far_same h]
/-- what happens to the three things -/
structure Three (n : Nat) (p q : Int → Int) (x y z X Y Z : Int) : Prop where
  xin : 1 ≤ x ∧ x ≤ n
  yin : 1 ≤ y ∧ y ≤ n
  zin : 1 ≤ z ∧ z ≤ n
  xy : x ≠ y
  xz : x ≠ z
  yz : y ≠ z
  px : p x = X
  py : p y = Y
  pz : p z = Z
  qx : q x = Y
  qy : q y = Z
  qz : q z = X
  rest : ∀ c : Int, c ≠ x → c ≠ y → c ≠ z → p c = q c
theorem near_three (hl : ValidL n l) (hr : ValidL n r) (he : 1 ≤ e.1 ∧ e.1 < e.2 ∧ e.2 ≤ n) (hf : 1 ≤ f.1 ∧ f.1 < f.2 ∧ f.2 ≤ n) (ne : e ≠ f) (h : nearB e f = true) :
    ∃ x y z X Y Z, Three n (loc (l ++ e :: f :: r)) (loc (l ++ f :: e :: r)) x y z X Y Z := by
  obtain ⟨s, u, v, su, sv, uv, hs, hu, hv, te, tf⟩ := near_cells he hf ne h
  refine ⟨ivr l s, ivr l u, ivr l v, loc r u, loc r v, loc r s, ivr_in hl s hs, ivr_in hl u hu, ivr_in hl v hv, fun z => su ?_, fun z => sv ?_, fun z => uv ?_, ?_, ?_, ?_, ?_, ?_, ?_, ?_⟩
  · rw [← loc_ivr l s, z, loc_ivr]
  · rw [← loc_ivr l s, z, loc_ivr]
  · rw [← loc_ivr l u, z, loc_ivr]
  all_goals try rw [loc_mid, loc_ivr, te, tf]
  all_goals try rw [loc_mid, loc_ivr, tf, te]
  · congr 1; unfold tr; rw [if_pos rfl, if_neg su.symm, if_neg uv]
  · congr 1; unfold tr; rw [if_neg su.symm, if_pos rfl, if_pos rfl]
  · congr 1; unfold tr; rw [if_neg sv.symm, if_neg uv.symm, if_neg sv.symm, if_pos rfl]
  · congr 1; unfold tr; rw [if_pos rfl, if_neg sv.symm, if_neg uv.symm]
  · congr 1; unfold tr; rw [if_neg su.symm, if_neg uv, if_neg su.symm, if_pos rfl]
  · congr 1; unfold tr; rw [if_neg sv.symm, if_pos rfl, if_pos rfl]
  · intro c h1 h2 h3
    rw [loc_mid, loc_mid]
    have k1 : loc l c ≠ s := fun z => h1 (by rw [← z, ivr_loc])
    have k2 : loc l c ≠ u := fun z => h2 (by rw [← z, ivr_loc])
    have k3 : loc l c ≠ v := fun z => h3 (by rw [← z, ivr_loc])
    rw [te, tf, tf, te]
    congr 1
    unfold tr
    simp [k1, k2, k3]
end
section
variable {n : Nat} {p q : Int → Int} {x y z X Y Z : Int}
theorem Three.apart (t : Three n p q x y z X Y Z) (hp : PermF n p) : X ≠ Y ∧ X ≠ Z ∧ Y ≠ Z := by
  refine ⟨fun e => t.xy (hp.inj _ _ t.xin t.yin ?_), fun e => t.xz (hp.inj _ _ t.xin t.zin ?_), fun e => t.yz (hp.inj _ _ t.yin t.zin ?_)⟩
  · rw [t.px, t.py, e]
  · rw [t.px, t.pz, e]
  · rw [t.py, t.pz, e]
/-- the places that changed -/
def movedL (n : Nat) (p q : Int → Int) : List Int := (tab n fun j => (j : Int)).filter fun j => decide (p (j + 1) ≠ q (j + 1))
theorem mem_moved {j : Int} : j ∈ movedL n p q ↔ (0 ≤ j ∧ j < n) ∧ p (j + 1) ≠ q (j + 1) := by
  unfold movedL
  rw [List.mem_filter, decide_eq_true_eq]
  refine and_congr_left fun _ => ⟨fun h => ?_, fun h => ?_⟩
  · obtain ⟨i, hi, rfl⟩ := tab_mem h
    omega
  · exact List.mem_map.mpr ⟨j.toNat, List.mem_range.mpr (by omega), by omega⟩
theorem moved_nodup : (movedL n p q).Nodup := by
  unfold movedL tab
  exact (List.pairwise_map.mpr (List.nodup_range.imp fun h e => h (by omega))).sublist List.filter_sublist
theorem Three.moved (t : Three n p q x y z X Y Z) (hp : PermF n p) : (movedL n p q).Perm [x - 1, y - 1, z - 1] := by
  obtain ⟨a1, a2, a3⟩ := t.apart hp
  refine (List.perm_ext_iff_of_nodup moved_nodup ?_).mpr fun j => ?_
  · have := t.xy; have := t.xz; have := t.yz
    simp; omega
  · rw [mem_moved]
    simp only [List.mem_cons, List.not_mem_nil, or_false]
    constructor
    · rintro ⟨h1, h2⟩
      by_cases e1 : j = x - 1
      · exact .inl e1
      · by_cases e2 : j = y - 1
        · exact .inr (.inl e2)
        · by_cases e3 : j = z - 1
          · exact .inr (.inr e3)
          · exact absurd (t.rest (j + 1) (by omega) (by omega) (by omega)) h2
    · have h1 := t.xin; have h2 := t.yin; have h3 := t.zin
      rintro (e | e | e)
      · refine ⟨by omega, ?_⟩
        rw [show j + 1 = x by omega, t.px, t.qx]; exact a1
      · refine ⟨by omega, ?_⟩
        rw [show j + 1 = y by omega, t.py, t.qy]; exact a3
      · refine ⟨by omega, ?_⟩
        rw [show j + 1 = z by omega, t.pz, t.qz]; exact a2.symm
theorem Three.values (t : Three n p q x y z X Y Z) (hp : PermF n p) : ((movedL n p q).map fun j => p (j + 1)).Perm ((movedL n p q).map fun j => q (j + 1)) := by
  have h := t.moved hp
  refine (h.map _).trans (List.Perm.trans ?_ (h.map _).symm)
  simp only [List.map_cons, List.map_nil, Int.sub_add_cancel, t.px, t.py, t.pz, t.qx, t.qy, t.qz]
  exact (List.Perm.swap _ _ _).trans (List.Perm.cons _ (List.Perm.swap _ _ _))
/-- from the ends here to the ends after -/
theorem hand_at (hp : PermF n p) {c : Int} (hc : 1 ≤ c ∧ c ≤ n) : (fun c => q (inv n p c)) (p c) = q c := by
  show q (inv n p (p c)) = q c
  rw [hp.inv_p hc]
theorem ring_one {h : Int → Int} (hh : PermF n h) {c : Int} (hc : 1 ≤ c ∧ c ≤ n) (e : h c = c) : (ring n h c).length = 1 := by
  obtain ⟨m, m1, m2, m3, m4, em⟩ := hh.ring_eq hc
  rw [em, List.length_map, List.length_range]
  rcases Nat.lt_or_ge 1 m with q | q
  · exact absurd e (m4 1 (Nat.le_refl _) q)
  · omega
theorem ring_three {h : Int → Int} (hh : PermF n h) {a b c : Int} (ha : 1 ≤ a ∧ a ≤ n) (h1 : h a = b) (h2 : h b = c) (h3 : h c = a) (ab : a ≠ b) (ac : a ≠ c) : (ring n h a).length = 3 := by
  obtain ⟨m, m1, m2, m3, m4, em⟩ := hh.ring_eq ha
  rw [em, List.length_map, List.length_range]
  have i1 : it h 1 a = b := h1
  have i2 : it h 2 a = c := by show h (h a) = c; rw [h1, h2]
  have i3 : it h 3 a = a := by show h (h (h a)) = a; rw [h1, h2, h3]
  rcases Nat.lt_or_ge 3 m with q | q
  · exact absurd i3 (m4 3 (by omega) q)
  · have : m ≠ 1 := fun e => by rw [e, i1] at m3; exact ab m3.symm
    have : m ≠ 2 := fun e => by rw [e, i2] at m3; exact ac m3.symm
    omega
theorem Three.rings (t : Three n p q x y z X Y Z) (hp : PermF n p) (hq : PermF n q) : (∀ r ∈ roundsF n (fun c => q (inv n p c)), r.length ≤ 3) ∧ ∃ r ∈ roundsF n (fun c => q (inv n p c)), r.length = 3 := by
  obtain ⟨a1, a2, a3⟩ := t.apart hp
  have hh : PermF n (fun c => q (inv n p c)) := hq.comp hp.inv
  have eX : (fun c => q (inv n p c)) X = Y := by have := hand_at (q := q) hp t.xin; rw [t.px] at this; rw [this, t.qx]
  have eY : (fun c => q (inv n p c)) Y = Z := by have := hand_at (q := q) hp t.yin; rw [t.py] at this; rw [this, t.qy]
  have eZ : (fun c => q (inv n p c)) Z = X := by have := hand_at (q := q) hp t.zin; rw [t.pz] at this; rw [this, t.qz]
  have iX : 1 ≤ X ∧ X ≤ n := by rw [← t.px]; exact hp.into _ t.xin
  have iY : 1 ≤ Y ∧ Y ≤ n := by rw [← t.py]; exact hp.into _ t.yin
  have iZ : 1 ≤ Z ∧ Z ≤ n := by rw [← t.pz]; exact hp.into _ t.zin
  have rX := ring_three hh iX eX eY eZ a1 a2
  have rY := ring_three hh iY eY eZ eX a3 a1.symm
  have rZ := ring_three hh iZ eZ eX eY a2.symm a3.symm
  refine ⟨fun r hr => ?_, ?_⟩
  · obtain ⟨c, hc, rfl⟩ := List.mem_map.mp hr
    have hc' := mem_cellsTo.mp (List.mem_filter.mp hc).1
    by_cases q1 : c = X
    · rw [q1, rX]; exact Nat.le_refl _
    · by_cases q2 : c = Y
      · rw [q2, rY]; exact Nat.le_refl _
      · by_cases q3 : c = Z
        · rw [q3, rZ]; exact Nat.le_refl _
        · obtain ⟨d, hd, rfl⟩ := hp.onto hc'
          rw [ring_one hh hc' (by show q (inv n p (p d)) = p d; rw [hp.inv_p hd]; exact (t.rest d (fun e => q1 (by rw [e, t.px])) (fun e => q2 (by rw [e, t.py])) (fun e => q3 (by rw [e, t.pz]))).symm)]
          decide
  · obtain ⟨d, hd, rd, ld⟩ := hh.has_lead iX
    refine ⟨ring n _ d, List.mem_map.mpr ⟨d, List.mem_filter.mpr ⟨mem_cellsTo.mpr hd, ld⟩, rfl⟩, ?_⟩
    rw [← hh.len_eq hd rd]
    exact rX
theorem still_rings (hp : PermF n p) (hq : PermF n q) (h : ∀ c : Int, 1 ≤ c ∧ c ≤ n → p c = q c) : ∀ r ∈ roundsF n (fun c => q (inv n p c)), r.length = 1 := by
  have hh : PermF n (fun c => q (inv n p c)) := hq.comp hp.inv
  intro r hr
  obtain ⟨c, hc, rfl⟩ := List.mem_map.mp hr
  have hc' := mem_cellsTo.mp (List.mem_filter.mp hc).1
  obtain ⟨d, hd, rfl⟩ := hp.onto hc'
  exact ring_one hh hc' (by show q (inv n p (p d)) = p d; rw [hp.inv_p hd]; exact (h d hd).symm)
theorem rounds_ne (hp : PermF n p) (n1 : 1 ≤ n) : roundsF n p ≠ [] := by
  obtain ⟨d, hd, _, ld⟩ := hp.has_lead (c := 1) (by omega)
  intro e
  have : ring n p d ∈ roundsF n p := List.mem_map.mpr ⟨d, List.mem_filter.mpr ⟨mem_cellsTo.mpr hd, ld⟩, rfl⟩
  rw [e] at this
  cases this
end
theorem last_max {l : List Int} {m : Int} (asc : l.Pairwise (· ≤ ·)) (hm : m ∈ l) (h : ∀ x ∈ l, x ≤ m) : l.getLastD 0 = m := by
  have ne : l ≠ [] := fun e => by rw [e] at hm; cases hm
  rw [List.getLastD_eq_getLast?, List.getLast?_eq_getLast ne]
  show l.getLast ne = m
  have h1 := h _ (List.getLast_mem ne)
  have e : l = l.dropLast ++ [l.getLast ne] := (List.dropLast_concat_getLast ne).symm
  rw [e] at hm asc
  rcases List.mem_append.mp hm with q | q
  · have := (List.pairwise_append.mp asc).2.2 m q _ (List.mem_singleton.mpr rfl)
    omega
  · exact (List.mem_singleton.mp q).symm

/-! ### one more exchange at the end: two rounds become one, or one becomes two -/
section
variable {n : Nat} {p q : Int → Int} {a b c d : Int}
theorem tr_a : tr a b a = b := by unfold tr; rw [if_pos rfl]
theorem tr_b : tr a b b = a := by
  unfold tr
  by_cases h : b = a
  · rw [if_pos h]; exact h
  · rw [if_neg h, if_pos rfl]
theorem tr_ne (h1 : c ≠ a) (h2 : c ≠ b) : tr a b c = c := by unfold tr; rw [if_neg h1, if_neg h2]
theorem tr_tr (x : Int) : tr a b (tr a b x) = x := by
  by_cases h1 : x = a
  · rw [h1, tr_a, tr_b]
  · by_cases h2 : x = b
    · rw [h2, tr_b, tr_a]
    · rw [tr_ne h1 h2, tr_ne h1 h2]
theorem tr_perm (ha : 1 ≤ a ∧ a ≤ n) (hb : 1 ≤ b ∧ b ≤ n) : PermF n (tr a b) := by
  refine ⟨fun c hc => ?_, fun c d _ _ e => by rw [← tr_tr (a := a) (b := b) c, e, tr_tr]⟩
  unfold tr
  split
  · exact hb
  · split
    · exact ha
    · exact hc
/-- until b is met -/
theorem it_until {k : Nat} (hq : ∀ c, q c = tr a b (p c)) (h : ∀ i, 1 ≤ i → i < k → it p i c ≠ a ∧ it p i c ≠ b) : ∀ i, i < k → it q i c = it p i c
  | 0, _ => rfl
  | i + 1, hi => by
    show q (it q i c) = p (it p i c)
    rw [it_until hq h i (by omega), hq]
    obtain ⟨h1, h2⟩ := h (i + 1) (by omega) hi
    exact tr_ne h1 h2
/-- in one round: parted -/
theorem swap_part (hq : ∀ c, q c = tr a b (p c)) (ne : a ≠ b) (r : Rnd p a b) : ¬ Rnd q a b := by
  obtain ⟨k0, hk0⟩ := r
  obtain ⟨k, _, hk, hm⟩ := L2.st_least (p := fun k => it p k a = b) k0 hk0
  have k1 : 1 ≤ k := by
    cases k with
    | zero => exact absurd hk ne
    | succ k => omega
  have free : ∀ i, 1 ≤ i → i < k → it p i a ≠ a ∧ it p i a ≠ b := fun i i1 i2 => ⟨fun e => hm (k - i) (by omega) (by
    have : it p k a = it p (k - i) (it p i a) := by rw [← it_add]; congr 1; omega
    rw [e] at this
    rw [← this]; exact hk), hm i i2⟩
  have u := it_until (q := q) hq free
  have back : it q k a = a := by
    have e : k = (k - 1) + 1 := by omega
    rw [e]
    show q (it q (k - 1) a) = a
    rw [u (k - 1) (by omega), hq]
    have : p (it p (k - 1) a) = b := by
      have h2 : it p (k - 1 + 1) a = b := by rw [← e]; exact hk
      exact h2
    rw [this, tr_b]
  rintro ⟨j, hj⟩
  rw [it_rem back] at hj
  have lt := Nat.mod_lt j (by omega : k > 0)
  rw [u _ lt] at hj
  exact hm _ lt hj
/-- in two rounds: joined -/
theorem swap_join (hp : PermF n p) (hq : ∀ c, q c = tr a b (p c)) (ha : 1 ≤ a ∧ a ≤ n) (r : ¬ Rnd p a b) : Rnd q a b := by
  obtain ⟨k, k1, k2, hk, hm⟩ := hp.least ha
  have free : ∀ i, 1 ≤ i → i < k → it p i a ≠ a ∧ it p i a ≠ b := fun i i1 i2 => ⟨hm i i1 i2, fun e => r ⟨i, e⟩⟩
  have u := it_until (q := q) hq free
  refine ⟨k, ?_⟩
  have e : k = (k - 1) + 1 := by omega
  rw [e]
  show q (it q (k - 1) a) = b
  rw [u (k - 1) (by omega), hq]
  have : p (it p (k - 1) a) = a := by
    have h2 : it p (k - 1 + 1) a = a := by rw [← e]; exact hk
    exact h2
  rw [this, tr_a]
theorem swap_perm (hp : PermF n p) (hq : ∀ c, q c = tr a b (p c)) (ha : 1 ≤ a ∧ a ≤ n) (hb : 1 ≤ b ∧ b ≤ n) : PermF n q := by
  have t := tr_perm ha hb
  exact ⟨fun c hc => by rw [hq]; exact t.into _ (hp.into c hc), fun c d hc hd e => by rw [hq, hq] at e; exact hp.inj _ _ hc hd (t.inj _ _ (hp.into c hc) (hp.into d hd) e)⟩
/-- the rounds after -/
theorem swap_rnd (hp : PermF n p) (hq : ∀ c, q c = tr a b (p c)) (ha : 1 ≤ a ∧ a ≤ n) (hb : 1 ≤ b ∧ b ≤ n) (r : ¬ Rnd p a b) (hc : 1 ≤ c ∧ c ≤ n) :
    Rnd q c d ↔ Rnd p c d ∨ (Rnd p c a ∧ Rnd p b d) ∨ (Rnd p c b ∧ Rnd p a d) := by
  have Q := swap_perm hp hq ha hb
  have j := swap_join hp hq ha r
  have j' := Q.symm ha j
  have sub : ∀ (k : Nat) (c : Int), Rnd q c (it p k c) := by
    intro k
    induction k with
    | zero => intro c; exact Rnd.refl
    | succ k ih =>
      intro c
      refine (ih c).trans ?_
      show Rnd q (it p k c) (p (it p k c))
      generalize it p k c = x
      have s : Rnd q x (tr a b (p x)) := by rw [← hq]; exact Rnd.step
      by_cases h1 : p x = a
      · rw [h1, tr_a] at s; rw [h1]; exact s.trans j'
      · by_cases h2 : p x = b
        · rw [h2, tr_b] at s; rw [h2]; exact s.trans j
        · rw [tr_ne h1 h2] at s; exact s
  have sub' : ∀ {c d : Int}, Rnd p c d → Rnd q c d := fun {c d} h => by obtain ⟨k, rfl⟩ := h; exact sub k c
  constructor
  · rintro ⟨k, rfl⟩
    induction k with
    | zero => exact .inl Rnd.refl
    | succ k ih =>
      show Rnd p c (q (it q k c)) ∨ (Rnd p c a ∧ Rnd p b (q (it q k c))) ∨ (Rnd p c b ∧ Rnd p a (q (it q k c)))
      rw [hq]
      generalize it q k c = x at ih ⊢
      have s : Rnd p x (p x) := Rnd.step
      by_cases h1 : p x = a
      · rw [h1, tr_a]
        rw [h1] at s
        rcases ih with h | ⟨h, k⟩ | ⟨h, k⟩
        · exact .inr (.inl ⟨h.trans s, Rnd.refl⟩)
        · exact .inr (.inl ⟨h, Rnd.refl⟩)
        · exact .inl h
      · by_cases h2 : p x = b
        · rw [h2, tr_b]
          rw [h2] at s
          rcases ih with h | ⟨h, k⟩ | ⟨h, k⟩
          · exact .inr (.inr ⟨h.trans s, Rnd.refl⟩)
          · exact .inl h
          · exact .inr (.inr ⟨h, Rnd.refl⟩)
        · rw [tr_ne h1 h2]
          rcases ih with h | ⟨h, k⟩ | ⟨h, k⟩
          · exact .inl (h.trans s)
          · exact .inr (.inl ⟨h, k.trans s⟩)
          · exact .inr (.inr ⟨h, k.trans s⟩)
  · rintro (h | ⟨h, k⟩ | ⟨h, k⟩)
    · exact sub' h
    · exact ((sub' h).trans j).trans (sub' k)
    · exact ((sub' h).trans j').trans (sub' k)
theorem filter_less {l : List Int} {f g : Int → Bool} {x : Int} (nd : l.Nodup) (hx : x ∈ l) (fx : f x = true) (h : ∀ y ∈ l, g y = (f y && decide (y ≠ x))) : (l.filter f).length = (l.filter g).length + 1 := by
  induction l with
  | nil => cases hx
  | cons y r ih =>
    obtain ⟨n1, n2⟩ := List.nodup_cons.mp nd
    by_cases e : y = x
    · subst e
      have gy : g y = false := by rw [h y (.head _)]; simp
      rw [List.filter_cons_of_pos fx, List.filter_cons_of_neg (by rw [gy]; exact Bool.false_ne_true), List.length_cons]
      congr 2
      refine List.filter_congr fun z hz => ?_
      rw [h z (.tail _ hz)]
      have : z ≠ y := fun e => n1 (by rw [← e]; exact hz)
      simp [this]
    · have hx' : x ∈ r := (List.mem_cons.mp hx).resolve_left (fun z => e z.symm)
      have ih := ih n2 hx' (fun z hz => h z (.tail _ hz))
      have gy : g y = f y := by rw [h y (.head _)]; simp [e]
      cases fy : f y with
      | true => rw [List.filter_cons_of_pos fy, List.filter_cons_of_pos (by rw [gy]; exact fy), List.length_cons, List.length_cons, ih]
      | false => rw [List.filter_cons_of_neg (by rw [fy]; exact Bool.false_ne_true), List.filter_cons_of_neg (by rw [gy, fy]; exact Bool.false_ne_true), ih]
theorem rounds_len : (roundsF n p).length = ((cellsTo n).filter (lead n p)).length := by unfold roundsF; rw [List.length_map]
theorem swap_lead (hp : PermF n p) (hQ : PermF n q) (ha : 1 ≤ a ∧ a ≤ n) (hb : 1 ≤ b ∧ b ≤ n) (r : ¬ Rnd p a b)
    (hr : ∀ c d : Int, (1 ≤ c ∧ c ≤ n) → (Rnd q c d ↔ Rnd p c d ∨ (Rnd p c a ∧ Rnd p b d) ∨ (Rnd p c b ∧ Rnd p a d))) {la lb : Int} (a1 : 1 ≤ la ∧ la ≤ n) (a2 : Rnd p la a) (a3 : lead n p la = true)
    (b1 : 1 ≤ lb ∧ lb ≤ n) (b2 : Rnd p lb b) (b3 : lead n p lb = true) (lt : la < lb) : (roundsF n p).length = (roundsF n q).length + 1 := by
  rw [rounds_len, rounds_len]
  refine filter_less (cellsTo_nodup n) (mem_cellsTo.mpr b1) b3 fun c hc => ?_
  have hc := mem_cellsTo.mp hc
  rw [Bool.eq_iff_iff, Bool.and_eq_true, decide_eq_true_eq, hQ.lead_iff hc]
  constructor
  · intro h
    refine ⟨(hp.lead_iff hc).mpr fun x hx => h x ((hr c x hc).mpr (.inl hx)), fun e => ?_⟩
    subst e
    have := h la ((hr _ _ hc).mpr (.inr (.inr ⟨b2, hp.symm a1 a2⟩)))
    omega
  · rintro ⟨h1, h2⟩ x hx
    rcases (hr c x hc).mp hx with h | ⟨h, k⟩ | ⟨h, k⟩
    · exact (hp.lead_iff hc).mp h1 x h
    · have e := hp.lead_one hc a1 h1 a3 (h.trans (hp.symm a1 a2))
      have := (hp.lead_iff b1).mp b3 x (b2.trans k)
      omega
    · exact absurd (hp.lead_one hc b1 h1 b3 (h.trans (hp.symm b1 b2))) h2
/-- two become one -/
theorem swap_less (hp : PermF n p) (hq : ∀ c, q c = tr a b (p c)) (ha : 1 ≤ a ∧ a ≤ n) (hb : 1 ≤ b ∧ b ≤ n) (r : ¬ Rnd p a b) : (roundsF n p).length = (roundsF n q).length + 1 := by
  have Q := swap_perm hp hq ha hb
  obtain ⟨la, a1, a2, a3⟩ := hp.has_lead ha
  obtain ⟨lb, b1, b2, b3⟩ := hp.has_lead hb
  have hr : ∀ c d : Int, (1 ≤ c ∧ c ≤ n) → (Rnd q c d ↔ Rnd p c d ∨ (Rnd p c a ∧ Rnd p b d) ∨ (Rnd p c b ∧ Rnd p a d)) := fun c d hc => swap_rnd hp hq ha hb r hc
  have ne : la ≠ lb := fun e => r ((hp.symm a1 a2).trans (by rw [e]; exact b2))
  rcases Int.lt_or_gt_of_ne ne with lt | lt
  · exact swap_lead hp Q ha hb r hr a1 a2 a3 b1 b2 b3 lt
  · refine swap_lead hp Q hb ha (fun z => r (hp.symm hb z)) (fun c d hc => ?_) b1 b2 b3 a1 a2 a3 lt
    rw [hr c d hc]
    exact ⟨fun h => h.elim .inl (fun h => .inr h.symm), fun h => h.elim .inl (fun h => .inr h.symm)⟩
/-- one becomes two -/
theorem swap_more (hp : PermF n p) (hq : ∀ c, q c = tr a b (p c)) (ha : 1 ≤ a ∧ a ≤ n) (hb : 1 ≤ b ∧ b ≤ n) (ne : a ≠ b) (r : Rnd p a b) : (roundsF n q).length = (roundsF n p).length + 1 :=
  swap_less (swap_perm hp hq ha hb) (fun c => by rw [hq, tr_tr]) ha hb (swap_part hq ne r)
end
/-! ### the least number of exchanges -/
section
variable {n : Nat} {p q : Int → Int}
theorem rounds_congr (hp : PermF n p) (h : ∀ c : Int, 1 ≤ c ∧ c ≤ n → q c = p c) : roundsF n q = roundsF n p := by
  have rg : ∀ c : Int, 1 ≤ c ∧ c ≤ n → ring n q c = ring n p c := fun c hc => by
    have : ∀ (k : Nat) (x : Int), 1 ≤ x ∧ x ≤ n → ringA q c k x = ringA p c k x := by
      intro k
      induction k with
      | zero => intro x _; rfl
      | succ k ih =>
        intro x hx
        show x :: (if q x = c then [] else ringA q c k (q x)) = x :: (if p x = c then [] else ringA p c k (p x))
        rw [h x hx, ih (p x) (hp.into x hx)]
    exact this n c hc
  unfold roundsF
  have e : (cellsTo n).filter (lead n q) = (cellsTo n).filter (lead n p) := List.filter_congr fun c hc => by unfold lead; rw [rg c (mem_cellsTo.mp hc)]
  rw [e]
  exact List.map_congr_left fun c hc => rg c (mem_cellsTo.mp (List.mem_filter.mp hc).1)
theorem rounds_le (n : Nat) (p : Int → Int) : (roundsF n p).length ≤ n := by
  unfold roundsF
  rw [List.length_map]
  exact Nat.le_trans (List.length_filter_le _ _) (by rw [cellsTo_len]; exact Nat.le_refl _)
theorem rounds_full (hp : PermF n p) (h : (roundsF n p).length = n) {c : Int} (hc : 1 ≤ c ∧ c ≤ n) : p c = c := by
  have al : ∀ c ∈ cellsTo n, lead n p c = true := by
    rw [rounds_len] at h
    have e : (cellsTo n).filter (lead n p) = cellsTo n := List.filter_sublist.eq_of_length (by rw [h, cellsTo_len])
    intro c hc
    rw [← e] at hc
    exact (List.mem_filter.mp hc).2
  exact (hp.lead_one hc (hp.into c hc) (al c (mem_cellsTo.mpr hc)) (al _ (mem_cellsTo.mpr (hp.into c hc))) Rnd.step).symm
theorem exchanges_le (hp : PermF n p) : ∀ (k : Nat) {q : Int → Int}, PermF n q → n - (roundsF n q).length = k →
    (n - (roundsF n (fun c => q (p c))).length : Nat) ≤ (n - (roundsF n p).length) + k ∧ ((n - (roundsF n p).length) + k + (n - (roundsF n (fun c => q (p c))).length)) % 2 = 0 := by
  intro k
  induction k with
  | zero =>
    intro q hq e
    have l := rounds_le n q
    have e2 := rounds_congr (p := p) (q := fun c => q (p c)) hp fun c hc => rounds_full hq (by omega) (hp.into c hc)
    rw [e2]
    omega
  | succ k ih =>
    intro q hq e
    have : ∃ c : Int, (1 ≤ c ∧ c ≤ n) ∧ q c ≠ c := by
      rcases Classical.em (∃ c : Int, (1 ≤ c ∧ c ≤ n) ∧ q c ≠ c) with z | z
      · exact z
      · exfalso
        have idp : PermF n (fun c : Int => c) := ⟨fun _ h => h, fun _ _ _ _ h => h⟩
        have e2 := rounds_congr (p := fun c : Int => c) (q := q) idp fun c hc => by
          rcases Classical.em (q c = c) with y | y
          · exact y
          · exact absurd ⟨c, hc, y⟩ z
        have full : (roundsF n (fun c : Int => c)).length = n := by
          rw [rounds_len, List.filter_eq_self.mpr fun c hc => (idp.lead_iff (mem_cellsTo.mp hc)).mpr fun x hx => ?_, cellsTo_len]
          obtain ⟨k, rfl⟩ := hx
          have : ∀ k, it (fun c : Int => c) k c = c := fun k => by
            induction k with
            | zero => rfl
            | succ k ih => exact ih
          rw [this]; exact Int.le_refl _
        rw [e2] at e
        omega
    obtain ⟨c, hc, ne⟩ := this
    have hd := hq.into c hc
    have g := swap_more (q := fun x => tr c (q c) (q x)) hq (fun _ => rfl) hc hd (fun z => ne z.symm) Rnd.step
    have Q := swap_perm (q := fun x => tr c (q c) (q x)) hq (fun _ => rfl) hc hd
    have i := ih Q (by have := rounds_le n (fun x => tr c (q c) (q x)); omega)
    have P : PermF n (fun x => q (p x)) := ⟨fun x hx => hq.into _ (hp.into x hx), fun x y hx hy e => hp.inj _ _ hx hy (hq.inj _ _ (hp.into x hx) (hp.into y hy) e)⟩
    have l1 := rounds_le n (fun x => q (p x))
    have l2 := rounds_le n (fun x => tr c (q c) (q (p x)))
    rcases Classical.em (Rnd (fun x => q (p x)) c (q c)) with z | z
    · have := swap_more (q := fun x => tr c (q c) (q (p x))) P (fun _ => rfl) hc hd (fun z => ne z.symm) z
      omega
    · have := swap_less (q := fun x => tr c (q c) (q (p x))) P (fun _ => rfl) hc hd z
      omega
end

/-! ### meetings -/
def pr (x y : Int) : Int × Int := (if y < x then y else x, if y > x then y else x)
theorem swp_pr (x y t : Int) : swp (pr x y) t = if t = x then y else if t = y then x else t := by
  unfold swp pr
  simp only
  split <;> split <;> (try split) <;> (try split) <;> (try split) <;> omega
def metA (pre : List (Int × Int)) : List (Int × Int) → List (Int × Int)
  | [] => []
  | e :: r => pr (ivr pre e.1) (ivr pre e.2) :: metA (pre ++ [e]) r
def metL (log : List (Int × Int)) : List (Int × Int) := metA [] log
theorem metA_snoc (e : Int × Int) : ∀ (l pre : List (Int × Int)), metA pre (l ++ [e]) = metA pre l ++ [pr (ivr (pre ++ l) e.1) (ivr (pre ++ l) e.2)]
  | [], pre => by simp [metA]
  | f :: r, pre => by
    show pr _ _ :: metA (pre ++ [f]) (r ++ [e]) = (pr _ _ :: metA (pre ++ [f]) r) ++ _
    rw [metA_snoc e r (pre ++ [f]), List.cons_append, List.append_assoc]
    rfl
theorem metL_snoc (l : List (Int × Int)) (e : Int × Int) : metL (l ++ [e]) = metL l ++ [pr (ivr l e.1) (ivr l e.2)] := by
  unfold metL
  rw [metA_snoc]
  rfl
theorem metL_len : ∀ l : List (Int × Int), (metL l).length = l.length := by
  refine snoc_ind rfl fun l e ih => ?_
  rw [metL_snoc, List.length_append, List.length_append, ih]
  rfl
theorem loc_meet (l : List (Int × Int)) (e : Int × Int) (t : Int) : loc (l ++ [e]) t = loc l (swp (pr (ivr l e.1) (ivr l e.2)) t) := by
  rw [loc_snoc, swp_pr]
  unfold swp
  have ka : loc l t = e.1 ↔ t = ivr l e.1 := ⟨fun h => by rw [← h, ivr_loc], fun h => by rw [h, loc_ivr]⟩
  have kb : loc l t = e.2 ↔ t = ivr l e.2 := ⟨fun h => by rw [← h, ivr_loc], fun h => by rw [h, loc_ivr]⟩
  by_cases h1 : t = ivr l e.1
  · rw [if_pos h1, if_pos (ka.mpr h1), loc_ivr]
  · rw [if_neg h1, if_neg (fun z => h1 (ka.mp z))]
    by_cases h2 : t = ivr l e.2
    · rw [if_pos h2, if_pos (kb.mpr h2), loc_ivr]
    · rw [if_neg h2, if_neg (fun z => h2 (kb.mp z))]
/-- made backward, as exchanges of cells -/
theorem meet_back : ∀ (l : List (Int × Int)) (t : Int), loc (metL l).reverse t = loc l t := by
  refine snoc_ind (fun _ => rfl) fun l e ih t => ?_
  rw [metL_snoc, List.reverse_append, loc_meet]
  show loc (pr (ivr l e.1) (ivr l e.2) :: (metL l).reverse) t = _
  rw [loc_cons, ih]
theorem pr_ok {n : Nat} {x y : Int} (ne : x ≠ y) (hx : 1 ≤ x ∧ x ≤ n) (hy : 1 ≤ y ∧ y ≤ n) : 1 ≤ (pr x y).1 ∧ (pr x y).1 < (pr x y).2 ∧ (pr x y).2 ≤ n := by
  unfold pr
  simp only
  split <;> split <;> omega
theorem ivr_ne {l : List (Int × Int)} {a b : Int} (h : a ≠ b) : ivr l a ≠ ivr l b := fun z => h (by rw [← loc_ivr l a, z, loc_ivr])
theorem metL_valid {n : Nat} : ∀ l : List (Int × Int), ValidL n l → ValidL n (metL l) := by
  refine snoc_ind (fun _ _ z => nomatch z) fun l e ih hv => ?_
  obtain ⟨h1, h2⟩ := hv.init
  rw [metL_snoc]
  intro q hq
  rcases List.mem_append.mp hq with hq | hq
  · exact ih h1 q hq
  · cases List.mem_singleton.mp hq
    exact pr_ok (ivr_ne (by omega)) (ivr_in h1 _ (by omega)) (ivr_in h1 _ (by omega))
theorem pr_has (x y t : Int) : ((pr x y).1 = t ∨ (pr x y).2 = t) ↔ (x = t ∨ y = t) := by
  unfold pr
  simp only
  split <;> split <;> omega
/-- each thing meets as many as its way has steps -/
theorem meet_steps (t : Int) : ∀ l : List (Int × Int), (way l t).length = (metL l).countP (fun e => decide (e.1 = t ∨ e.2 = t)) + 1 := by
  refine snoc_ind rfl fun l e ih => ?_
  rw [metL_snoc, List.countP_append, way_snoc]
  have ka : loc l t = e.1 ↔ ivr l e.1 = t := ⟨fun h => by rw [← h, ivr_loc], fun h => by rw [← h, loc_ivr]⟩
  have kb : loc l t = e.2 ↔ ivr l e.2 = t := ⟨fun h => by rw [← h, ivr_loc], fun h => by rw [← h, loc_ivr]⟩
  have one : [pr (ivr l e.1) (ivr l e.2)].countP (fun e => decide (e.1 = t ∨ e.2 = t)) = if ivr l e.1 = t ∨ ivr l e.2 = t then 1 else 0 := by
    rw [List.countP_cons, List.countP_nil]
    simp only [decide_eq_true_eq, pr_has, Nat.zero_add]
  rw [one]
  unfold wayStep
  rw [way_last]
  by_cases h1 : loc l t = e.1
  · rw [if_pos h1, if_pos (.inl (ka.mp h1)), List.length_append, ih]; rfl
  · rw [if_neg h1]
    by_cases h2 : loc l t = e.2
    · rw [if_pos h2, if_pos (.inr (kb.mp h2)), List.length_append, ih]; rfl
    · rw [if_neg h2, if_neg (fun z => z.elim (fun z => h1 (ka.mpr z)) (fun z => h2 (kb.mpr z))), ih]
/-! ### joined cells, met things -/
theorem conn_loc (t : Int) : ∀ l : List (Int × Int), Conn l t (loc l t) := by
  refine snoc_ind .refl fun l e ih => ?_
  rw [loc_snoc]
  unfold swp
  have m := ih.more (e := e)
  split
  · rename_i h; exact m.step (by rw [h]; exact edge_snoc.mpr (.inr (.inl ⟨rfl, rfl⟩)))
  · split
    · rename_i h; exact m.step (by rw [h]; exact edge_snoc.mpr (.inr (.inr ⟨rfl, rfl⟩)))
    · exact m
theorem conn_ivr (c : Int) (l : List (Int × Int)) : Conn l (ivr l c) c := by
  have := conn_loc (ivr l c) l
  rwa [loc_ivr] at this
theorem conn_pr {l : List (Int × Int)} {x y a b : Int} : Conn (l ++ [pr x y]) a b ↔ Conn l a b ∨ (Conn l a x ∧ Conn l y b) ∨ (Conn l a y ∧ Conn l x b) := by
  rw [conn_snoc]
  unfold pr
  by_cases h : y < x
  · have h2 : ¬ y > x := by omega
    simp only [h, h2, if_true, if_false]
    constructor
    · rintro (h | h | h)
      · exact .inl h
      · exact .inr (.inr h)
      · exact .inr (.inl h)
    · rintro (h | h | h)
      · exact .inl h
      · exact .inr (.inr h)
      · exact .inr (.inl h)
  · by_cases h2 : y > x
    · simp only [h, h2, if_true, if_false]
    · have : x = y := by omega
      subst this
      simp only [h, if_false]
theorem conn_meet : ∀ (l : List (Int × Int)) (u v : Int), Conn (metL l) u v ↔ Conn l u v := by
  refine snoc_ind (fun _ _ => Iff.rfl) fun l e ih u v => ?_
  rw [metL_snoc, conn_pr, conn_snoc, ih, ih, ih, ih, ih]
  have ca := conn_ivr e.1 l
  have cb := conn_ivr e.2 l
  constructor
  · rintro (h | ⟨h1, h2⟩ | ⟨h1, h2⟩)
    · exact .inl h
    · exact .inr (.inl ⟨h1.trans ca, cb.symm.trans h2⟩)
    · exact .inr (.inr ⟨h1.trans cb, ca.symm.trans h2⟩)
  · rintro (h | ⟨h1, h2⟩ | ⟨h1, h2⟩)
    · exact .inl h
    · exact .inr (.inl ⟨h1.trans ca.symm, cb.trans h2⟩)
    · exact .inr (.inr ⟨h1.trans cb.symm, ca.trans h2⟩)
theorem conn_perm {l m : List (Int × Int)} (p : l.Perm m) {a b : Int} (h : Conn l a b) : Conn m a b := by
  induction h with
  | refl => exact .refl
  | step _ e ih => exact ih.step (e.elim (fun z => .inl (p.mem_iff.mp z)) (fun z => .inr (p.mem_iff.mp z)))
/-! ### how many pieces -/
def cnt (n : Nat) (web : List (Int × Int)) : Nat := ((cellsTo n).filter (isLeast n web)).length
theorem cnt_pcs (n : Nat) (web : List (Int × Int)) : (pcs n web).length = cnt n web := by
  unfold pcs pcsTo cnt
  rw [List.length_map]
theorem filter_eq {l : List Int} {p q : Int → Bool} (h : ∀ x ∈ l, p x = q x) : l.filter p = l.filter q := List.filter_congr h
theorem cnt_congr {n : Nat} {a b : List (Int × Int)} (va : ValidL n a) (vb : ValidL n b) (h : ∀ x y, Conn a x y ↔ Conn b x y) : cnt n a = cnt n b := by
  unfold cnt
  rw [filter_eq fun k hk => ?_]
  have hk' := mem_cellsTo.mp hk
  rw [Bool.eq_iff_iff, isLeast_iff va hk', isLeast_iff vb hk']
  exact ⟨fun z j hj => z j ((h _ _).mpr hj), fun z j hj => z j ((h _ _).mp hj)⟩
/-- at most one is lost -/
theorem lose_one {p q : Int → Bool} : ∀ {l : List Int}, (∀ x ∈ l, ∀ y ∈ l, p x = true → q x = false → p y = true → q y = false → x = y) → l.Nodup → (l.filter p).length ≤ (l.filter q).length + 1
  | [], _, _ => Nat.zero_le _
  | x :: r, h, nd => by
    have nd' := List.nodup_cons.mp nd
    have ih := lose_one (p := p) (q := q) (l := r) (fun a ha b hb => h a (List.mem_cons_of_mem _ ha) b (List.mem_cons_of_mem _ hb)) nd'.2
    by_cases hp : p x = true
    · by_cases hq : q x = true
      · rw [List.filter_cons_of_pos hp, List.filter_cons_of_pos hq, List.length_cons, List.length_cons]
        omega
      · have hq' : q x = false := by simpa using hq
        rw [List.filter_cons_of_pos hp, List.filter_cons_of_neg hq, List.length_cons]
        have sub : ∀ y ∈ r, p y = true → q y = true := fun y hy py => by
          cases e : q y with
          | true => rfl
          | false =>
            have := h x List.mem_cons_self y (List.mem_cons_of_mem _ hy) hp hq' py e
            subst this
            exact absurd hy nd'.1
        have : (r.filter p).length ≤ (r.filter q).length := by
          rw [← List.countP_eq_length_filter, ← List.countP_eq_length_filter]
          exact List.countP_mono_left fun y hy py => sub y hy py
        omega
    · rw [List.filter_cons_of_neg hp]
      by_cases hq : q x = true
      · rw [List.filter_cons_of_pos hq, List.length_cons]; omega
      · rw [List.filter_cons_of_neg hq]; exact ih
theorem cnt_snoc {n : Nat} {l : List (Int × Int)} {e : Int × Int} (hv : ValidL n (l ++ [e])) : cnt n l ≤ cnt n (l ++ [e]) + 1 := by
  obtain ⟨h1, h2⟩ := hv.init
  refine lose_one (fun x hx y hy px qx py qy => ?_) ((cellsTo_asc n).imp fun h => by omega)
  have hx' := mem_cellsTo.mp hx
  have hy' := mem_cellsTo.mp hy
  have lx := (isLeast_iff h1 hx').mp px
  have ly := (isLeast_iff h1 hy').mp py
  have no : ∀ k : Int, 1 ≤ k ∧ k ≤ n → isLeast n l k = true → isLeast n (l ++ [e]) k = false → ∃ j, j < k ∧ ((Conn l k e.1 ∧ Conn l e.2 j) ∨ (Conn l k e.2 ∧ Conn l e.1 j)) := fun k hk pk qk => by
    have : ¬ ∀ j, Conn (l ++ [e]) k j → k ≤ j := fun z => by
      rw [(isLeast_iff hv hk).mpr z] at qk
      cases qk
    obtain ⟨j, hj⟩ := Classical.not_forall.mp this
    obtain ⟨hc, hlt⟩ := Classical.not_imp.mp hj
    refine ⟨j, by omega, ?_⟩
    rcases conn_snoc.mp hc with h | h
    · exact absurd ((isLeast_iff h1 hk).mp pk j h) hlt
    · exact h
  obtain ⟨j, hj, cj⟩ := no x hx' px qx
  obtain ⟨j', hj', cj'⟩ := no y hy' py qy
  rcases cj with ⟨a1, a2⟩ | ⟨a1, a2⟩ <;> rcases cj' with ⟨b1, b2⟩ | ⟨b1, b2⟩
  · have h3 := lx y (a1.trans b1.symm)
    have h4 := ly x (b1.trans a1.symm)
    omega
  · have h3 := lx j' (a1.trans b2)
    have h4 := ly j (b1.trans a2)
    omega
  · have h3 := lx j' (a1.trans b2)
    have h4 := ly j (b1.trans a2)
    omega
  · have h3 := lx y (a1.trans b1.symm)
    have h4 := ly x (b1.trans a1.symm)
    omega
theorem cnt_same {n : Nat} {l : List (Int × Int)} {e : Int × Int} (hv : ValidL n (l ++ [e])) (h : Conn l e.1 e.2) : cnt n l = cnt n (l ++ [e]) := by
  refine cnt_congr hv.init.1 hv fun x y => ?_
  rw [conn_snoc]
  constructor
  · exact .inl
  · rintro (h1 | ⟨h1, h2⟩ | ⟨h1, h2⟩)
    · exact h1
    · exact (h1.trans h).trans h2
    · exact (h1.trans h.symm).trans h2
theorem cnt_nil (n : Nat) : cnt n [] = n := by
  unfold cnt
  have v0 : ValidL n [] := fun _ z => nomatch z
  have : (cellsTo n).filter (isLeast n []) = cellsTo n := List.filter_eq_self.mpr fun k hk => (isLeast_iff v0 (mem_cellsTo.mp hk)).mpr fun j hj => by
    cases hj with
    | refl => exact Int.le_refl _
    | step _ q => cases q with | inl q => cases q | inr q => cases q
  rw [this, cellsTo_len]
/-- with one exchange less than cells, and one piece, each exchange joins two -/
theorem forest {n : Nat} : ∀ l : List (Int × Int), ValidL n l → n ≤ cnt n l + l.length ∧ ((∃ l1 e r, l = l1 ++ e :: r ∧ Conn l1 e.1 e.2) → n + 1 ≤ cnt n l + l.length) := by
  refine snoc_ind (fun _ => ⟨by rw [cnt_nil]; exact Nat.le_refl _, fun z => by obtain ⟨l1, e, r, h, _⟩ := z; simp at h⟩) fun l e ih hv => ?_
  obtain ⟨i1, i2⟩ := ih hv.init.1
  have s := cnt_snoc hv
  rw [List.length_append, List.length_singleton]
  refine ⟨by omega, ?_⟩
  rintro ⟨l1, f, r, hl, hc⟩
  rcases List.eq_nil_or_concat r with rfl | ⟨r', g, rfl⟩
  · obtain ⟨rfl, h2⟩ := List.append_inj' hl rfl
    have : e = f := by simpa using h2
    subst this
    have := cnt_same hv hc
    omega
  · have hl' : l ++ [e] = (l1 ++ f :: r') ++ [g] := by rw [hl]; simp
    obtain ⟨h3, _⟩ := List.append_inj' hl' rfl
    have := i2 ⟨l1, f, r', h3, hc⟩
    omega
theorem meet_nodup {n : Nat} : ∀ l : List (Int × Int), ValidL n l → (¬ ∃ l1 e r, l = l1 ++ e :: r ∧ Conn l1 e.1 e.2) → (metL l).Nodup := by
  refine snoc_ind (fun _ _ => List.Pairwise.nil) fun l e ih hv no => ?_
  have no' : ¬ ∃ l1 e r, l = l1 ++ e :: r ∧ Conn l1 e.1 e.2 := fun ⟨l1, f, r, h, hc⟩ => no ⟨l1, f, r ++ [e], by rw [h]; simp, hc⟩
  rw [metL_snoc, List.nodup_append]
  refine ⟨ih hv.init.1 no', by simp, ?_⟩
  rintro d hd d' hd' rfl
  cases List.mem_singleton.mp hd'
  have hne : e.1 ≠ e.2 := by have := hv.init.2; omega
  have c1 : Conn (metL l) (ivr l e.1) (ivr l e.2) := by
    by_cases h : ivr l e.2 < ivr l e.1
    · refine Conn.symm (.step .refl (.inl ?_))
      have : pr (ivr l e.1) (ivr l e.2) = (ivr l e.2, ivr l e.1) := by unfold pr; simp only [h, if_true]; rw [if_neg (by omega)]
      rw [← this]; exact hd
    · refine .step .refl (.inl ?_)
      have h2 : ivr l e.2 > ivr l e.1 := by have := ivr_ne (l := l) hne; omega
      have : pr (ivr l e.1) (ivr l e.2) = (ivr l e.1, ivr l e.2) := by unfold pr; simp only [h, h2, if_true, if_false]
      rw [← this]; exact hd
  have c2 := (conn_meet l _ _).mp c1
  exact no ⟨l, e, [], rfl, ((conn_ivr e.1 l).symm.trans c2).trans (conn_ivr e.2 l)⟩

/-! ### how many rounds a log may have -/
section
variable {n : Nat} {l : List (Int × Int)} {e : Int × Int} {c d : Int}
theorem rnd_conn (h : Rnd (loc l) c d) : Conn l c d := by
  obtain ⟨k, rfl⟩ := h
  induction k with
  | zero => exact .refl
  | succ k ih => exact ih.trans (conn_loc _ l)
theorem loc_snoc_tr (c : Int) : loc (l ++ [e]) c = tr e.1 e.2 (loc l c) := by rw [loc_snoc, swp_tr]
theorem nr_snoc (hv : ValidL n (l ++ [e])) : (Rnd (loc l) e.1 e.2 → (roundsF n (loc (l ++ [e]))).length = (roundsF n (loc l)).length + 1) ∧ (¬ Rnd (loc l) e.1 e.2 → (roundsF n (loc l)).length = (roundsF n (loc (l ++ [e]))).length + 1) := by
  obtain ⟨h1, h2⟩ := hv.init
  have hp := loc_perm h1
  exact ⟨fun r => swap_more hp (fun c => loc_snoc_tr c) (by omega) (by omega) (by omega) r, fun r => swap_less hp (fun c => loc_snoc_tr c) (by omega) (by omega) r⟩
theorem nr_nil (n : Nat) : (roundsF n (loc [])).length = n := by
  have idp : PermF n (loc []) := perm_id n
  rw [rounds_len, List.filter_eq_self.mpr fun c hc => (idp.lead_iff (mem_cellsTo.mp hc)).mpr fun x hx => ?_, cellsTo_len]
  obtain ⟨k, rfl⟩ := hx
  have : ∀ k, it (loc []) k c = c := fun k => by
    induction k with
    | zero => rfl
    | succ k ih => exact ih
  rw [this]; exact Int.le_refl _
theorem cnt_le_nr (hv : ValidL n l) : cnt n l ≤ (roundsF n (loc l)).length := by
  unfold cnt
  rw [rounds_len, ← List.countP_eq_length_filter, ← List.countP_eq_length_filter]
  refine List.countP_mono_left fun c hc h => ?_
  have hc' := mem_cellsTo.mp hc
  exact ((loc_perm hv).lead_iff hc').mpr fun x hx => (isLeast_iff hv hc').mp h x (rnd_conn hx)
/-- rounds and cells are at most exchanges and two for each piece, and even with them -/
theorem genus {n : Nat} : ∀ l : List (Int × Int), ValidL n l → (roundsF n (loc l)).length + n ≤ l.length + 2 * cnt n l ∧ ((roundsF n (loc l)).length + n + l.length) % 2 = 0 := by
  refine snoc_ind (fun _ => by rw [nr_nil, cnt_nil]; simp; omega) fun l e ih hv => ?_
  obtain ⟨h1, h2⟩ := hv.init
  obtain ⟨i1, i2⟩ := ih h1
  obtain ⟨r1, r2⟩ := nr_snoc hv
  rw [List.length_append, List.length_singleton]
  rcases Classical.em (Conn l e.1 e.2) with c | c
  · have s := cnt_same hv c
    rcases Classical.em (Rnd (loc l) e.1 e.2) with r | r
    · have := r1 r; omega
    · have := r2 r; omega
  · have s := cnt_snoc hv
    have := r2 fun r => c (rnd_conn r)
    omega
end

/-! ### bridges -/
def wo (w : List (Int × Int)) (e : Int × Int) : List (Int × Int) := w.filter fun f => decide (f ≠ e)
/-- the cells on the side of the first cell -/
def sideL (n : Nat) (w : List (Int × Int)) (e : Int × Int) : List Int := comp n (wo w e) e.1
def brB (n : Nat) (w : List (Int × Int)) (e : Int × Int) : Bool := !decide (e.2 ∈ sideL n w e)
def brsL (n : Nat) (w : List (Int × Int)) : List (Int × Int) := w.filter (brB n w)
section
variable {n : Nat} {w l m : List (Int × Int)} {e f : Int × Int} {a b : Int}
theorem wo_valid (hv : ValidL n w) : ValidL n (wo w e) := fun f hf => hv f (List.mem_filter.mp hf).1
theorem conn_sub (h : ∀ f ∈ l, f ∈ m) (c : Conn l a b) : Conn m a b := by
  induction c with
  | refl => exact .refl
  | step _ q ih => exact ih.step (q.elim (fun z => .inl (h _ z)) fun z => .inr (h _ z))
theorem mem_side (hv : ValidL n w) (he : 1 ≤ e.1 ∧ e.1 < e.2 ∧ e.2 ≤ n) {c : Int} : c ∈ sideL n w e ↔ Conn (wo w e) e.1 c := mem_comp (wo_valid hv) (by omega)
theorem brB_iff (hv : ValidL n w) (he : 1 ≤ e.1 ∧ e.1 < e.2 ∧ e.2 ≤ n) : brB n w e = true ↔ ¬ Conn (wo w e) e.1 e.2 := by
  unfold brB
  rw [Bool.not_eq_true', decide_eq_false_iff_not, mem_side hv he]
theorem wo_split {l1 l2 : List (Int × Int)} (nd : (l1 ++ e :: l2).Nodup) : wo (l1 ++ e :: l2) e = l1 ++ l2 := by
  obtain ⟨n1, n2, n3⟩ := List.nodup_append.mp nd
  obtain ⟨n4, n5⟩ := List.nodup_cons.mp n2
  unfold wo
  have t : ∀ L : List (Int × Int), e ∉ L → (L.filter fun f => decide (f ≠ e)) = L := fun L h => List.filter_eq_self.mpr fun f hf => decide_eq_true fun (z : f = e) => h (by rw [← z]; exact hf)
  rw [List.filter_append, List.filter_cons_of_neg (by simp), t l1 (fun z => n3 e z e (.head _) rfl), t l2 n4]
theorem loc_eqv (l : List (Int × Int)) {x y : Int} : loc l x = loc l y ↔ x = y := ⟨fun h => by rw [← ivr_loc l x, h, ivr_loc], fun h => by rw [h]⟩
theorem loc_tr (l : List (Int × Int)) (a b x : Int) : loc l (tr a b x) = tr (loc l a) (loc l b) (loc l x) := by
  by_cases h1 : x = a
  · rw [h1, tr_a, tr_a]
  · by_cases h2 : x = b
    · rw [h2, tr_b, tr_b]
    · rw [tr_ne h1 h2, tr_ne (fun z => h1 ((loc_eqv l).mp z)) (fun z => h2 ((loc_eqv l).mp z))]
/-- a bridge taken out: one round more -/
theorem bridge_out (hv : ValidL n l) (nd : l.Nodup) (he : e ∈ l) (br : ¬ Conn (wo l e) e.1 e.2) : (roundsF n (loc (wo l e))).length = (roundsF n (loc l)).length + 1 := by
  obtain ⟨l1, l2, rfl⟩ := List.append_of_mem he
  have h2 : ValidL n l2 := fun f hf => hv f (List.mem_append_right _ (.tail _ hf))
  have he2 := hv e (List.mem_append_right _ (.head _))
  rw [wo_split nd] at br ⊢
  have hp : ValidL n (l1 ++ l2) := by
    have := wo_valid (e := e) hv
    rwa [wo_split nd] at this
  have sub : ∀ f ∈ l2, f ∈ l1 ++ l2 := fun f hf => List.mem_append_right _ hf
  refine swap_less (a := loc l2 e.1) (b := loc l2 e.2) (loc_perm hp) (fun c => ?_) (loc_in h2 _ (by omega)) (loc_in h2 _ (by omega)) fun r => br ?_
  · rw [loc_app, loc_app, loc_cons, swp_tr, loc_tr]
  · exact ((conn_sub sub (conn_loc e.1 l2)).trans (rnd_conn r)).trans (conn_sub sub (conn_loc e.2 l2)).symm
/-- all of some bridges taken out -/
theorem bridges_out (hv : ValidL n l) (nd : l.Nodup) : ∀ B : List (Int × Int), B.Nodup → (∀ e ∈ B, e ∈ l ∧ ¬ Conn (wo l e) e.1 e.2) → (roundsF n (loc (l.filter fun f => decide (f ∉ B)))).length = (roundsF n (loc l)).length + B.length
  | [], _, _ => by
    rw [List.filter_eq_self.mpr fun f _ => decide_eq_true (List.not_mem_nil)]
    rfl
  | e :: B, ndB, h => by
    obtain ⟨n1, n2⟩ := List.nodup_cons.mp ndB
    have ih := bridges_out hv nd B n2 fun f hf => h f (.tail _ hf)
    obtain ⟨h1, h2⟩ := h e (.head _)
    have hv' : ValidL n (l.filter fun f => decide (f ∉ B)) := fun f hf => hv f (List.mem_filter.mp hf).1
    have k := bridge_out hv' (nd.sublist List.filter_sublist) (e := e) (List.mem_filter.mpr ⟨h1, decide_eq_true n1⟩) fun c => h2 (conn_sub (fun f hf => by
      obtain ⟨a, b⟩ := List.mem_filter.mp hf
      exact List.mem_filter.mpr ⟨(List.mem_filter.mp a).1, b⟩) c)
    have e2 : (l.filter fun f => decide (f ∉ e :: B)) = wo (l.filter fun f => decide (f ∉ B)) e := by
      unfold wo
      rw [List.filter_filter]
      refine List.filter_congr fun f _ => ?_
      rw [Bool.eq_iff_iff, Bool.and_eq_true, decide_eq_true_eq, decide_eq_true_eq, decide_eq_true_eq, List.mem_cons, not_or]
    rw [e2, k, ih, List.length_cons]
    omega
/-- in a tree each exchange is a bridge -/
theorem tree_bridge (hv : ValidL n w) (nd : w.Nodup) (he : e ∈ w) (hc : cnt n w = 1) (hl : w.length + 1 = n) : ¬ Conn (wo w e) e.1 e.2 := by
  intro c
  obtain ⟨l1, l2, rfl⟩ := List.append_of_mem he
  rw [wo_split nd] at c
  have pm : (l1 ++ l2 ++ [e]).Perm (l1 ++ e :: l2) := by
    rw [List.append_assoc]
    exact List.Perm.append_left l1 List.perm_append_comm
  have hv' : ValidL n (l1 ++ l2 ++ [e]) := fun f hf => hv f (pm.mem_iff.mp hf)
  have s := cnt_same hv' c
  have s2 := cnt_congr hv' hv fun x y => ⟨fun h => conn_perm pm h, fun h => conn_perm pm.symm h⟩
  have fo := (forest (l1 ++ l2) hv'.init.1).1
  rw [List.length_append] at fo hl
  rw [List.length_cons] at hl
  omega
end
/-- one of both sides leaves, one comes -/
structure Cross (n : Nat) (p : Int → Int) (S : Int → Prop) (a b : Int) : Prop where
  pp : PermF n p
  ia : 1 ≤ a ∧ a ≤ n
  ib : 1 ≤ b ∧ b ≤ n
  sa : S a
  sb : ¬ S b
  pa : ¬ S (p a)
  pb : S (p b)
  rest : ∀ c, c ≠ a → c ≠ b → (S (p c) ↔ S c)
theorem cross_of {n : Nat} {l : List (Int × Int)} {e : Int × Int} (hv : ValidL n l) (nd : l.Nodup) (he : e ∈ l) (br : ¬ Conn (wo l e) e.1 e.2) : ∃ a b, Cross n (loc l) (Conn (wo l e) e.1) a b := by
  obtain ⟨l1, l2, rfl⟩ := List.append_of_mem he
  have h1 : ValidL n l1 := fun f hf => hv f (List.mem_append_left _ hf)
  have he2 := hv e (List.mem_append_right _ (.head _))
  rw [wo_split nd] at br ⊢
  have s1 : ∀ f ∈ l1, f ∈ l1 ++ l2 := fun f hf => List.mem_append_left _ hf
  have s2 : ∀ f ∈ l2, f ∈ l1 ++ l2 := fun f hf => List.mem_append_right _ hf
  have c1 : ∀ t, Conn (l1 ++ l2) t (loc l1 t) := fun t => conn_sub s1 (conn_loc t l1)
  have c2 : ∀ t, Conn (l1 ++ l2) t (loc l2 t) := fun t => conn_sub s2 (conn_loc t l2)
  have ea : Conn (l1 ++ l2) (ivr l1 e.1) e.1 := by have := c1 (ivr l1 e.1); rwa [loc_ivr] at this
  have eb : Conn (l1 ++ l2) (ivr l1 e.2) e.2 := by have := c1 (ivr l1 e.2); rwa [loc_ivr] at this
  refine ⟨ivr l1 e.1, ivr l1 e.2, loc_perm hv, ivr_in h1 _ (by omega), ivr_in h1 _ (by omega), ea.symm, fun h => br (h.trans eb), ?_, ?_, fun c hc1 hc2 => ?_⟩
  · rw [loc_app, loc_ivr, loc_cons, swp_tr, tr_a]
    exact fun h => br (h.trans (c2 e.2).symm)
  · rw [loc_app, loc_ivr, loc_cons, swp_tr, tr_b]
    exact c2 e.1
  · rw [loc_app, loc_cons, swp_tr, tr_ne (fun z => hc1 (by rw [← z, ivr_loc])) (fun z => hc2 (by rw [← z, ivr_loc]))]
    exact ⟨fun h => h.trans ((c1 c).trans (c2 _)).symm, fun h => h.trans ((c1 c).trans (c2 _))⟩
theorem filter_one {α : Type} [DecidableEq α] {l : List α} {g : α → Bool} {x : α} (nd : l.Nodup) (hx : x ∈ l) (h : ∀ y ∈ l, g y = decide (y = x)) : l.filter g = [x] := by
  induction l with
  | nil => cases hx
  | cons y r ih =>
    obtain ⟨n1, n2⟩ := List.nodup_cons.mp nd
    by_cases e : y = x
    · subst e
      rw [List.filter_cons_of_pos (by rw [h y (.head _)]; simp), List.filter_eq_nil_iff.mpr fun z hz => ?_]
      rw [h z (.tail _ hz)]
      have : z ≠ y := fun e => n1 (by rw [← e]; exact hz)
      simp [this]
    · rw [List.filter_cons_of_neg (by rw [h y (.head _)]; simp [e])]
      exact ih n2 ((List.mem_cons.mp hx).resolve_left fun z => e z.symm) fun z hz => h z (.tail _ hz)
section
variable {n : Nat} {p : Int → Int} {S : Int → Prop} {a b c : Int}
theorem Cross.ab (h : Cross n p S a b) : a ≠ b := fun z => h.sb (by rw [← z]; exact h.sa)
theorem Cross.goes (h : Cross n p S a b) (c : Int) : (S c ∧ ¬ S (p c)) ↔ c = a := by
  constructor
  · rintro ⟨h1, h2⟩
    rcases Classical.em (c = a) with z | z
    · exact z
    · have z2 : c ≠ b := fun e => h.sb (by rw [← e]; exact h1)
      exact absurd ((h.rest c z z2).mpr h1) h2
  · rintro rfl; exact ⟨h.sa, h.pa⟩
theorem Cross.comes (h : Cross n p S a b) (c : Int) : (¬ S c ∧ S (p c)) ↔ c = b := by
  constructor
  · rintro ⟨h1, h2⟩
    rcases Classical.em (c = b) with z | z
    · exact z
    · have z2 : c ≠ a := fun e => h1 (by rw [e]; exact h.sa)
      exact absurd ((h.rest c z2 z).mp h2) h1
  · rintro rfl; exact ⟨h.sb, h.pb⟩
theorem Cross.either (h : Cross n p S a b) (c : Int) : ¬ (S c ↔ S (p c)) ↔ c = a ∨ c = b := by
  rw [← h.goes c, ← h.comes c]
  rcases Classical.em (S c) with z | z <;> rcases Classical.em (S (p c)) with y | y <;> simp [z, y]
/-- a round without a stays on its side -/
theorem Cross.stays (h : Cross n p S a b) (hc : 1 ≤ c ∧ c ≤ n) (na : ¬ Rnd p c a) (x y : Int) (hx : Rnd p c x) (hy : Rnd p c y) (sx : S x) : S y := by
  have hxi := h.pp.rnd_in hc hx
  obtain ⟨k, rfl⟩ := (h.pp.symm hc hx).trans hy
  clear hy
  induction k with
  | zero => exact sx
  | succ k ih =>
    have r : Rnd p c (it p k x) := hx.trans ⟨k, rfl⟩
    show S (p (it p k x))
    have z1 : it p k x ≠ a := fun e => na (by rw [← e]; exact r)
    have z2 : it p k x ≠ b := fun e => h.sb (by rw [← e]; exact ih)
    exact (h.rest _ z1 z2).mpr ih
/-- with a comes b -/
theorem Cross.both (h : Cross n p S a b) (hc : 1 ≤ c ∧ c ≤ n) (ra : Rnd p c a) : Rnd p c b := by
  rcases Classical.em (Rnd p c b) with z | z
  · exact z
  · exfalso
    have ia := h.ia
    have st : ∀ k, ¬ S (it p k (p a)) := by
      intro k
      induction k with
      | zero => exact h.pa
      | succ k ih =>
        show ¬ S (p (it p k (p a)))
        have r : Rnd p c (it p k (p a)) := (ra.trans Rnd.step).trans ⟨k, rfl⟩
        have z2 : it p k (p a) ≠ b := fun e => z (by rw [← e]; exact r)
        have z1 : it p k (p a) ≠ a := fun e => ih (by rw [e]; exact h.sa)
        exact fun y => ih ((h.rest _ z1 z2).mp y)
    obtain ⟨k, hk⟩ := h.pp.symm ia (Rnd.step (p := p) (c := a))
    exact st k (by rw [hk]; exact h.sa)
theorem Cross.two (h : Cross n p S a b) [DecidablePred S] {l : List Int} (nd : l.Nodup) (ha : a ∈ l) (hb : b ∈ l) : (l.filter fun c => decide (S c) != decide (S (p c))).length = 2 := by
  have pm : (l.filter fun c => decide (S c) != decide (S (p c))).Perm [a, b] := (List.perm_ext_iff_of_nodup (nd.sublist List.filter_sublist) (by simp [h.ab])).mpr fun x => by
    rw [List.mem_filter, List.mem_cons, List.mem_singleton]
    have e := h.either x
    have d : (decide (S x) != decide (S (p x))) = true ↔ ¬ (S x ↔ S (p x)) := by
      rcases Classical.em (S x) with z | z <;> rcases Classical.em (S (p x)) with y | y <;> simp [z, y]
    rw [d, e]
    exact ⟨fun q => q.2, fun q => ⟨q.elim (fun z => by rw [z]; exact ha) (fun z => by rw [z]; exact hb), q⟩⟩
  exact pm.length_eq
theorem Cross.mixed (h : Cross n p S a b) [DecidablePred S] (hc : 1 ≤ c ∧ c ≤ n) :
    ((ring n p c).filter fun x => decide (S x)) ≠ [] ∧ ((ring n p c).filter fun x => decide (S x)) ≠ ring n p c ↔ a ∈ ring n p c := by
  rw [h.pp.mem_ring' hc]
  constructor
  · rintro ⟨h1, h2⟩
    rcases Classical.em (Rnd p c a) with z | z
    · exact z
    · exfalso
      obtain ⟨x, hx⟩ := List.exists_mem_of_ne_nil _ h1
      obtain ⟨x1, x2⟩ := List.mem_filter.mp hx
      refine h2 (List.filter_eq_self.mpr fun y hy => decide_eq_true ?_)
      exact h.stays hc z x y ((h.pp.mem_ring' hc).mp x1) ((h.pp.mem_ring' hc).mp hy) (of_decide_eq_true x2)
  · intro ra
    refine ⟨fun e => ?_, fun e => ?_⟩
    · have : a ∈ (ring n p c).filter fun x => decide (S x) := List.mem_filter.mpr ⟨(h.pp.mem_ring' hc).mpr ra, decide_eq_true h.sa⟩
      rw [e] at this
      cases this
    · have : p a ∈ (ring n p c).filter fun x => decide (S x) := by rw [e]; exact (h.pp.mem_ring' hc).mpr (ra.trans Rnd.step)
      exact h.pa (of_decide_eq_true (List.mem_filter.mp this).2)
/-- each with the next one -/
theorem ring_next (h : PermF n p) (hc : 1 ≤ c ∧ c ≤ n) : (ring n p c).drop 1 ++ (ring n p c).take 1 = (ring n p c).map p := by
  obtain ⟨m, m1, m2, m3, m4, e⟩ := h.ring_eq hc
  rw [e]
  obtain ⟨k, rfl⟩ : ∃ k, m = k + 1 := ⟨m - 1, by omega⟩
  rw [List.map_map]
  have e2 : (List.range (k + 1)).map (p ∘ fun j => it p j c) = (List.range k).map (fun j => it p (j + 1) c) ++ [it p (k + 1) c] := by
    rw [List.range_succ, List.map_append]; rfl
  rw [e2, m3, List.range_succ_eq_map, List.map_cons, List.map_map]
  rfl
end

section
variable {n : Nat} {w : List (Int × Int)} {e : Int × Int} {c k : Int}
theorem comp_eq (hv : ValidL n w) (hc : 1 ≤ c ∧ c ≤ n) (hk : 1 ≤ k ∧ k ≤ n) (h : Conn w k c) : comp n w k = comp n w c := by
  unfold comp
  refine List.filter_congr fun j _ => ?_
  rw [(marks_conn w hv k c (by omega) (by omega) (by omega) (by omega)).mpr h]
theorem has_least (hv : ValidL n w) (hc : 1 ≤ c ∧ c ≤ n) : ∃ k : Int, (1 ≤ k ∧ k ≤ n) ∧ Conn w k c ∧ isLeast n w k = true := by
  obtain ⟨k, _, ⟨h1, h2, h3⟩, hm⟩ := L2.st_least (p := fun k : Nat => (1 : Int) ≤ k ∧ (k : Int) ≤ n ∧ Conn w k c) c.toNat ⟨by omega, by omega, by rw [show ((c.toNat : Nat) : Int) = c from by omega]; exact .refl⟩
  refine ⟨k, ⟨h1, h2⟩, h3, (isLeast_iff hv ⟨h1, h2⟩).mpr fun x hx => ?_⟩
  have xi := hx.within hv ⟨h1, h2⟩
  by_cases q : (k : Int) ≤ x
  · exact q
  · exfalso
    refine hm x.toNat (by omega) ⟨by omega, by omega, ?_⟩
    rw [show ((x.toNat : Nat) : Int) = x from by omega]
    exact hx.symm.trans h3
/-- just one piece has a cell -/
theorem pcs_has (hv : ValidL n w) (hc : 1 ≤ c ∧ c ≤ n) : (pcs n w).filter (fun P => decide (c ∈ P)) = [comp n w c] := by
  obtain ⟨k, hk, h3, hl⟩ := has_least hv hc
  unfold pcs pcsTo
  rw [List.filter_map]
  have : ((cellsTo n).filter (isLeast n w)).filter ((fun P => decide (c ∈ P)) ∘ comp n w) = [k] := by
    refine filter_one ((cellsTo_nodup n).sublist List.filter_sublist) (List.mem_filter.mpr ⟨mem_cellsTo.mpr hk, hl⟩) fun y hy => ?_
    obtain ⟨y1, y2⟩ := List.mem_filter.mp hy
    have y1 := mem_cellsTo.mp y1
    show decide (c ∈ comp n w y) = decide (y = k)
    rw [decide_eq_decide, mem_comp hv y1]
    constructor
    · intro h
      have a1 := (isLeast_iff hv y1).mp y2 k (h.trans h3.symm)
      have a2 := (isLeast_iff hv hk).mp hl y (h3.trans h.symm)
      omega
    · rintro rfl; exact h3
  rw [this, List.map_cons, List.map_nil, comp_eq hv hc hk h3]
theorem br_rows (hv : ValidL n w) (he : 1 ≤ e.1 ∧ e.1 < e.2 ∧ e.2 ≤ n) : decide ((pcs n (wo w e)).filter (fun P => decide (e.1 ∈ P) && decide (e.2 ∈ P)) = []) = brB n w e := by
  have e1 : (pcs n (wo w e)).filter (fun P => decide (e.1 ∈ P) && decide (e.2 ∈ P)) = ((pcs n (wo w e)).filter (fun P => decide (e.1 ∈ P))).filter fun P => decide (e.2 ∈ P) := by
    rw [List.filter_filter]
    exact List.filter_congr fun P _ => Bool.and_comm _ _
  rw [e1, pcs_has (wo_valid hv) (by omega)]
  unfold brB sideL
  by_cases h : e.2 ∈ comp n (wo w e) e.1
  · rw [List.filter_cons_of_pos (by simpa using h)]; simp [h]
  · rw [List.filter_cons_of_neg (by simpa using h)]; simp [h]
end
theorem wo_validW {n : Nat} {w : List (Int × Int)} {e : Int × Int} (hv : ValidW n w) : ValidW n (wo w e) := ⟨fun f hf => hv.1 f (List.mem_filter.mp hf).1, hv.2.sublist List.filter_sublist⟩
theorem wo_len {w : List (Int × Int)} {e : Int × Int} : (wo w e).length ≤ w.length := List.length_filter_le _ _

/-! ### a log of two sides that do not meet -/
theorem fs1 {α : Type} {f : α → Bool} {e : α} (h : f e = true) : [e].filter f = [e] := by rw [List.filter_cons_of_pos h, List.filter_nil]
theorem fs0 {α : Type} {f : α → Bool} {e : α} (h : f e = false) : [e].filter f = [] := by rw [List.filter_cons_of_neg (by rw [h]; decide), List.filter_nil]
section
variable {n : Nat} {S : Int → Bool} {l : List (Int × Int)}
theorem split_loc : ∀ l : List (Int × Int), (∀ e ∈ l, S e.1 = S e.2) → ∀ c, S (loc l c) = S c ∧ (S c = true → loc (l.filter fun e => S e.1) c = loc l c) ∧ (S c = false → loc (l.filter fun e => S e.1) c = c) := by
  refine snoc_ind (fun _ c => ⟨rfl, fun _ => rfl, fun _ => rfl⟩) fun l e ih h c => ?_
  have hl : ∀ f ∈ l, S f.1 = S f.2 := fun f hf => h f (List.mem_append_left _ hf)
  have he := h e (List.mem_append_right _ (List.mem_singleton.mpr rfl))
  obtain ⟨i1, i2, i3⟩ := ih hl c
  have sw : ∀ x, S (swp e x) = S x := fun x => by
    unfold swp
    split
    · rename_i z; rw [z, he]
    · split
      · rename_i z; rw [z, he]
      · rfl
  refine ⟨by rw [loc_snoc, sw, i1], fun hc => ?_, fun hc => ?_⟩
  · rw [List.filter_append, loc_snoc]
    cases es : S e.1 with
    | true =>
      rw [fs1 (f := fun e : Int × Int => S e.1) es, loc_snoc, i2 hc]
    | false =>
      rw [fs0 (f := fun e : Int × Int => S e.1) es, List.append_nil, i2 hc]
      have n1 : loc l c ≠ e.1 := fun z => by rw [z, es, hc] at i1; cases i1
      have n2 : loc l c ≠ e.2 := fun z => by rw [z, ← he, es, hc] at i1; cases i1
      unfold swp
      rw [if_neg n1, if_neg n2]
  · rw [List.filter_append]
    cases es : S e.1 with
    | true =>
      rw [fs1 (f := fun e : Int × Int => S e.1) es, loc_snoc, i3 hc]
      have n1 : c ≠ e.1 := fun z => by rw [z, es] at hc; cases hc
      have n2 : c ≠ e.2 := fun z => by rw [z, ← he, es] at hc; cases hc
      unfold swp
      rw [if_neg n1, if_neg n2]
    | false =>
      rw [fs0 (f := fun e : Int × Int => S e.1) es, List.append_nil, i3 hc]
theorem split_rnd (h : ∀ e ∈ l, S e.1 = S e.2) {a b : Int} (ha : S a = true) : Rnd (loc (l.filter fun e => S e.1)) a b ↔ Rnd (loc l) a b := by
  have e : ∀ k, S (it (loc l) k a) = true ∧ it (loc (l.filter fun e => S e.1)) k a = it (loc l) k a := by
    intro k
    induction k with
    | zero => exact ⟨ha, rfl⟩
    | succ k ih =>
      obtain ⟨i1, i2⟩ := ih
      obtain ⟨j1, j2, _⟩ := split_loc l h (it (loc l) k a)
      refine ⟨by show S (loc l (it (loc l) k a)) = true; rw [j1, i1], ?_⟩
      show loc (l.filter fun e => S e.1) (it (loc (l.filter fun e => S e.1)) k a) = loc l (it (loc l) k a)
      rw [i2, j2 i1]
  exact ⟨fun ⟨k, hk⟩ => ⟨k, by rw [← (e k).2]; exact hk⟩, fun ⟨k, hk⟩ => ⟨k, by rw [(e k).2]; exact hk⟩⟩
theorem split_valid (hv : ValidL n l) : ValidL n (l.filter fun e => S e.1) := fun f hf => hv f (List.mem_filter.mp hf).1
/-- the rounds of both sides -/
theorem split_rounds : ∀ l : List (Int × Int), ValidL n l → (∀ e ∈ l, S e.1 = S e.2) → (roundsF n (loc l)).length + n = (roundsF n (loc (l.filter fun e => S e.1))).length + (roundsF n (loc (l.filter fun e => !S e.1))).length := by
  refine snoc_ind (fun _ _ => by rw [List.filter_nil, List.filter_nil, nr_nil]) fun l e ih hv h => ?_
  have hl : ∀ f ∈ l, S f.1 = S f.2 := fun f hf => h f (List.mem_append_left _ hf)
  have hl' : ∀ f ∈ l, (!S f.1) = !S f.2 := fun f hf => by rw [hl f hf]
  have ih := ih hv.init.1 hl
  obtain ⟨r1, r2⟩ := nr_snoc hv
  rw [List.filter_append, List.filter_append]
  cases es : S e.1 with
  | true =>
    have hv2 : ValidL n ((l.filter fun e => S e.1) ++ [e]) := fun f hf => hv f (by
      rcases List.mem_append.mp hf with q | q
      · exact List.mem_append_left _ (List.mem_filter.mp q).1
      · exact List.mem_append_right _ q)
    obtain ⟨q1, q2⟩ := nr_snoc hv2
    have sr := split_rnd (S := S) hl (b := e.2) es
    rw [fs1 (f := fun e : Int × Int => S e.1) es, fs0 (f := fun e : Int × Int => !S e.1) (by show (!S e.1) = false; rw [es]; rfl), List.append_nil]
    rcases Classical.em (Rnd (loc l) e.1 e.2) with r | r
    · have := r1 r; have := q1 (sr.mpr r); omega
    · have := r2 r; have := q2 (fun z => r (sr.mp z)); omega
  | false =>
    have hv2 : ValidL n ((l.filter fun e => !S e.1) ++ [e]) := fun f hf => hv f (by
      rcases List.mem_append.mp hf with q | q
      · exact List.mem_append_left _ (List.mem_filter.mp q).1
      · exact List.mem_append_right _ q)
    obtain ⟨q1, q2⟩ := nr_snoc hv2
    have sr := split_rnd (S := fun c => !S c) (l := l) hl' (a := e.1) (b := e.2) (by rw [es]; rfl)
    rw [fs0 (f := fun e : Int × Int => S e.1) es, List.append_nil, fs1 (f := fun e : Int × Int => !S e.1) (by show (!S e.1) = true; rw [es]; rfl)]
    rcases Classical.em (Rnd (loc l) e.1 e.2) with r | r
    · have := r1 r; have := q1 (sr.mpr r); omega
    · have := r2 r; have := q2 (fun z => r (sr.mp z)); omega
end

abbrev s__law_draws : Stmt := topS 23
theorem sc__law_draws : FnScope ["_law_cell"] ["_law_cell"] (defScope s__law_draws) := ⟨rfl, rfl, rfl, by decide +kernel, rfl, by decide +kernel, by decide +kernel⟩
abbrev s__law_next : Stmt := topS 24
theorem sc__law_next : FnScope ["_law_draws_here", "_law_k", "_law_number"] ["_law_draws_here"] (defScope s__law_next) := ⟨rfl, rfl, rfl, by decide +kernel, rfl, by decide +kernel, by decide +kernel⟩
/-- what the draws hold: a number, how often was drawn, whether by figures -/
def drawO (n k : Int) (b : Bool) : HO := .lst [.int n, .int k, .bl b]
def Draw (H : Hp) (a : Addr) (m : Nat) : Prop := ∃ (n k : Int) (b : Bool), H a = some (drawO n k b) ∧ 0 ≤ n ∧ 0 ≤ k ∧ k ≤ m
section
variable {P : Program} {w : World} {K : PySem.W.Frag} {mg : Str → Option Value} {base : Heap}
def sp__law_draws : Sp := fun vs H Q _ => ∃ c : Int, vs = [.int c] ∧ ∀ (p : Addr) (n : Int) (b : Bool), H p = none → 0 ≤ n → Q (.ref p) (upd H p (drawO n 0 b))
theorem ok__law_draws {f : Addr} {fd : FuncData} {k : Nat} (F : Fun K "_law_draws" "_law_draws" s__law_draws f fd) (z_int : mg "int" = none) : FG P w K mg base CX0 (k + 1) f fd ["_law_cell"] sp__law_draws := by
  refine fg_fun F sc__law_draws (fun vs H Q E h => ?_) (fun cdv A out s H vs Q E hr hg h => ?_)
  · obtain ⟨c, rfl, _⟩ := h
    rfl
  · obtain ⟨c, rfl, q⟩ := h
    refine ⟨_, (pss_one (ps_ret (pe_lst (pa_cons (pe_op op_mod (pe_callTy call_int1 (by rfl) z_int bt_int (pa_cons (pv 0) pa_nil)) (pe_op op_powW (pe_op op_powW (pe_op op_powW pe_int pe_int) pe_int) pe_int)) (pa_cons pe_int (pa_cons (pe_cmpR op_ge (pv 0) (pe_op op_powW pe_int pe_int) (nomark _)) pa_nil)))))), ?_⟩
    have p1 : CPowW 10 60 := ⟨by decide, by decide, by decide, by decide +kernel⟩
    have p2 : CPowW (10 ^ (60 : Int).toNat) 60 := ⟨by decide, by decide, by decide +kernel, by decide +kernel⟩
    have p3 : CPowW ((10 ^ (60 : Int).toNat) ^ (60 : Int).toNat) 4 := ⟨by decide, by decide, by decide +kernel, by decide +kernel⟩
    have p4 : CPowW 10 18 := ⟨by decide, by decide, by decide, by decide +kernel⟩
    have pos : (0 : Int) < ((10 ^ (60 : Int).toNat) ^ (60 : Int).toNat) ^ (4 : Int).toNat := Int.pow_pos (Int.pow_pos (Int.pow_pos (by decide)))
    refine ⟨_, rfl, .inl ⟨_, rfl, ?_⟩⟩
    refine ⟨_, _, rfl, rfl, p1, _, _, rfl, rfl, p2, _, _, rfl, rfl, p3, _, _, rfl, rfl, pos, ?_⟩
    refine ⟨_, rfl, _, _, rfl, rfl, p4, _, _, rfl, rfl, ?_⟩
    exact ⟨sl3, fun p hp => q p _ _ hp (Int.emod_nonneg _ (by omega))⟩
def sp__law_next : Sp := fun vs H Q _ => ∃ (a : Addr) (m : Nat), vs = [.ref a] ∧ Draw H a m ∧ m ≤ 1000000 ∧ ∀ (n k : Int) (b : Bool) (r : Int), 0 ≤ n → 0 ≤ k → k ≤ (m : Int) + 1 → 0 ≤ r → Q (.int r) (upd H a (drawO n k b))
theorem ok__law_next {f : Addr} {fd : FuncData} {k : Nat} (F : Fun K "_law_next" "_law_next" s__law_next f fd) (z_int : mg "int" = none) : FG P w K mg base CX0 (k + 1) f fd ["_law_draws_here"] sp__law_next := by
  refine fg_fun F sc__law_next (fun vs H Q E h => ?_) (fun cdv A out s H vs Q E hr hg h => ?_)
  · obtain ⟨a, m, rfl, _⟩ := h
    rfl
  · obtain ⟨a, m, rfl, ⟨n, k, b, ha, n0, k0, km⟩, hm, q⟩ := h
    refine ⟨_, (pss_cons (ps_asg (pe_op op_add (pe_ix (ix_listK K rfl) (pv 0) pe_int (fun _ _ => rfl)) pe_int) (pg_sub (pv 0) pe_int set_list))
      (pss_cons (ps_set (i := 1) sc__law_next.nd rfl (.inl rfl) (pe_ix (ix_listK K rfl) (pv 0) pe_int (fun _ _ => rfl)))
      (pss_cons (ps_if (pt_truthK K rfl (pe_ix (ix_listK K rfl) (pv 0) pe_int (fun _ _ => rfl)) (by intro _; rfl))
        (pss_cons (ps_set (i := 2) sc__law_next.nd rfl (.inl rfl) (pe_op op_mod (pe_callTy call_int1 (by rfl) z_int bt_int (pa_cons (pe_ix (ix_listK K rfl) (pv 0) pe_int (fun _ _ => rfl)) pa_nil)) (pe_op op_powW pe_int pe_int)))
          (pss_cons (ps_asg (pe_op op_fdivW (pe_ix (ix_listK K rfl) (pv 0) pe_int (fun _ _ => rfl)) (pe_op op_powW pe_int pe_int)) (pg_sub (pv 0) pe_int set_list))
          (pss_one (ps_ret (pv 2)))))
        pss_nil)
      (pss_cons (ps_set (i := 2) sc__law_next.nd rfl (.inl rfl) (pe_op op_mod (pe_callTy call_int1 (by rfl) z_int bt_int (pa_cons (pe_op op_mulW (pe_op op_add (pe_op op_add (pe_op op_mod (pe_callTy call_int1 (by rfl) z_int bt_int (pa_cons (pe_ix (ix_listK K rfl) (pv 0) pe_int (fun _ _ => rfl)) pa_nil)) pe_int) (pe_op op_mulW (pe_op op_mulW (pv 1) (pv 1)) pe_int)) (pv 1)) pe_int) pa_nil)) pe_int))
      (pss_cons (ps_set (i := 2) sc__law_next.nd rfl (.inl rfl) (pe_op op_mod (pe_callTy call_int1 (by rfl) z_int bt_int (pa_cons (pe_op op_mulW (pv 2) (pv 2)) pa_nil)) pe_int))
      (pss_one (ps_ret (pe_op op_fdivW (pe_op op_mod (pe_callTy call_int1 (by rfl) z_int bt_int (pa_cons (pe_op op_mulW (pv 2) (pe_op op_add (pv 2) pe_int)) pa_nil)) pe_int) pe_int)))))))), ?_⟩
    have h1 : upd H a (drawO n (k + 1) b) a = some (drawO n (k + 1) b) := upd_same
    have p6 : CPowW 10 6 := ⟨by decide, by decide, by decide, by decide +kernel⟩
    have m1 : (0 : Int) < 10 ^ (6 : Int).toNat := by decide
    have m2 : (0 : Int) < 1000003 := by decide
    have m3 : (0 : Int) < 2147483629 := by decide
    have m4 : (0 : Int) < 2147483587 := by decide
    have m5 : (0 : Int) < 2147483579 := by decide
    have s1 : SqL K (upd H a (drawO n (k + 1) b)) a [.int n, .int (k + 1), .bl b] := SqL.of h1
    refine ⟨_, rfl, _, _, _, _, rfl, rfl, SqL.of ha, at_of (j := 1) rfl rfl, _, _, rfl, rfl, _, rfl, a, _, _, 1, rfl, rfl, ha, rfl, ?_⟩
    refine ⟨_, rfl, _, _, _, _, rfl, rfl, s1, at_of (j := 1) rfl rfl, ?_⟩
    refine ⟨_, rfl, _, _, _, _, rfl, rfl, s1, at_of (j := 2) rfl rfl, b, rfl, ?_⟩
    cases b with
    | true =>
      refine iteT ?_
      refine ⟨_, rfl, _, _, _, _, rfl, rfl, s1, at_of (j := 0) rfl rfl, .inl ⟨_, rfl, ?_⟩⟩
      refine ⟨_, _, rfl, rfl, p6, _, _, rfl, rfl, m1, ?_⟩
      refine ⟨_, rfl, _, _, _, _, rfl, rfl, s1, at_of (j := 0) rfl rfl, _, _, rfl, rfl, p6, _, _, rfl, rfl, ⟨by decide, by decide +kernel⟩, _, rfl, a, _, _, 0, rfl, rfl, h1, rfl, ?_⟩
      refine ⟨_, rfl, ?_⟩
      have := q (n / 10 ^ (6 : Int).toNat) (k + 1) true (n % 10 ^ (6 : Int).toNat) (Int.ediv_nonneg n0 (by decide)) (by omega) (by omega) (Int.emod_nonneg _ (by decide))
      rw [← L2.upd_upd (o := drawO n (k + 1) true)] at this
      exact this
    | false =>
      refine iteF ?_
      have kl : k + 1 ≤ 2000000 := by omega
      have b1 : (k + 1).natAbs < 2 ^ 21 := by omega
      have b2 : ((k + 1) * (k + 1)).natAbs < 2 ^ (21 + 21) := wide_lt b1 b1
      have b3 : ((k + 1) * (k + 1) * 7919).natAbs < 2 ^ (21 + 21 + 13) := wide_lt b2 (by decide)
      have b4 : (n % 1000003).natAbs < 2 ^ 20 := by omega
      have b5 : (n % 1000003 + (k + 1) * (k + 1) * 7919 + (k + 1)).natAbs < 2 ^ 60 := by omega
      refine ⟨_, rfl, _, _, _, _, rfl, rfl, s1, at_of (j := 0) rfl rfl, .inl ⟨_, rfl, _, _, rfl, rfl, m2, ?_⟩⟩
      refine ⟨_, rfl, _, rfl, _, _, rfl, rfl, wide_mul b1 b1 (by decide) (by decide) (by decide), _, _, rfl, rfl, wide_mul b2 (by decide : (7919 : Int).natAbs < 2 ^ 13) (by decide) (by decide) (by decide), _, _, rfl, rfl, ?_⟩
      have b6 : ((n % 1000003 + (k + 1) * (k + 1) * 7919 + (k + 1)) * 48271 % 2147483629).natAbs < 2 ^ 31 := by omega
      refine ⟨_, rfl, _, _, rfl, rfl, _, _, rfl, rfl, wide_mul b5 (by decide : (48271 : Int).natAbs < 2 ^ 16) (by decide) (by decide) (by decide), .inl ⟨_, rfl, _, _, rfl, rfl, m3, ?_⟩⟩
      refine ⟨_, rfl, _, rfl, _, _, rfl, rfl, wide_mul b6 b6 (by decide) (by decide) (by decide), .inl ⟨_, rfl, _, _, rfl, rfl, m4, ?_⟩⟩
      have b7 : (((n % 1000003 + (k + 1) * (k + 1) * 7919 + (k + 1)) * 48271 % 2147483629) * ((n % 1000003 + (k + 1) * (k + 1) * 7919 + (k + 1)) * 48271 % 2147483629) % 2147483587).natAbs < 2 ^ 31 := by omega
      have b8 : ((((n % 1000003 + (k + 1) * (k + 1) * 7919 + (k + 1)) * 48271 % 2147483629) * ((n % 1000003 + (k + 1) * (k + 1) * 7919 + (k + 1)) * 48271 % 2147483629) % 2147483587) + 2).natAbs < 2 ^ 32 := by omega
      refine ⟨_, rfl, _, rfl, _, _, rfl, rfl, _, _, rfl, rfl, wide_mul b7 b8 (by decide) (by decide) (by decide), .inl ⟨_, rfl, _, _, rfl, rfl, m5, _, _, rfl, rfl, ⟨by decide, by decide +kernel⟩, ?_⟩⟩
      exact q n (k + 1) false _ n0 (by omega) (by omega) (by omega)
end

/-- all but the draws' own list stays -/
def SameX (a : Addr) (H H' : Hp) : Prop := ∀ b o, b ≠ a → H b = some o → H' b = some o
/-- as Loc, the draws' list may have changed -/
def DLoc (H : Hp) (a : Addr) (m : Nat) (H2 : Hp) (L : Led) : Prop := ∃ (n k : Int) (b : Bool), Loc (upd H a (drawO n k b)) H2 L ∧ 0 ≤ n ∧ 0 ≤ k ∧ k ≤ m
section
variable {H H2 : Hp} {a p : Addr} {m m' : Nat} {L M : Led} {o o' : HO}
theorem Draw.dloc (h : Draw H a m) : DLoc H a m H [] := by
  obtain ⟨n, k, b, h1, h2, h3, h4⟩ := h
  exact ⟨n, k, b, Loc.start h1, h2, h3, h4⟩
theorem DLoc.draw (l : DLoc H a m H2 L) : Draw H2 a m := by
  obtain ⟨n, k, b, l, h⟩ := l
  exact ⟨n, k, b, l.own, h⟩
theorem DLoc.mono (l : DLoc H a m H2 L) (h : m ≤ m') : DLoc H a m' H2 L := by
  obtain ⟨n, k, b, l, h1, h2, h3⟩ := l
  exact ⟨n, k, b, l, h1, h2, by omega⟩
theorem DLoc.next (l : DLoc H a m H2 L) {n k : Int} {b : Bool} (h1 : 0 ≤ n) (h2 : 0 ≤ k) (h3 : k ≤ (m : Int) + 1) : DLoc H a (m + 1) (upd H2 a (drawO n k b)) L := by
  obtain ⟨_, _, _, l, _⟩ := l
  exact ⟨n, k, b, l.bump, h1, h2, by omega⟩
theorem DLoc.alloc (l : DLoc H a m H2 L) (hp : H2 p = none) : DLoc H a m (upd H2 p o) ((p, o) :: L) := by
  obtain ⟨n, k, b, l, h⟩ := l
  exact ⟨n, k, b, l.alloc hp, h⟩
theorem DLoc.setIx (l : DLoc H a m H2 L) {i : Nat} (h : L[i]? = some (p, o)) : DLoc H a m (upd H2 p o') (L.set i (p, o')) := by
  obtain ⟨n, k, b, l, h'⟩ := l
  exact ⟨n, k, b, l.setIx h, h'⟩
theorem DLoc.atIx (l : DLoc H a m H2 L) {i : Nat} (h : L[i]? = some (p, o)) : H2 p = some o := by
  obtain ⟨n, k, b, l, _⟩ := l
  exact l.atIx h
theorem DLoc.here (l : DLoc H a m H2 L) {q : Addr × HO} (h : q ∈ L) : H2 q.1 = some q.2 := by
  obtain ⟨n, k, b, l, _⟩ := l
  exact l.here q h
theorem DLoc.keep (l : DLoc H a m H2 L) (s : M.Sublist L) : DLoc H a m H2 M := by
  obtain ⟨n, k, b, l, h⟩ := l
  exact ⟨n, k, b, l.keep s, h⟩
theorem DLoc.perm (l : DLoc H a m H2 L) (s : M.Perm L) : DLoc H a m H2 M := by
  obtain ⟨n, k, b, l, h⟩ := l
  exact ⟨n, k, b, l.perm s, h⟩
theorem DLoc.sameX (l : DLoc H a m H2 L) : SameX a H H2 := by
  obtain ⟨n, k, b, l, _⟩ := l
  intro c o hc e
  exact l.same c o (by rw [upd_ne hc]; exact e)
end
theorem SameX.sqT {K : PySem.W.Frag} {H H' : Hp} {a t : Addr} {m : Nat} {xs : List V} (d : Draw H a m) (s : SameX a H H') (h : SqT K H t xs) : SqT K H' t xs := by
  obtain ⟨_, _, _, e, _⟩ := d
  rcases h with (h | ⟨o, h⟩) | h
  · exact .inl (.inl (s _ _ (fun z => by rw [z, e] at h; cases h) h))
  · exact .inl (.inr ⟨o, s _ _ (fun z => by rw [z, e] at h; cases h) h⟩)
  · exact .inr h
theorem IsPairs.growX {K : PySem.W.Frag} {H H' : Hp} {a t : Addr} {m : Nat} {ps : List (Int × Int)} (d : Draw H a m) (s : SameX a H H') (h : IsPairs K H t ps) : IsPairs K H' t ps := by
  obtain ⟨ts, e, h1, h2⟩ := h
  refine ⟨ts, e, ?_, fun x hx => s.sqT d (h2 x hx)⟩
  obtain ⟨n, k, b, ea, _⟩ := d
  rcases h1 with (h | ⟨o, h⟩) | h
  · refine .inl (.inl (s _ _ (fun z => ?_) h))
    rw [z, ea] at h
    have h' := Option.some.inj h
    unfold drawO at h'
    have h'' : [V.int n, V.int k, V.bl b] = refs ts := by injection h'
    cases ts with
    | nil => cases h''
    | cons x r => cases h''
  · exact .inl (.inr ⟨o, s _ _ (fun z => by rw [z, ea] at h; cases h) h⟩)
  · exact .inr h
theorem refs_erase {α : Type} : ∀ (us : List (Addr × α)) (k : Nat), (refs us).eraseIdx k = refs (us.eraseIdx k)
  | [], _ => rfl
  | _ :: _, 0 => rfl
  | x :: r, k + 1 => by
    show V.ref x.1 :: (refs r).eraseIdx k = V.ref x.1 :: refs (r.eraseIdx k)
    rw [refs_erase r k]
theorem erase_perm {α : Type} : ∀ {us : List α} {k : Nat} {x : α}, us[k]? = some x → us.Perm (x :: us.eraseIdx k)
  | [], _, _, h => by simp at h
  | y :: r, 0, x, h => by
    have e : y = x := by simpa using h
    subst e
    exact List.Perm.refl _
  | y :: r, k + 1, x, h => by
    have h2 : r[k]? = some x := by simpa using h
    exact ((erase_perm h2).cons y).trans (List.Perm.swap _ _ _)
theorem SameX.trans {a : Addr} {H H1 H2 : Hp} (s : SameX a H H1) (t : SameX a H1 H2) : SameX a H H2 := fun b o hb e => t b o hb (s b o hb e)
theorem Same.x {a : Addr} {H H1 : Hp} (s : Same H H1) : SameX a H H1 := fun b o _ e => s b o e
theorem SameX.more {a : Addr} {H H1 H2 : Hp} (s : SameX a H H1) (t : Same H1 H2) : SameX a H H2 := SameX.trans s (Same.x t)
theorem Draw.grow {b : Addr} {m : Nat} {H H' : Hp} (s : Same H H') (h : Draw H b m) : Draw H' b m := by
  obtain ⟨n, k, c, h1, h2⟩ := h
  exact ⟨n, k, c, s _ _ h1, h2⟩
theorem Draw.mono {b : Addr} {m m' : Nat} {H : Hp} (h : Draw H b m) (l : m ≤ m') : Draw H b m' := by
  obtain ⟨n, k, c, h1, h2, h3, h4⟩ := h
  exact ⟨n, k, c, h1, h2, h3, by omega⟩
theorem ValidW.nodup {n : Nat} {web : List (Int × Int)} (h : ValidW n web) : web.Nodup := h.2.imp fun {x y} h e => by
  subst e
  rcases h with h | ⟨_, h⟩ <;> omega
theorem ValidL.perm {n : Nat} {l m : List (Int × Int)} (h : ValidL n l) (p : m.Perm l) : ValidL n m := fun e he => h e (p.mem_iff.mp he)
theorem ValidL.wide {n n' : Nat} {l : List (Int × Int)} (h : ValidL n l) (p : n ≤ n') : ValidL n' l := fun e he => by have := h e he; omega
theorem log_smD {n : Nat} {web : List (Int × Int)} (hn : n ≤ 16) (hv : ValidL n web) (hl : web.length ≤ 300) : Sm 900 2 (dP web) :=
  sm_dP (m := 300) (fun e he => by have := hv e he; omega) hl
section
variable {H H2 H3 : Hp} {a : Addr} {m m' : Nat} {L M : Led}
theorem DLoc.call (l : DLoc H a m H2 L) (c : Loc H2 H3 M) : DLoc H a m H3 (M ++ L) := by
  obtain ⟨n, k, b, h1, h2⟩ := l
  exact ⟨n, k, b, h1.call c, h2⟩
theorem DLoc.ext (l : DLoc H a m H2 L) (c : Same H2 H3) : DLoc H a m H3 L := by
  obtain ⟨n, k, b, h1, h2⟩ := l
  exact ⟨n, k, b, h1.ext c, h2⟩
theorem DLoc.jump (l : DLoc H a m H2 L) (s : SameX a H2 H3) (d : Draw H3 a m') : DLoc H a m' H3 L := by
  obtain ⟨n, k, b, h1, h2⟩ := l
  obtain ⟨n', k', b', e, d2⟩ := d
  refine ⟨n', k', b', ⟨fun c u q => ?_, fun p hp => ?_, fun p hp => ?_, h1.nd⟩, d2⟩
  · by_cases hc : c = a
    · subst hc; rw [upd_same] at q; rw [← q]; exact e
    · rw [upd_ne hc] at q
      exact s c u hc (h1.same c u (by rw [upd_ne hc]; exact q))
  · have ne : p.1 ≠ a := fun z => by have := h1.new p hp; rw [z, upd_same] at this; cases this
    exact s _ _ ne (h1.here p hp)
  · have ne : p.1 ≠ a := fun z => by have := h1.new p hp; rw [z, upd_same] at this; cases this
    have := h1.new p hp
    rw [upd_ne ne] at this ⊢
    exact this
theorem DLoc.ne (l : DLoc H a m H2 L) {p : Addr × HO} (hp : p ∈ L) : p.1 ≠ a := by
  obtain ⟨n, k, b, h1, _⟩ := l
  intro z
  have := h1.new p hp
  rw [z, upd_same] at this
  cases this
end
theorem small_len {n : Nat} {l : List Int} (nd : l.Nodup) (h : ∀ x ∈ l, 1 ≤ x ∧ x ≤ n) : l.length ≤ n := by
  have e : (l.map Int.toNat).length = l.length := List.length_map _
  rw [← e]
  have q := nat_nodup_len (l.map Int.toNat) ((List.range n).map (· + 1)) ?_ ?_
  · rw [List.length_map, List.length_map, List.length_range] at q
    rw [e]
    exact q
  · have g : ∀ l : List Int, l.Nodup → (∀ x ∈ l, 1 ≤ x ∧ x ≤ n) → (l.map Int.toNat).Nodup := by
      intro l
      induction l with
      | nil => intro _ _; exact List.Pairwise.nil
      | cons x r ih =>
        intro h1 h2
        rw [List.nodup_cons] at h1
        rw [List.map_cons, List.nodup_cons]
        refine ⟨fun z => ?_, ih h1.2 fun y hy => h2 y (List.mem_cons_of_mem _ hy)⟩
        obtain ⟨y, hy, e⟩ := List.mem_map.mp z
        have a := h2 y (List.mem_cons_of_mem _ hy)
        have b := h2 x List.mem_cons_self
        have : y = x := by omega
        exact h1.1 (this ▸ hy)
    exact g l nd h
  · intro x hx
    obtain ⟨y, hy, rfl⟩ := List.mem_map.mp hx
    have := h y hy
    exact List.mem_map.mpr ⟨y.toNat - 1, List.mem_range.mpr (by omega), by omega⟩

theorem filt_take {α : Type} {l : List α} {f : α → Bool} {i : Nat} {x : α} (h : l[i]? = some x) : (l.take (i + 1)).filter f = (l.take i).filter f ++ if f x = true then [x] else [] := by
  rw [take_snoc h, List.filter_append]
  congr 1
  cases e : f x <;> simp [e]
theorem filt_len {α : Type} {l : List α} {f : α → Bool} {i : Nat} : ((l.take i).filter f).length ≤ l.length := Nat.le_trans (List.length_filter_le _ _) (List.length_take_le' _ _)
theorem vals_filt {α : Type} (f : α → Bool) (ts : List (Addr × α)) : vals (ts.filter fun x => f x.2) = (vals ts).filter f := by
  unfold vals
  rw [List.filter_map]
  rfl
section
variable {K : PySem.W.Frag}
theorem pair_dp {H : Hp} {t : Addr} {e : Int × Int} (h : SqT K H t [.int e.1, .int e.2]) : Dp K H (.ref t) (dE e) := .tup h (.cons (.int _) (.cons (.int _) .nil))
end

abbrev s__law_every : Stmt := topS 30
theorem sc__law_every : FnScope ["_law_size", "_law_told", "_law_one", "_law_two"] ["_law_size"] (defScope s__law_every) := ⟨rfl, rfl, rfl, by decide +kernel, rfl, by decide +kernel, by decide +kernel⟩
/-- the exchanges of a cell with greater ones -/
def rowE (n : Nat) (a : Nat) : List (Int × Int) := tab (n - a) fun j => ((a : Int), (a : Int) + 1 + j)
def everyTo (n : Nat) (i : Nat) : List (Int × Int) := (tab i fun j => rowE n (j + 1)).flatten
def everyL (n : Nat) : List (Int × Int) := everyTo n n
theorem everyTo_succ (n i : Nat) : everyTo n (i + 1) = everyTo n i ++ rowE n (i + 1) := by
  unfold everyTo
  rw [tab_succ, List.flatten_append, List.flatten_cons, List.flatten_nil, List.append_nil]
theorem mem_rowE {n a : Nat} {e : Int × Int} : e ∈ rowE n a ↔ e.1 = a ∧ (a : Int) < e.2 ∧ e.2 ≤ n := by
  unfold rowE
  constructor
  · intro h
    obtain ⟨j, hj, rfl⟩ := tab_mem h
    exact ⟨rfl, by show (a : Int) < a + 1 + j; omega, by show (a : Int) + 1 + j ≤ n; omega⟩
  · rintro ⟨h1, h2, h3⟩
    exact List.mem_map.mpr ⟨(e.2 - a - 1).toNat, List.mem_range.mpr (by omega), Prod.ext h1.symm (by show (a : Int) + 1 + ((e.2 - a - 1).toNat : Nat) = e.2; omega)⟩
theorem mem_everyTo {n i : Nat} {e : Int × Int} : e ∈ everyTo n i ↔ 1 ≤ e.1 ∧ e.1 ≤ i ∧ e.1 < e.2 ∧ e.2 ≤ n := by
  unfold everyTo
  rw [List.mem_flatten]
  constructor
  · rintro ⟨l, hl, he⟩
    obtain ⟨j, hj, rfl⟩ := tab_mem hl
    have := mem_rowE.mp he
    omega
  · rintro ⟨h1, h2, h3, h4⟩
    exact ⟨rowE n ((e.1 - 1).toNat + 1), List.mem_map.mpr ⟨(e.1 - 1).toNat, List.mem_range.mpr (by omega), rfl⟩, mem_rowE.mpr ⟨by omega, by omega, h4⟩⟩
theorem mem_every {n : Nat} {e : Int × Int} : e ∈ everyL n ↔ 1 ≤ e.1 ∧ e.1 < e.2 ∧ e.2 ≤ n := by
  unfold everyL
  rw [mem_everyTo]
  omega
theorem everyTo_len {n : Nat} : ∀ i, (everyTo n i).length ≤ i * n
  | 0 => by simp [everyTo, tab]
  | i + 1 => by
    rw [everyTo_succ, List.length_append, Nat.succ_mul]
    have := everyTo_len (n := n) i
    have h : (rowE n (i + 1)).length ≤ n := by unfold rowE; rw [tab_len]; omega
    omega
theorem everyTo_asc {n : Nat} : ∀ i, (everyTo n i).Pairwise ltP
  | 0 => by simp [everyTo, tab]
  | i + 1 => by
    rw [everyTo_succ]
    refine List.pairwise_append.mpr ⟨everyTo_asc i, ?_, fun x hx y hy => ?_⟩
    · unfold rowE tab
      refine List.pairwise_map.mpr (List.pairwise_lt_range.imp fun {a b} h => ?_)
      exact .inr ⟨rfl, by omega⟩
    · have h1 := mem_everyTo.mp hx
      have h2 := mem_rowE.mp hy
      exact .inl (by omega)
theorem every_valid {n m : Nat} (h : n ≤ m) : ValidW m (everyL n) := ⟨fun e he => by have := mem_every.mp he; omega, everyTo_asc n⟩
section
variable {P : Program} {w : World} {K : PySem.W.Frag} {mg : Str → Option Value} {base : Heap}
def sp__law_every (K : PySem.W.Frag) : Sp := fun vs H Q _ => ∃ n : Nat, vs = [.int n] ∧ n ≤ 16 ∧ ∀ H' p (ts : List (Addr × Int × Int)), vals ts = everyL n → H' p = some (.lst (refs ts)) → (∀ x ∈ ts, SqT K H' x.1 [.int x.2.1, .int x.2.2]) → Same H H' → Q (.ref p) H'
theorem ok__law_every {f : Addr} {fd : FuncData} {k : Nat} (F : Fun K "_law_every" "_law_every" s__law_every f fd) (z_range : mg "range" = none) : FG P w K mg base CX0 (k + 1) f fd ["_law_size"] (sp__law_every K) := by
  refine fg_fun F sc__law_every (fun vs H Q E h => ?_) (fun cdv A out s H vs Q E hr hg h => ?_)
  · obtain ⟨_, rfl, _⟩ := h
    rfl
  · have hu64 := hr.units
    obtain ⟨n, rfl, n2, q⟩ := h
    refine ⟨_, (pss_cons (ps_set (i := 1) sc__law_every.nd rfl (.inl rfl) (pe_lst pa_nil))
      (pss_cons (ps_for PassesOwn.never rfl (pi_range2 (by rfl) z_range (pa_cons pe_int (pa_cons (pe_op op_add (pv 0) pe_int) pa_nil))) (pg_name (i := 2) sc__law_every.nd rfl (.inr rfl))
        (pss_one (ps_set (i := 1) sc__law_every.nd rfl (.inl rfl) (pe_op op_cat (pv 1) (pe_lc (own := [("_law_two", 3)]) (tt := tYes) rfl sc__law_every.nd (pi_range2 (by rfl) z_range (pa_cons (pe_op op_add (pv 2) pe_int) (pa_cons (pe_op op_add (pv 0) pe_int) pa_nil))) (blkOk_by (N := ["_law_size", "_law_told", "_law_one", "_law_two"]) (sc := defScope s__law_every) (by decide +kernel)) (fun _ _ _ _ _ => (pg_name (i := 3) sc__law_every.nd rfl (Or.inl rfl))) (fun _ _ _ _ _ => pts_nil) (fun _ _ _ _ _ => (pe_tup (pa_cons (pv 2) (pa_cons (pv 3) pa_nil)))))))))
      (pss_one (ps_ret (pv 1))))), ?_⟩
    refine ⟨by decide, fun o ho => ⟨_, rfl, _, _, rfl, rfl, _, _, rfl, ⟨by omega, by omega, by omega, by omega⟩, for_range (lo := 1) (n := ((n : Int) + 1 - 1).toNat)
      (fun i σ H2 => ∃ (o : Addr) (y2 : Option V) (ts : List (Addr × Int × Int)), σ = [some (.int n), some (.ref o), y2, none] ∧ vals ts = everyTo n i ∧ (∀ x ∈ ts, SqT K H2 x.1 [.int x.2.1, .int x.2.2]) ∧ H2 o = some (.lst (refs ts)) ∧ Same H H2) ?_ ?_ ?_⟩⟩
    · exact ⟨o, none, [], rfl, rfl, fun _ z => (nomatch z), upd_same, sA ho⟩
    · rintro i σ H2 hi ⟨o, y2, ts, rfl, et, ht, h2, s2⟩
      have hi' : i < n := by omega
      refine ⟨_, rfl, _, rfl, _, _, rfl, rfl, ?_⟩
      have hti : vals ts = everyTo n i := et
      have tsl : ts.length ≤ 256 := by
        rw [← vals_len ts, et]
        exact Nat.le_trans (everyTo_len i) (Nat.le_trans (Nat.mul_le_mul (show i ≤ 16 by omega) n2) (by decide))
      refine ⟨_, rfl, _, _, rfl, rfl, _, _, rfl, ⟨by omega, by omega, by omega, by omega⟩, fun D hD => lc_range (lo := 1 + i + 1) (n := ((n : Int) + 1 - (1 + i + 1)).toNat)
        (fun j H3 => ∃ us : List (Addr × Int × Int), (vals us = tab j fun m => ((((i + 1 : Nat) : Int)), ((i + 1 : Nat) : Int) + 1 + m)) ∧ Loc H2 H3 ((D, .lst (refs us)) :: pairL us)) ⟨[], rfl, (Loc.refl H2).alloc hD⟩ ?_ ?_⟩
      · rintro j H3 hj ⟨us, eu, l3⟩
        have ul : us.length = j := by rw [← vals_len us, eu, tab_len]
        refine ⟨rfl, _, rfl, _, rfl, sl2, fun t ht3 => ?_⟩
        have l4 := l3.alloc (o := .tup [.int (1 + i), .int (1 + i + 1 + j)]) ht3
        refine ⟨_, l4.atIx (i := 1) rfl, sl_line' (by rw [refs_len]; omega), us ++ [(t, 1 + (i : Int), 1 + (i : Int) + 1 + j)], ?_, ?_⟩
        · unfold vals at eu ⊢
          rw [List.map_append, eu, tab_succ]
          congr 1
          show [(1 + (i : Int), 1 + (i : Int) + 1 + (j : Int))] = [(((i + 1 : Nat) : Int), ((i + 1 : Nat) : Int) + 1 + (j : Int))]
          rw [show ((i + 1 : Nat) : Int) = 1 + (i : Int) by omega]
        · have l5 := l4.setIx (i := 1) (o' := .lst (refs us ++ [.ref t])) rfl
          rw [refs_snoc]
          have e : pairL (us ++ [(t, 1 + (i : Int), 1 + (i : Int) + 1 + j)]) = pairL us ++ [(t, .tup [.int (1 + i), .int (1 + i + 1 + j)])] := List.map_append ..
          rw [e]
          refine l5.perm ?_
          show List.Perm ((D, _) :: (pairL us ++ [(t, _)])) ((t, _) :: (D, _) :: pairL us)
          exact (List.Perm.cons _ List.perm_append_comm).trans (List.Perm.swap _ _ _)
      · rintro H3 ⟨us, eu, l3⟩
        have ul : us.length ≤ 16 := by rw [← vals_len us, eu, tab_len]; omega
        refine ⟨o, D, _, _, rfl, rfl, l3.same _ _ h2, l3.at0, by rw [refs_len, refs_len]; exact Nat.le_of_lt (sl_line' (by omega)), fun o2 ho2 => ?_⟩
        have l4 := l3.alloc (o := .lst (refs ts ++ refs us)) ho2
        refine ⟨o2, _, ts ++ us, rfl, ?_, ?_, ?_, s2.trans l4.same⟩
        · have e3 : vals us = rowE n (i + 1) := by
            rw [eu]
            unfold rowE
            rw [show ((n : Int) + 1 - (1 + (i : Int) + 1)).toNat = n - (i + 1) by omega]
          rw [everyTo_succ, ← et, ← e3]
          unfold vals
          rw [List.map_append]
        · intro x hx
          rcases List.mem_append.mp hx with hx | hx
          · exact Same.sqT l4.same (ht x hx)
          · exact SqT.of (l4.here (x.1, .tup [.int x.2.1, .int x.2.2]) (.tail _ (.tail _ (List.mem_map.mpr ⟨x, hx, rfl⟩))))
        · rw [refs_app]
          exact upd_same
    · rintro σ H2 ⟨o, y2, ts, rfl, et, ht, h2, s2⟩
      rw [show ((n : Int) + 1 - 1).toNat = n by omega] at et
      exact ⟨_, rfl, q H2 o ts et h2 ht s2⟩
end

abbrev s_is_whole : Stmt := topS 6
theorem sc_is_whole : FnScope ["thing"] ["thing"] (defScope s_is_whole) := ⟨rfl, rfl, rfl, by decide +kernel, rfl, by decide +kernel, by decide +kernel⟩
section
variable {P : Program} {w : World} {K : PySem.W.Frag} {mg : Str → Option Value} {base : Heap}
def sp_is_whole (K : PySem.W.Frag) : Sp := fun vs H Q _ => ∃ (x : V) (T : String) (b1 b2 : Bool), vs = [x] ∧ TyX K H x (.type T) ∧ kitB T "int" = some b1 ∧ kitB T "bool" = some b2 ∧ Q (.bl (b1 && !b2)) H
theorem ok_is_whole {f : Addr} {fd : FuncData} {k : Nat} (F : Fun K "is_whole" "is_whole" s_is_whole f fd) (z_int : mg "int" = none) (z_isinstance : mg "isinstance" = none) (z_bool : mg "bool" = none) : FG P w K mg base CX0 (k + 1) f fd ["thing"] (sp_is_whole K) := by
  refine fg_fun F sc_is_whole (fun vs H Q E h => ?_) (fun cdv A out s H vs Q E hr hg h => ?_)
  · obtain ⟨x, _, _, _, rfl, _⟩ := h
    rfl
  · obtain ⟨x, T, b1, b2, rfl, ty, k1, k2, q⟩ := h
    refine ⟨_, (pss_one (ps_ret (pe_and (pe_callB (call_isiK2 K rfl) (by rfl) z_isinstance bt_isinstance (pa_cons (pv 0) (pa_cons (pe_bltn (v := .ty "int") (by rfl) z_int bt_int rfl) pa_nil))) (pe_one (pe_not (pe_callB (call_isiK2 K rfl) (by rfl) z_isinstance bt_isinstance (pa_cons (pv 0) (pa_cons (pe_bltn (v := .ty "bool") (by rfl) z_bool bt_bool rfl) pa_nil)))))))), ?_⟩
    refine ⟨_, rfl, ⟨_, _, _, _, _, rfl, .ty _, ty, kit_ty k1, _, rfl, ?_⟩⟩
    cases b1 with
    | true => exact iteT ⟨_, rfl, ⟨_, _, _, _, _, rfl, .ty _, ty, kit_ty k2, _, rfl, q⟩⟩
    | false => exact iteF q
end

abbrev s_check_cells : Stmt := topS 7
theorem sc_check_cells : FnScope ["cells"] ["cells"] (defScope s_check_cells) := ⟨rfl, rfl, rfl, by decide +kernel, rfl, by decide +kernel, by decide +kernel⟩
abbrev s_is_exchange : Stmt := topS 8
theorem sc_is_exchange : FnScope ["thing", "cells"] ["thing", "cells"] (defScope s_is_exchange) := ⟨rfl, rfl, rfl, by decide +kernel, rfl, by decide +kernel, by decide +kernel⟩
section
variable {P : Program} {w : World} {K : PySem.W.Frag} {mg : Str → Option Value} {base : Heap}
def sp_check_cells : Sp := fun vs H Q _ => ∃ n : Int, vs = [.int n] ∧ 1 ≤ n ∧ n ≤ 16 ∧ Q .non H
theorem ok_check_cells {f : Addr} {fd : FuncData} {k : Nat} (F : Fun K "check_cells" "check_cells" s_check_cells f fd) (c_is_whole : CalG P w K mg base k "is_whole" s_is_whole ["thing"] (sp_is_whole K)) (g_MOST_CELLS : ∃ t, mg "MOST_CELLS" = some (.int 16 t)) :
    FG P w K mg base CX0 (k + 1) f fd ["cells"] sp_check_cells := by
  obtain ⟨tM, g_MOST_CELLS⟩ := g_MOST_CELLS
  refine fg_fun F sc_check_cells (fun vs H Q E h => ?_) (fun cdv A out s H vs Q E hr hg h => ?_)
  · obtain ⟨x, rfl, _⟩ := h
    rfl
  · obtain ⟨n, rfl, h1, h2, q⟩ := h
    refine ⟨_, (pss_one (ps_if (PW.pt (pw_or (pt_not (pt_val (pe_cG c_is_whole hr (by omega) hg (by rfl) (pa_cons (pv 0) pa_nil)))) (pw_or1 (pt_not (pt_chain op_le op_le pe_int (pv 0) (pe_glob (v := .int 16) (by rfl) g_MOST_CELLS ⟨_, rfl⟩))))))
        (pss_one ps_never)
        pss_nil)), ?_⟩
    refine ⟨_, rfl, _, "int", _, _, rfl, tyx_int n, kb_ii, kb_ib, _, rfl, iteF ⟨_, rfl, _, _, rfl, rfl, _, rfl, ?_⟩⟩
    refine iteTr (decide_eq_true h1) ⟨_, _, rfl, rfl, _, rfl, ?_⟩
    exact iteFa (by simp [h2]) q
/-- of pairs alone -/
def sp_is_exchange (K : PySem.W.Frag) : Sp := fun vs H Q _ => ∃ (a : Addr) (x y n : Int), vs = [.ref a, .int n] ∧ SqT K H a [.int x, .int y] ∧ Q (.bl (decide (1 ≤ x ∧ x < y ∧ y ≤ n))) H
theorem ok_is_exchange {f : Addr} {fd : FuncData} {k : Nat} (F : Fun K "is_exchange" "is_exchange" s_is_exchange f fd) (z_tuple : mg "tuple" = none) (z_isinstance : mg "isinstance" = none) (z_len : mg "len" = none) (c_is_whole : CalG P w K mg base k "is_whole" s_is_whole ["thing"] (sp_is_whole K)) :
    FG P w K mg base CX0 (k + 1) f fd ["thing", "cells"] (sp_is_exchange K) := by
  refine fg_fun F sc_is_exchange (fun vs H Q E h => ?_) (fun cdv A out s H vs Q E hr hg h => ?_)
  · obtain ⟨_, _, _, _, rfl, _⟩ := h
    rfl
  · obtain ⟨a, x, y, n, rfl, ht, q⟩ := h
    refine ⟨_, (pss_cons (ps_if (PW.pt (pw_or (pt_not (pt_val (pe_callB (call_isiK2 K rfl) (by rfl) z_isinstance bt_isinstance (pa_cons (pv 0) (pa_cons (pe_bltn (v := .ty "tuple") (by rfl) z_tuple bt_tuple rfl) pa_nil))))) (pw_or1 (pt_cmpR op_ne (pe_callB (call_len_seqK K rfl) (by rfl) z_len bt_len (pa_cons (pv 0) pa_nil)) pe_int (nomark _)))))
        (pss_one (ps_ret pe_bl))
        pss_nil)
      (pss_one (ps_ret (pe_and (pe_cG c_is_whole hr (by omega) hg (by rfl) (pa_cons (pe_ix (ix_tupK K rfl) (pv 0) pe_int (fun _ _ => rfl)) pa_nil)) (pe_and (pe_cG c_is_whole hr (by omega) hg (by rfl) (pa_cons (pe_ix (ix_tupK K rfl) (pv 0) pe_int (fun _ _ => rfl)) pa_nil)) (pe_one (pe_chain3 op_le op_lt op_le pe_int (pe_ix (ix_tupK K rfl) (pv 0) pe_int (fun _ _ => rfl)) (pe_ix (ix_tupK K rfl) (pv 0) pe_int (fun _ _ => rfl)) (pv 1)))))))), ?_⟩
    refine ⟨_, rfl, ⟨_, _, _, _, _, rfl, .ty _, tyx_tup ht, kit_ty kb_tt, _, rfl, iteF ⟨_, rfl, ⟨_, _, rfl, .inr ht, rfl, _, rfl, iteF ?_⟩⟩⟩⟩
    refine ⟨_, rfl, ⟨_, _, _, _, rfl, rfl, ht, at_of (j := 0) rfl rfl, _, "int", _, _, rfl, tyx_int x, kb_ii, kb_ib, _, rfl, iteT ?_⟩⟩
    refine ⟨_, rfl, ⟨_, _, _, _, rfl, rfl, ht, at_of (j := 1) rfl rfl, _, "int", _, _, rfl, tyx_int y, kb_ii, kb_ib, _, rfl, iteT ?_⟩⟩
    refine ⟨_, rfl, ⟨_, _, _, _, rfl, rfl, ht, at_of (j := 0) rfl rfl, _, _, rfl, rfl, _, rfl, ite2 (fun h1 => ?_) (fun h1 => ?_)⟩⟩
    · have h1' := of_decide_eq_true h1
      refine ⟨_, rfl, ⟨_, _, _, _, rfl, rfl, ht, at_of (j := 1) rfl rfl, _, _, rfl, rfl, _, rfl, ite2 (fun h2 => ?_) (fun h2 => ?_)⟩⟩
      · have h2' := of_decide_eq_true h2
        refine ⟨_, rfl, _, _, rfl, rfl, ?_⟩
        have e : decide (1 ≤ x ∧ x < y ∧ y ≤ n) = decide (y ≤ n) := by simp [h1', h2']
        rw [e] at q
        exact q
      · have h2' : ¬ x < y := fun z => h2 (decide_eq_true z)
        have e : decide (1 ≤ x ∧ x < y ∧ y ≤ n) = false := by simp [h2']
        rw [e] at q
        exact q
    · have h1' : ¬ 1 ≤ x := fun z => h1 (decide_eq_true z)
      have e : decide (1 ≤ x ∧ x < y ∧ y ≤ n) = false := by simp [h1']
      rw [e] at q
      exact q
end

abbrev s_check_web : Stmt := topS 9
theorem sc_check_web : FnScope ["cells", "web", "index", "exchange"] ["cells", "web"] (defScope s_check_web) := ⟨rfl, rfl, rfl, by decide +kernel, rfl, by decide +kernel, by decide +kernel⟩
section
variable {P : Program} {w : World} {K : PySem.W.Frag} {mg : Str → Option Value} {base : Heap}
/-- right webs -/
def sp_check_web (K : PySem.W.Frag) : Sp := fun vs H Q _ => ∃ (n : Nat) (a : Addr) (web : List (Int × Int)), vs = [.int n, .ref a] ∧ 1 ≤ n ∧ n ≤ 16 ∧ ValidW n web ∧ IsPairs K H a web ∧ ∀ H', Same H H' → Q .non H'
theorem ok_check_web {f : Addr} {fd : FuncData} {k : Nat} (F : Fun K "check_web" "check_web" s_check_web f fd) (z_list : mg "list" = none) (z_isinstance : mg "isinstance" = none) (z_enumerate : mg "enumerate" = none)
    (c_check_cells : CalG P w K mg base k "check_cells" s_check_cells ["cells"] sp_check_cells) (c_is_exchange : CalG P w K mg base k "is_exchange" s_is_exchange ["thing", "cells"] (sp_is_exchange K)) :
    FG P w K mg base CX0 (k + 1) f fd ["cells", "web"] (sp_check_web K) := by
  refine fg_fun F sc_check_web (fun vs H Q E h => ?_) (fun cdv A out s H vs Q E hr hg h => ?_)
  · obtain ⟨_, _, _, rfl, _⟩ := h
    rfl
  · obtain ⟨n, a, web, rfl, h1, h2, hv, hp, q⟩ := h
    have hu0 := hr.units0
    refine ⟨_, (pss_cons (ps_expr (pe_cG c_check_cells hr (by omega) hg (by rfl) (pa_cons (pv 0) pa_nil)))
      (pss_cons (ps_if (pt_not (pt_val (pe_callB (call_isiK2 K rfl) (by rfl) z_isinstance bt_isinstance (pa_cons (pv 1) (pa_cons (pe_bltn (v := .ty "list") (by rfl) z_list bt_list rfl) pa_nil)))))
        (pss_one ps_never)
        pss_nil)
      (pss_one (ps_for PassesOwn.never rfl (pi_enumK K rfl (by rfl) z_enumerate (pa_cons (pv 1) pa_nil)) (pg_tupK K rfl rfl (pgs_cons (pg_name (i := 2) sc_check_web.nd rfl (.inl rfl)) (pgs_cons (pg_name (i := 3) sc_check_web.nd rfl (.inl rfl)) pgs_nil)))
        (pss_one (ps_if (PW.pt (pw_or (pt_not (pt_val (pe_cG c_is_exchange hr (by omega) hg (by rfl) (pa_cons (pv 3) (pa_cons (pv 0) pa_nil))))) (pw_or1 (PW.pt (pw_and (pt_cmpR op_gt (pv 2) pe_int (nomark _)) (pw_and1 (pt_cmpR (op_leTK K rfl hu0) (pv 3) (pe_ix (ix_listK K rfl) (pv 1) (pe_op op_sub (pv 2) pe_int) (fun _ _ => rfl)) (nomark _))))))))
            (pss_one ps_never)
            pss_nil)))))), ?_⟩
    obtain ⟨ts, ets, hts, htt⟩ := hp
    refine ⟨_, rfl, n, rfl, by omega, by omega, ?_⟩
    refine ⟨_, rfl, ⟨_, _, _, _, _, rfl, .ty _, tyx_list hts, kit_ty kb_ll, _, rfl, iteF ?_⟩⟩
    refine ⟨_, rfl, a, refs ts, rfl, hts, for_enum (K := K) (a := a) (xs := refs ts) (fun i σ H2 => ∃ y2 y3 : Option V, σ = [some (.int n), some (.ref a), y2, y3] ∧ Same H H2) ⟨none, none, rfl, Same.refl H⟩ ?_ ?_ ?_⟩
    · rintro i σ H2 ⟨_, _, _, sm⟩
      exact sm.seq hts
    · rintro i x σ H2 T hx ⟨y2, y3, rfl, sm⟩ hT
      obtain ⟨⟨b, x1, x2⟩, hq, rfl⟩ := refs_inv hx
      have sm2 : Same H (upd H2 T (.tup [.int (i : Nat), .ref b])) := fun c o e => by
        rw [upd_ne (ne_of_none (sm _ _ e) hT)]; exact sm _ _ e
      have hb := Same.sqT sm2 (htt _ (List.mem_of_getElem? hq))
      have hwi : web[i]? = some (x1, x2) := by
        rw [← ets]; unfold vals; rw [List.getElem?_map, hq]; rfl
      have hval := hv.1 _ (List.mem_of_getElem? hwi)
      refine ⟨T, _, rfl, .inl (.inl upd_same), rfl, _, _, rfl, _, _, rfl, rfl, ?_⟩
      refine ⟨_, rfl, _, rfl, b, x1, x2, n, rfl, hb, _, rfl, ?_⟩
      have e : decide (1 ≤ x1 ∧ x1 < x2 ∧ x2 ≤ (n : Int)) = true := decide_eq_true hval
      rw [e]
      refine iteF ⟨_, rfl, _, _, rfl, rfl, _, rfl, ite2 (fun hi => ?_) (fun hi => ?_)⟩
      · have hi := of_decide_eq_true hi
        obtain ⟨j, rfl⟩ : ∃ j, i = j + 1 := ⟨i - 1, by omega⟩
        have hj : j < ts.length := by have := (List.getElem?_eq_some_iff.mp hq).1; omega
        obtain ⟨⟨b', z1, z2⟩, hq'⟩ : ∃ q, ts[j]? = some q := ⟨_, List.getElem?_eq_getElem hj⟩
        have hwj : web[j]? = some (z1, z2) := by
          rw [← ets]; unfold vals; rw [List.getElem?_map, hq']; rfl
        have lt : ltP (z1, z2) (x1, x2) := by
          obtain ⟨i1, e1⟩ := List.getElem?_eq_some_iff.mp hwj
          obtain ⟨i2, e2⟩ := List.getElem?_eq_some_iff.mp hwi
          have := List.pairwise_iff_getElem.mp hv.2 j (j + 1) i1 i2 (by omega)
          rw [e1, e2] at this
          exact this
        refine ⟨_, rfl, _, rfl, _, rfl, _, _, rfl, rfl, _, _, _, _, rfl, rfl, sm2.seq hts, at_of (j := j) (by omega) (refs_get hq'), ?_⟩
        refine ⟨b, b', [x1, x2], [z1, z2], rfl, rfl, hb, Same.sqT sm2 (htt _ (List.mem_of_getElem? hq')), _, rfl, ?_⟩
        have no : Ob.lexAt (fun j => decide (([x1, x2] : List Int).getD j 0 = ([z1, z2] : List Int).getD j 0)) (fun j => decide (([x1, x2] : List Int).getD j 0 ≤ ([z1, z2] : List Int).getD j 0))
            (decide (([x1, x2] : List Int).length ≤ ([z1, z2] : List Int).length)) 0 (min ([x1, x2] : List Int).length ([z1, z2] : List Int).length) = false := by
          show (if decide (x1 = z1) = true then (if decide (x2 = z2) = true then _ else decide (x2 ≤ z2)) else decide (x1 ≤ z1)) = false
          rcases lt with lt | ⟨lt, lt2⟩
          · have : z1 < x1 := lt
            rw [if_neg (by simp; omega)]
            simp; omega
          · have h1 : z1 = x1 := lt
            have h2 : z2 < x2 := lt2
            rw [if_pos (by simp; omega), if_neg (by simp; omega)]
            simp; omega
        exact iteFF no ⟨_, _, rfl, sm2⟩
      · exact ⟨_, _, rfl, sm2⟩
    · rintro σ H2 ⟨_, _, _, sm⟩
      exact q H2 sm
end

abbrev s_neighbours_of : Stmt := topS 10
theorem sc_neighbours_of : FnScope ["cells", "web", "told", "first", "second", "cell", "row"] ["cells", "web"] (defScope s_neighbours_of) := ⟨rfl, rfl, rfl, by decide +kernel, rfl, by decide +kernel, by decide +kernel⟩
section
variable {P : Program} {w : World} {K : PySem.W.Frag} {mg : Str → Option Value} {base : Heap}
def sp_neighbours_of (K : PySem.W.Frag) : Sp := fun vs H Q _ => ∃ (n : Nat) (a : Addr) (web : List (Int × Int)), vs = [.int n, .ref a] ∧ n ≤ 16 ∧ web.length ≤ 1000 ∧ ValidL n web ∧ IsPairs K H a web ∧
  ∀ H' p (rs : List (Addr × List Int)), Loc H H' ((p, .lst (refs rs)) :: rowL rs) → vals rs = nbs n web → Q (.ref p) H'
theorem ok_neighbours_of {f : Addr} {fd : FuncData} {k : Nat} (F : Fun K "neighbours_of" "neighbours_of" s_neighbours_of f fd) (z_range : mg "range" = none) (z_sorted : mg "sorted" = none) : FG P w K mg base CX0 (k + 1) f fd ["cells", "web"] (sp_neighbours_of K) := by
  refine fg_fun F sc_neighbours_of (fun vs H Q E h => ?_) (fun cdv A out s H vs Q E hr hg h => ?_)
  · obtain ⟨n, a, web, rfl, _⟩ := h
    rfl
  · obtain ⟨n, a, web, rfl, hn, hw, hv, hp, q⟩ := h
    refine ⟨_, (pss_cons (ps_setLc (i := 2) (own := [("cell", 5)]) (tt := tYes) rfl sc_neighbours_of.nd rfl rfl (sw_true rfl rfl rfl (by decide +kernel)) (pi_range1 (by rfl) z_range (pa_cons (pe_op op_add (pv 0) pe_int) pa_nil)) (blkOk_by (N := ["cells", "web", "told", "first", "second", "cell", "row"]) (sc := defScope s_neighbours_of) (by decide +kernel)) (fun _ _ _ _ _ => (pg_name (i := 5) sc_neighbours_of.nd rfl (Or.inl rfl))) (fun _ _ _ _ _ => pts_nil) (fun _ _ _ _ _ => (pe_lst pa_nil)))
      (pss_cons (ps_for PassesOwn.never rfl (pi_listK K rfl (pv 1)) (pg_tupK K rfl rfl (pgs_cons (pg_name (i := 3) sc_neighbours_of.nd rfl (.inl rfl)) (pgs_cons (pg_name (i := 4) sc_neighbours_of.nd rfl (.inl rfl)) pgs_nil)))
        (pss_cons (ps_expr (pe_bmK K rfl PySem.F.plainAttrs_list PySem.F.slot_list_append PySem.F.type_list_append mt_append (pe_ix (ix_listK K rfl) (pv 2) (pv 3) (fun _ _ => rfl)) (pa_cons (pv 4) pa_nil)))
          (pss_one (ps_expr (pe_bmK K rfl PySem.F.plainAttrs_list PySem.F.slot_list_append PySem.F.type_list_append mt_append (pe_ix (ix_listK K rfl) (pv 2) (pv 4) (fun _ _ => rfl)) (pa_cons (pv 3) pa_nil))))))
      (pss_one (ps_ret (pe_lc (own := [("row", 6)]) (tt := tYes) rfl sc_neighbours_of.nd (pi_listK K rfl (pv 2)) (blkOk_by (N := ["cells", "web", "told", "first", "second", "cell", "row"]) (sc := defScope s_neighbours_of) (by decide +kernel)) (fun _ _ _ _ _ => (pg_name (i := 6) sc_neighbours_of.nd rfl (Or.inl rfl))) (fun _ _ _ _ _ => pts_nil) (fun _ _ _ _ _ => (pe_callB (cr_sortedIK K rfl) (by rfl) z_sorted bt_sorted (pa_cons (pv 6) pa_nil)))))))), ?_⟩
    -- a new list for each cell
    refine ⟨_, rfl, _, _, rfl, rfl, _, rfl, by omega, by omega, fun t ht => lc_range (lo := 0) (n := ((n : Int) + 1).toNat)
      (fun i H1 => ∃ rs : List (Addr × List Int), vals rs = List.replicate i [] ∧ Loc H H1 ((t, .lst (refs rs)) :: rowL rs)) ?_ ?_ ?_⟩
    · exact ⟨[], rfl, (Loc.refl H).alloc ht⟩
    · rintro i H1 hi ⟨rs, e, l⟩
      refine ⟨rfl, Nat.zero_le _, fun p hp' => ⟨refs rs, ?_, ?_, rs ++ [(p, [])], ?_, l.rowNew (row := []) hp'⟩⟩
      · rw [upd_ne (ne_of_none l.at0 hp')]; exact l.at0
      · have := congrArg List.length e
        rw [vals_len, List.length_replicate] at this
        exact sl_line' (by rw [refs_len]; omega)
      · unfold vals at e ⊢
        rw [List.map_append, e, List.replicate_succ']
        rfl
    · rintro H1 ⟨rs, e, l⟩
      -- the exchanges
      obtain ⟨ts, ets, hts, htt⟩ := hp
      refine ⟨_, rfl, a, rfl, ⟨_, l.same.seq hts⟩, for_list (K := K) (a := a) (xs := refs ts)
        (fun i σ H2 => ∃ (rs : List (Addr × List Int)) (y3 y4 : Option V), σ = [some (.int n), some (.ref a), some (.ref t), y3, y4, none, none] ∧ vals rs = nbrows n (web.take i) ∧ Loc H H2 ((t, .lst (refs rs)) :: rowL rs)) ?_ ?_ ?_ ?_⟩
      · refine ⟨rs, none, none, rfl, ?_, l⟩
        rw [e]
        have e1 : ((n : Int) + 1).toNat = n + 1 := by omega
        rw [e1]
        refine List.ext_getElem? fun j => ?_
        by_cases hj : j ≤ n
        · rw [nbrows_get _ _ _ hj, List.getElem?_replicate, if_pos (by omega)]; rfl
        · rw [List.getElem?_replicate, if_neg (by omega), List.getElem?_eq_none (by rw [nbrows_len]; omega)]
      · rintro i σ H2 _ ⟨_, _, _, _, _, l2⟩
        exact l2.same.seq hts
      · rintro i x σ H2 hx ⟨rs, y3, y4, rfl, er, l2⟩
        obtain ⟨⟨b, x1, x2⟩, hq, rfl⟩ := refs_inv hx
        have hT := Same.sqT l2.same (htt _ (List.mem_of_getElem? hq))
        have hwi : web[i]? = some (x1, x2) := by
          rw [← ets]; unfold vals; rw [List.getElem?_map, hq]; rfl
        obtain ⟨v1, v2, v3⟩ := hv _ (List.mem_of_getElem? hwi)
        obtain ⟨c1, rfl⟩ : ∃ c1 : Nat, x1 = c1 := ⟨x1.toNat, by simp at v1 v2; omega⟩
        obtain ⟨c2, rfl⟩ : ∃ c2 : Nat, x2 = c2 := ⟨x2.toNat, by simp at v1 v2 v3; omega⟩
        have n1 : c1 ≤ n := by simp at v2 v3; omega
        have n2 : c2 ≤ n := by simp at v3; omega
        have ne : c1 ≠ c2 := by simp at v2; omega
        obtain ⟨r1, hr1⟩ : ∃ r1, rs[c1]? = some (r1, nbraw (web.take i) c1) := vals_get (by rw [er]; exact nbrows_get _ _ _ n1)
        have small : ∀ c : Int, (iv (nbraw (web.take i) c)).length < sizeLine := fun c => sl_line' (by
          have := nbraw_len (web.take i) c
          rw [List.length_take] at this
          rw [iv_len]; omega)
        refine ⟨b, _, rfl, hT, rfl, _, _, rfl, _, _, rfl, rfl, ?_⟩
        have at1 := l2.atIx (i := c1 + 1) (by rw [List.getElem?_cons_succ]; exact rowL_get hr1)
        refine ⟨_, rfl, _, rfl, t, refs rs, _, _, rfl, rfl, SqL.of l2.at0, atI_nat (refs_get hr1), ⟨.inl ⟨rfl, _, SqL.of at1⟩, _, rfl, r1, _, _, rfl, rfl, at1, small _, ?_⟩⟩
        have l3 := l2.rowGrow (z := (c2 : Int)) hr1
        obtain ⟨r2, hr2⟩ : ∃ r2, (rs.set c1 (r1, nbraw (web.take i) c1 ++ [(c2 : Int)]))[c2]? = some (r2, nbraw (web.take i) c2) := by
          rw [List.getElem?_set, if_neg ne]
          exact vals_get (by rw [er]; exact nbrows_get _ _ _ n2)
        have at2 := l3.atIx (i := c2 + 1) (by rw [List.getElem?_cons_succ]; exact rowL_get hr2)
        refine ⟨_, rfl, _, rfl, t, _, _, _, rfl, rfl, SqL.of l3.at0, atI_nat (refs_get hr2), ⟨.inl ⟨rfl, _, SqL.of at2⟩, _, rfl, r2, _, _, rfl, rfl, at2, small _, ?_⟩⟩
        refine ⟨_, _, _, rfl, ?_, l3.rowGrow hr2⟩
        rw [vals_set, vals_set, er, take_snoc hwi, nbrows_snoc n1 n2 ne]
      · rintro σ H2 ⟨rs, y3, y4, rfl, er, l2⟩
        have full : web.take (refs ts).length = web := by
          rw [refs_len, ← vals_len ts, ets, List.take_length]
        rw [full] at er
        -- sorted rows
        refine ⟨_, rfl, t, rfl, ⟨_, SqL.of l2.at0⟩, fun D hD => lc_list (K := K) (a := t) (xs := refs rs)
          (fun j H3 => ∃ ss : List (Addr × List Int), vals ss = ((vals rs).take j).map srt ∧ Loc H2 H3 ((D, .lst (refs ss)) :: rowL ss)) ?_ ?_ ?_ ?_⟩
        · exact ⟨[], rfl, (Loc.refl H2).alloc hD⟩
        · rintro j H3 _ ⟨_, _, l3⟩
          exact l3.same.seq (SqL.of l2.at0)
        · rintro j x H3 hx ⟨ss, es, l3⟩
          obtain ⟨⟨r, row⟩, hq, rfl⟩ := refs_inv hx
          have at1 := l2.atIx (i := j + 1) (by rw [List.getElem?_cons_succ]; exact rowL_get hq)
          refine ⟨rfl, _, rfl, r, row, rfl, l3.same.seq (SqL.of at1), fun ns' p perm asc hp' => ⟨refs ss, ?_, ?_, ss ++ [(p, ns')], ?_, l3.rowNew hp'⟩⟩
          · rw [upd_ne (ne_of_none l3.at0 hp')]; exact l3.at0
          · have := congrArg List.length es
            rw [vals_len, List.length_map, List.length_take, er, nbrows_len] at this
            exact sl_line' (by rw [refs_len]; omega)
          · have hv : (vals rs)[j]? = some row := by unfold vals; rw [List.getElem?_map, hq]; rfl
            rw [take_snoc hv, List.map_append, ← es, srt_of perm asc]
            unfold vals
            rw [List.map_append]
            rfl
        · rintro H3 ⟨ss, es, l3⟩
          have full2 : (vals rs).take (refs rs).length = vals rs := by
            rw [refs_len, ← vals_len rs, List.take_length]
          rw [full2, er] at es
          have z := (Loc.of l2.same).call l3
          rw [List.append_nil] at z
          exact q H3 D ss z es
end

abbrev s_pieces_of : Stmt := topS 11
theorem sc_pieces_of : FnScope ["cells", "web", "neighbours", "told", "seen", "cell", "piece", "waiting", "fresh", "other"] ["cells", "web"] (defScope s_pieces_of) := ⟨rfl, rfl, rfl, by decide +kernel, rfl, by decide +kernel, by decide +kernel⟩
section
variable {P : Program} {w : World} {K : PySem.W.Frag} {mg : Str → Option Value} {base : Heap}
/-- the list told is new, its rows, too -/
def sp_pieces_of (K : PySem.W.Frag) : Sp := fun vs H Q _ => ∃ (n : Nat) (a : Addr) (web : List (Int × Int)), vs = [.int n, .ref a] ∧ n ≤ 16 ∧ web.length ≤ 1000 ∧ ValidW n web ∧ IsPairs K H a web ∧
  ∀ H' p (rs : List (Addr × List Int)), Loc H H' ((p, .lst (refs rs)) :: rowL rs) → vals rs = pcs n web → Q (.ref p) H'
theorem ok_pieces_of {f : Addr} {fd : FuncData} {k : Nat} (F : Fun K "pieces_of" "pieces_of" s_pieces_of f fd) (z_range : mg "range" = none) (z_sorted : mg "sorted" = none)
    (c_neighbours_of : CalG P w K mg base k "neighbours_of" s_neighbours_of ["cells", "web"] (sp_neighbours_of K)) : FG P w K mg base CX0 (k + 1) f fd ["cells", "web"] (sp_pieces_of K) := by
  refine fg_fun F sc_pieces_of (fun vs H Q E h => ?_) (fun cdv A out s H vs Q E hr hg h => ?_)
  · obtain ⟨n, a, web, rfl, _⟩ := h
    rfl
  · obtain ⟨n, a, web, rfl, hn, hw, hv, hp, q⟩ := h
    have hu64 := hr.units
    refine ⟨_, (pss_cons (ps_par3 (i := 2) (j := 3) (l := 4) (by rfl) sc_pieces_of.nd rfl rfl rfl (by decide) (by decide) (by decide) rfl rfl rfl (pa_cons (pe_cG c_neighbours_of hr (by omega) hg (by rfl) (pa_cons (pv 0) (pa_cons (pv 1) pa_nil))) (pa_cons (pe_lst pa_nil) (pa_cons (pe_lst pa_nil) pa_nil))) (by rfl))
      (pss_cons (ps_for PassesOwn.never rfl (pi_range2 (by rfl) z_range (pa_cons pe_int (pa_cons (pe_op op_add (pv 0) pe_int) pa_nil))) (pg_name (i := 5) sc_pieces_of.nd rfl (.inl rfl))
        (pss_one (ps_if (pt_cmpR (op_notIn_seqK K rfl) (pv 5) (pv 4) (by rfl))
            (pss_cons (ps_asg (pe_tup (pa_cons (pe_lst (pa_cons (pv 5) pa_nil)) (pa_cons (pe_lst (pa_cons (pv 5) pa_nil)) pa_nil))) (pg_tupK K rfl rfl (pgs_cons (pg_name (i := 6) sc_pieces_of.nd rfl (.inr rfl)) (pgs_cons (pg_name (i := 7) sc_pieces_of.nd rfl (.inl rfl)) pgs_nil))))
              (pss_cons (ps_while PassesOwn.never (pt_cmpR (op_neDK K rfl hu64) (pv 7) (pe_lst pa_nil) (nomark _))
                (pss_cons (ps_setLc (i := 8) (own := [("other", 9)]) rfl sc_pieces_of.nd rfl rfl (sw_true rfl rfl rfl (by decide +kernel)) (pi_listK K rfl (pe_ix (ix_listK K rfl) (pv 2) (pe_bm0K K rfl PySem.F.plainAttrs_list PySem.F.slot_list_pop PySem.F.type_list_pop mt_pop (pv 7)) (fun _ _ => rfl))) (blkOk_by (N := ["cells", "web", "neighbours", "told", "seen", "cell", "piece", "waiting", "fresh", "other"]) (sc := defScope s_pieces_of) (by decide +kernel)) (fun _ _ _ _ _ => (pg_name (i := 9) sc_pieces_of.nd rfl (Or.inl rfl))) (fun _ _ _ _ _ => (pts_one (pt_cmpR (op_notIn_seqK K rfl) (pv 9) (pv 6) (by rfl)))) (fun _ _ _ _ _ => (pv 9)))
                  (pss_cons (ps_aug (i := 6) sc_pieces_of.nd rfl (.inr rfl) (pv 8) ip_ext)
                  (pss_one (ps_aug (i := 7) sc_pieces_of.nd rfl (.inl rfl) (pv 8) ip_ext)))))
              (pss_cons (ps_aug (i := 4) sc_pieces_of.nd rfl (.inl rfl) (pv 6) ip_ext)
              (pss_one (ps_expr (pe_bmK K rfl PySem.F.plainAttrs_list PySem.F.slot_list_append PySem.F.type_list_append mt_append (pv 3) (pa_cons (pe_callB (cr_sortedIK K rfl) (by rfl) z_sorted bt_sorted (pa_cons (pv 6) pa_nil)) pa_nil)))))))
            pss_nil)))
      (pss_one (ps_ret (pv 3))))), ?_⟩
    refine ⟨_, rfl, _, rfl, n, a, web, rfl, hn, hw, hv.1, hp, fun H1 nb ns lnb ens => ⟨by decide, fun told ht => ⟨by decide, fun seen hs => ?_⟩⟩⟩
    have sm := lnb.same
    have hns : SqL K H1 nb (refs ns) := SqL.of lnb.at0
    have hrow : ∀ r ∈ ns, SqL K H1 r.1 (iv r.2) := fun r hr => SqL.of (lnb.here (r.1, .lst (iv r.2)) (.tail _ (List.mem_map.mpr ⟨r, hr, rfl⟩)))
    refine ⟨_, _, _, rfl, ?_⟩
    refine ⟨_, rfl, _, _, rfl, rfl, _, _, rfl, by omega, for_range (lo := 1) (n := ((n : Int) + 1 - 1).toNat)
      (fun i σ H2 => ∃ (rs : List (Addr × List Int)) (sn : List Int) (y5 y6 y7 y8 y9 : Option V), σ = [some (.int n), some (.ref a), some (.ref nb), some (.ref told), some (.ref seen), y5, y6, y7, y8, y9] ∧
        vals rs = pcsTo n web i ∧ sn.Nodup ∧ (∀ j, j ∈ sn ↔ ∃ k : Int, 1 ≤ k ∧ k ≤ i ∧ Conn web k j) ∧ Loc H1 H2 ((seen, .lst (iv sn)) :: (told, .lst (refs rs)) :: rowL rs)) ?_ ?_ ?_⟩
    · refine ⟨[], [], none, none, none, none, none, rfl, rfl, List.Pairwise.nil, fun j => ⟨(fun z => nomatch z), fun ⟨k, h1, h2, _⟩ => by omega⟩, ?_⟩
      exact ((Loc.refl H1).alloc ht).alloc hs
    · rintro i σ H2 hi ⟨rs, sn, y5, y6, y7, y8, y9, rfl, er, nd, mem, l⟩
      have ci : 1 ≤ (1 : Int) + i ∧ (1 : Int) + i ≤ n := by omega
      have ec : (i : Int) + 1 = 1 + i := by omega
      have least : isLeast n web (1 + i) = true ↔ ¬ ((1 : Int) + i) ∈ sn := by
        rw [isLeast_iff hv.1 ci, mem]
        constructor
        · rintro h ⟨j, h1, h2, h3⟩
          have := h j h3.symm
          omega
        · intro h j hj
          have w1 := hj.within hv.1 ci
          exact Int.not_lt.mp fun z => h ⟨j, w1.1, by omega, hj.symm⟩
      have snl : sn.length ≤ n := by
        have := nodup_len (m := cellsTo n) nd fun j hj => by
          obtain ⟨k, h1, h2, h3⟩ := (mem j).mp hj
          exact mem_cellsTo.mpr (h3.within hv.1 ⟨h1, by omega⟩)
        rwa [cellsTo_len] at this
      refine ⟨_, rfl, _, rfl, seen, iv sn, rfl, .inl (SqL.of l.at0), rfl, iv_flat sn, _, rfl, ite2 (fun hb => ?_) (fun hb => ?_)⟩
      · -- a new piece
        have hns' : ¬ ((1 : Int) + i) ∈ sn := by
          rw [inV_iv] at hb
          simpa using hb
        refine ⟨_, rfl, sl1, fun p1 hp1 => ⟨_, rfl, sl1, fun p2 hp2 => ⟨sl2, fun T hT => ?_⟩⟩⟩
        refine ⟨T, _, rfl, .inl (.inl upd_same), rfl, _, _, rfl, _, _, rfl, rfl, ?_⟩
        refine ⟨fun m σ H3 => ∃ (pl wl : List Int) (y8 y9 : Option V), σ = [some (.int n), some (.ref a), some (.ref nb), some (.ref told), some (.ref seen), some (.int (1 + i)), some (.ref p1), some (.ref p2), y8, y9] ∧
          Dfs web (1 + i) pl wl ∧ 2 * (n - pl.length) + wl.length = m ∧ m ≤ 2 * n + 1 ∧ Loc H1 H3 ((p2, .lst (iv wl)) :: (p1, .lst (iv pl)) :: (seen, .lst (iv sn)) :: (told, .lst (refs rs)) :: rowL rs),
          ⟨_, [1 + i], [1 + i], _, _, rfl, .start, rfl, ?_, (((l.alloc hp1).alloc hp2).alloc hT).drop1⟩, ?_⟩
        · simp only [List.length_singleton]; omega
        rintro m σ H3 ⟨pl, wl, y8, y9, rfl, d, em, lm, l3⟩
        have pln := d.len hv.1 ci
        refine ⟨_, rfl, by decide, fun e he => ⟨dI wl, dI [], IsInts.dp (SqL.of ((l3.alloc he).atIx (i := 1) rfl)), IsInts.dp (ns := []) (SqL.of upd_same), shaped_dI _, shaped_dI _, _, rfl, ite2 (fun hb2 => ?_) (fun hb2 => ?_)⟩⟩
        · rw [eqv_dI_nil] at hb2
          have wne : wl ≠ [] := by simpa using hb2
          obtain ⟨wl', j, rfl⟩ : ∃ wl' j, wl = wl' ++ [j] := ⟨wl.dropLast, wl.getLast wne, (List.dropLast_concat_getLast wne).symm⟩
          have hj := (d.conn j (d.sub j (List.mem_append_right _ (List.mem_singleton.mpr rfl)))).within hv.1 ci
          obtain ⟨jn, rfl⟩ : ∃ jn : Nat, j = jn := ⟨j.toNat, by omega⟩
          have l4 := (l3.alloc (o := .lst []) he).drop1
          refine ⟨fun σ' H' => ∃ m', m' < m ∧ _, fun _ _ z => z, ?_⟩
          obtain ⟨r, hr⟩ : ∃ r, ns[jn]? = some (r, srt (nbraw web jn)) := vals_get (by rw [ens]; exact nbs_get _ _ _ (by omega))
          have hd : (iv (wl' ++ [(jn : Int)])).dropLast = iv wl' := by rw [iv_snoc, List.dropLast_concat]
          have hl : (iv (wl' ++ [(jn : Int)]))[(iv (wl' ++ [(jn : Int)])).length - 1]? = some (.int jn) := by
            rw [iv_len]
            refine iv_get ?_
            simp
          have l5 := l4.put0 (o' := .lst (iv wl'))
          have hrw := hrow _ (List.mem_of_getElem? hr)
          have sm5 : Same (upd (upd H1 told (.lst [])) seen (.lst [])) (upd (upd H1 told (.lst [])) seen (.lst [])) := Same.refl _
          refine ⟨_, rfl, _, rfl, .inl ⟨rfl, _, SqL.of l4.at0⟩, p2, iv (wl' ++ [(jn : Int)]), .int jn, rfl, rfl, l4.at0, hl, ?_⟩
          rw [hd]
          refine ⟨nb, refs ns, _, .ref r, rfl, rfl, l5.same.seq hns, atI_nat (refs_get hr), r, rfl, ⟨_, l5.same.seq hrw⟩, fun D hD => lc_list (K := K) (a := r) (xs := iv (srt (nbraw web jn)))
            (fun t H5 => Loc H1 H5 ((D, .lst (iv (((srt (nbraw web jn)).take t).filter fun k => !decide (k ∈ pl)))) :: (p2, .lst (iv wl')) :: (p1, .lst (iv pl)) :: (seen, .lst (iv sn)) :: (told, .lst (refs rs)) :: rowL rs)) (l5.alloc hD) (fun t H5 _ l6 => l6.same.seq hrw) ?_ ?_⟩
          · intro t x H5 hx l6
            obtain ⟨z, hz, rfl⟩ := iv_inv hx
            have hfl : (((srt (nbraw web jn)).take t).filter fun k => !decide (k ∈ pl)).length ≤ 2 * web.length := by
              refine Nat.le_trans (List.length_filter_le _ _) (Nat.le_trans (List.length_take_le' _ _) ?_)
              rw [(srt_perm _).length_eq]
              exact nbraw_len _ _
            refine ⟨rfl, _, rfl, _, rfl, p1, iv pl, rfl, .inl (SqL.of (l6.atIx (i := 2) rfl)), rfl, iv_flat pl, _, rfl, ite2 (fun hb3 => ?_) (fun hb3 => ?_)⟩
            · rw [inV_iv] at hb3
              have e6 := l6.put0 (o' := .lst (iv (((srt (nbraw web jn)).take t).filter fun k => !decide (k ∈ pl)) ++ [.int z]))
              refine ⟨_, rfl, _, l6.at0, sl_line' (by rw [iv_len]; omega), ?_⟩
              show Loc H1 _ _
              rw [take_snoc hz, List.filter_append, List.filter_cons_of_pos (by simpa using hb3), List.filter_nil, iv_snoc]
              exact e6
            · rw [inV_iv] at hb3
              show Loc H1 _ _
              rw [take_snoc hz, List.filter_append, List.filter_cons_of_neg (by simpa using hb3), List.filter_nil, List.append_nil]
              exact l6
          · intro H5 l6
            rw [iv_len, List.take_length] at l6
            have rn : (srt (nbraw web jn)).Nodup := (srt_perm _).nodup_iff.mpr (nbraw_nodup hv jn)
            have rm : ∀ k, k ∈ srt (nbraw web jn) ↔ edge web jn k := fun k => by rw [(srt_perm _).mem_iff, mem_nbraw]
            have d2 := d.step rn rm
            have len2 := d2.len hv.1 ci
            rw [List.length_append] at len2
            rw [List.length_append, List.length_singleton] at em
            refine ⟨_, rfl, _, rfl, p1, D, iv pl, _, rfl, rfl, l6.atIx (i := 2) rfl, l6.at0, by rw [iv_len, iv_len]; exact Nat.le_of_lt (sl_line' (by omega)), ?_⟩
            have l7 := l6.setIx (i := 2) (o' := .lst (iv pl ++ iv ((srt (nbraw web jn)).filter fun k => !decide (k ∈ pl)))) rfl
            refine ⟨_, rfl, _, rfl, p2, D, iv wl', _, rfl, rfl, l7.atIx (i := 1) rfl, l7.atIx (i := 0) rfl, by rw [iv_len, iv_len]; exact Nat.le_of_lt (sl_line' (by omega)), ?_⟩
            have l8 := l7.setIx (i := 1) (o' := .lst (iv wl' ++ iv ((srt (nbraw web jn)).filter fun k => !decide (k ∈ pl)))) rfl
            refine ⟨_, ?_, _, _, _, _, rfl, d2, rfl, ?_, ?_⟩
            · rw [List.length_append, List.length_append]; omega
            · rw [List.length_append, List.length_append]; omega
            · have e1 : iv (pl ++ (srt (nbraw web jn)).filter fun k => !decide (k ∈ pl)) = iv pl ++ iv ((srt (nbraw web jn)).filter fun k => !decide (k ∈ pl)) := List.map_append ..
              have e2 : iv (wl' ++ (srt (nbraw web jn)).filter fun k => !decide (k ∈ pl)) = iv wl' ++ iv ((srt (nbraw web jn)).filter fun k => !decide (k ∈ pl)) := List.map_append ..
              rw [e1, e2]
              exact l8.drop1
        · rw [eqv_dI_nil] at hb2
          have we : wl = [] := by simpa using hb2
          subst we
          have l4 := (l3.alloc (o := .lst []) he).drop1.drop1
          refine ⟨_, rfl, _, rfl, seen, p1, iv sn, iv pl, rfl, rfl, l4.atIx (i := 1) rfl, l4.at0, by rw [iv_len, iv_len]; exact Nat.le_of_lt (sl_line' (by omega)), ?_⟩
          have l5 := l4.setIx (i := 1) (o' := .lst (iv sn ++ iv pl)) rfl
          have rl : rs.length ≤ n := by
            have e1 := congrArg List.length er
            rw [vals_len] at e1
            rw [e1]
            unfold pcsTo
            rw [List.length_map]
            refine Nat.le_trans (List.length_filter_le _ _) ?_
            rw [cellsTo_len]
            omega
          refine ⟨_, rfl, .inl ⟨rfl, _, SqL.of (l5.atIx (i := 2) rfl)⟩, _, rfl, p1, pl, rfl, SqL.of l5.at0, fun ns' p perm asc hp' => ⟨told, refs rs, _, rfl, rfl, (l5.alloc hp').atIx (i := 3) rfl, sl_line' (by rw [refs_len]; omega), ?_⟩⟩
          have l6 := (l5.alloc (o := .lst (iv ns')) hp').setIx (i := 3) (o' := .lst (refs rs ++ [.ref p])) rfl
          refine ⟨rs ++ [(p, ns')], sn ++ pl, _, _, _, _, _, rfl, ?_, ?_, ?_, ?_⟩
          · rw [pcsTo_succ hv.1, ec, if_pos (least.mpr hns'), ← er, srt_of perm asc, comp_unique hv.1 ci d.nd (fun j => d.done j)]
            unfold vals
            rw [List.map_append]
            rfl
          · rw [List.nodup_append]
            refine ⟨nd, d.nd, ?_⟩
            rintro x hx y hy rfl
            obtain ⟨k, h1, h2, h3⟩ := (mem x).mp hx
            exact hns' ((mem _).mpr ⟨k, h1, h2, h3.trans ((d.done x).mp hy).symm⟩)
          · intro j
            rw [List.mem_append, mem, d.done]
            constructor
            · rintro (⟨k, h1, h2, h3⟩ | h)
              · exact ⟨k, h1, by omega, h3⟩
              · exact ⟨1 + i, by omega, by omega, h⟩
            · rintro ⟨k, h1, h2, h3⟩
              by_cases e2 : k ≤ i
              · exact .inl ⟨k, h1, e2, h3⟩
              · have : k = 1 + i := by omega
                subst this
                exact .inr h3
          · have e1 : iv (sn ++ pl) = iv sn ++ iv pl := List.map_append ..
            have e2 : rowL (rs ++ [(p, ns')]) = rowL rs ++ [(p, .lst (iv ns'))] := List.map_append ..
            rw [e1, e2, refs_snoc]
            have l7 := l6.keep (M := [(p, .lst (iv ns'))] ++ ((seen, .lst (iv sn ++ iv pl)) :: (told, .lst (refs rs ++ [.ref p])) :: rowL rs)) (List.Sublist.cons_cons _ (List.sublist_cons_self _ _))
            exact l7.perm (M := ((seen, .lst (iv sn ++ iv pl)) :: (told, .lst (refs rs ++ [.ref p])) :: rowL rs) ++ [(p, .lst (iv ns'))]) List.perm_append_comm
      · have hns' : ((1 : Int) + i) ∈ sn := by
          rw [inV_iv] at hb
          simpa using hb
        refine ⟨rs, sn, _, _, _, _, _, rfl, ?_, nd, ?_, l⟩
        · rw [pcsTo_succ hv.1, ec, if_neg (fun z => least.mp z hns'), List.append_nil, er]
        · intro j
          rw [mem]
          constructor
          · rintro ⟨k, h1, h2, h3⟩
            exact ⟨k, h1, by omega, h3⟩
          · rintro ⟨k, h1, h2, h3⟩
            by_cases e : k ≤ i
            · exact ⟨k, h1, e, h3⟩
            · obtain ⟨k', g1, g2, g3⟩ := (mem _).mp hns'
              have : k = 1 + i := by omega
              subst this
              exact ⟨k', g1, g2, g3.trans h3⟩
    · rintro σ H2 ⟨rs, sn, y5, y6, y7, y8, y9, rfl, er, nd, mem, l⟩
      have e1 : ((n : Int) + 1 - 1).toNat = n := by omega
      rw [e1] at er
      exact ⟨_, rfl, q H2 told rs (Loc.call (Loc.of sm) l.drop1 |>.keep (by simp)) er⟩
end

abbrev s_bridges_of : Stmt := topS 14
theorem sc_bridges_of : FnScope ["cells", "web", "told", "exchange", "left", "other", "piece"] ["cells", "web"] (defScope s_bridges_of) := ⟨rfl, rfl, rfl, by decide +kernel, rfl, by decide +kernel, by decide +kernel⟩
abbrev s_bridges : Stmt := topS 15
theorem sc_bridges : FnScope ["cells", "web"] ["cells", "web"] (defScope s_bridges) := ⟨rfl, rfl, rfl, by decide +kernel, rfl, by decide +kernel, by decide +kernel⟩
section
variable {P : Program} {w : World} {K : PySem.W.Frag} {mg : Str → Option Value} {base : Heap}
def sp_bridges_of (K : PySem.W.Frag) : Sp := fun vs H Q _ => ∃ (n : Nat) (a : Addr) (web : List (Int × Int)), vs = [.int n, .ref a] ∧ n ≤ 16 ∧ web.length ≤ 1000 ∧ ValidW n web ∧ IsPairs K H a web ∧
  ∀ H' p (us : List (Addr × Int × Int)), vals us = brsL n web → (∀ x ∈ us, SqT K H' x.1 [.int x.2.1, .int x.2.2]) → Loc H H' [(p, .lst (refs us))] → Q (.ref p) H'
theorem ok_bridges_of {f : Addr} {fd : FuncData} {k : Nat} (F : Fun K "bridges_of" "bridges_of" s_bridges_of f fd)
    (c_pieces_of : CalG P w K mg base k "pieces_of" s_pieces_of ["cells", "web"] (sp_pieces_of K)) : FG P w K mg base CX0 (k + 1) f fd ["cells", "web"] (sp_bridges_of K) := by
  refine fg_fun F sc_bridges_of (fun vs H Q E h => ?_) (fun cdv A out s H vs Q E hr hg h => ?_)
  · obtain ⟨_, _, _, rfl, _⟩ := h
    rfl
  · have hu64 := hr.units
    obtain ⟨n, a, web, rfl, n2, wl, hv, hp, q⟩ := h
    refine ⟨_, (pss_cons (ps_set (i := 2) sc_bridges_of.nd rfl (.inl rfl) (pe_lst pa_nil))
      (pss_cons (ps_for PassesOwn.never rfl (pi_listK K rfl (pv 1)) (pg_name (i := 3) sc_bridges_of.nd rfl (.inr rfl))
        (pss_cons (ps_setLc (i := 4) (own := [("other", 5)]) rfl sc_bridges_of.nd rfl rfl (sw_true rfl rfl rfl (by decide +kernel)) (pi_listK K rfl (pv 1)) (blkOk_by (N := ["cells", "web", "told", "exchange", "left", "other", "piece"]) (sc := defScope s_bridges_of) (by decide +kernel)) (fun _ _ _ _ _ => (pg_name (i := 5) sc_bridges_of.nd rfl (Or.inl rfl))) (fun _ _ _ _ _ => (pts_one (pt_cmpR (op_neDK K rfl hu64) (pv 5) (pv 3) (nomark _)))) (fun _ _ _ _ _ => (pv 5)))
          (pss_one (ps_if (pt_cmpR (op_eqDK K rfl hu64) (pe_lc (own := [("piece", 6)]) rfl sc_bridges_of.nd (pi_listK K rfl (pe_cG c_pieces_of hr (by omega) hg (by rfl) (pa_cons (pv 0) (pa_cons (pv 4) pa_nil)))) (blkOk_by (N := ["cells", "web", "told", "exchange", "left", "other", "piece"]) (sc := defScope s_bridges_of) (by decide +kernel)) (fun _ _ _ _ _ => (pg_name (i := 6) sc_bridges_of.nd rfl (Or.inl rfl))) (fun _ _ _ _ _ => (pts_one (PW.pt (pw_and (pt_cmpR (op_in_seqK K rfl) (pe_ix (ix_tupK K rfl) (pv 3) pe_int (fun _ _ => rfl)) (pv 6) (by rfl)) (pw_and1 (pt_cmpR (op_in_seqK K rfl) (pe_ix (ix_tupK K rfl) (pv 3) pe_int (fun _ _ => rfl)) (pv 6) (by rfl))))))) (fun _ _ _ _ _ => (pv 6))) (pe_lst pa_nil) (nomark _))
            (pss_one (ps_expr (pe_bmK K rfl PySem.F.plainAttrs_list PySem.F.slot_list_append PySem.F.type_list_append mt_append (pv 2) (pa_cons (pv 3) pa_nil))))
            pss_nil))))
      (pss_one (ps_ret (pv 2))))), ?_⟩
    obtain ⟨ts, ets, hts, htt⟩ := hp
    have tsl : ts.length = web.length := by rw [← vals_len ts, ets]
    refine ⟨by decide, fun R hR => ⟨_, rfl, a, rfl, ⟨_, (sA hR).seq hts⟩, for_list (K := K) (a := a) (xs := refs ts)
      (fun i σ H2 => ∃ y3 y4 : Option V, σ = [some (.int n), some (.ref a), some (.ref R), y3, y4, none, none] ∧ Loc H H2 [(R, .lst (refs ((ts.take i).filter fun x => brB n web x.2)))]) ?_ ?_ ?_ ?_⟩⟩
    · exact ⟨none, none, rfl, (Loc.refl H).alloc hR⟩
    · rintro i σ H2 _ ⟨_, _, _, l⟩
      exact l.same.seq hts
    · rintro i x σ H2 hx ⟨y3, y4, rfl, l⟩
      obtain ⟨⟨t, e⟩, hq, rfl⟩ := refs_inv hx
      have he := hv.1 e (by rw [← ets]; exact List.mem_map.mpr ⟨_, List.mem_of_getElem? hq, rfl⟩)
      have hte := htt _ (List.mem_of_getElem? hq)
      refine ⟨_, rfl, a, rfl, ⟨_, l.same.seq hts⟩, fun D hD => lc_list (K := K) (a := a) (xs := refs ts) (fun j H3 => Loc H2 H3 [(D, .lst (refs ((ts.take j).filter fun x => decide (x.2 ≠ e))))]) ((Loc.refl H2).alloc hD) (fun j H3 _ l3 => (l.same.trans l3.same).seq hts) ?_ ?_⟩
      · rintro j x H3 hx l3
        obtain ⟨⟨t', e'⟩, hq', rfl⟩ := refs_inv hx
        have s3 := l.same.trans l3.same
        refine ⟨rfl, _, rfl, _, rfl, dE e', dE e, pair_dp (Same.sqT s3 (htt _ (List.mem_of_getElem? hq'))), pair_dp (Same.sqT s3 hte), shaped_dE _, shaped_dE _, ?_⟩
        rw [eqv_dE]
        refine ⟨_, rfl, ?_⟩
        rw [filt_take hq']
        by_cases z : e' = e
        · refine iteFF (by simp [z]) ?_
          rw [if_neg (by simp [z]), List.append_nil]
          exact l3
        · refine iteTT (by simp [z]) ⟨_, rfl, _, l3.at0, sl_line' (by rw [refs_len]; exact Nat.lt_of_le_of_lt filt_len (by omega)), ?_⟩
          rw [if_pos (by simp [z]), refs_snoc]
          exact l3.put0
      · rintro H3 l3
        rw [refs_len, List.take_length] at l3
        have s3 := l.same.trans l3.same
        have pl : IsPairs K H3 D (wo web e) := ⟨ts.filter fun x => decide (x.2 ≠ e), (vals_filt (fun f => decide (f ≠ e)) ts).trans (by rw [ets]; rfl), SqL.of l3.at0, fun x hx => Same.sqT s3 (htt x (List.mem_filter.mp hx).1)⟩
        refine ⟨_, rfl, _, rfl, n, D, _, rfl, n2, Nat.le_trans wo_len wl, wo_validW hv, pl, fun H4 p rs l4 er => ⟨p, rfl, ⟨_, SqL.of l4.at0⟩, fun D2 hD2 => lc_list (K := K) (a := p) (xs := refs rs)
          (fun j H5 => Loc H4 H5 [(D2, .lst (refs ((rs.take j).filter fun x => decide (e.1 ∈ x.2) && decide (e.2 ∈ x.2))))]) ((Loc.refl H4).alloc hD2) (fun j H5 _ l5 => l5.same.seq (SqL.of l4.at0)) ?_ ?_⟩⟩
        · have rl : rs.length < 100000 := by
            rw [← vals_len rs, er, cnt_pcs]
            unfold cnt
            exact Nat.lt_of_le_of_lt (List.length_filter_le _ _) (by rw [cellsTo_len]; omega)
          rintro j x H5 hx l5
          obtain ⟨⟨r, row⟩, hq', rfl⟩ := refs_inv hx
          have s5 := s3.trans (l4.same.trans l5.same)
          have hr5 : SqL K H5 r (iv row) := l5.same.seq (SqL.of (l4.here (r, .lst (iv row)) (.tail _ (List.mem_map.mpr ⟨_, List.mem_of_getElem? hq', rfl⟩))))
          have ht5 := Same.sqT s5 hte
          have in1 : ∀ c : Int, ∀ {Q' : VK}, Q' (.bl (decide (c ∈ row))) H5 → rIn K false (.int c) (.ref r) H5 Q' := fun c Q' q' => ⟨r, _, rfl, .inl hr5, rfl, iv_flat _, by rw [if_neg (by decide), inV_iv]; exact q'⟩
          refine ⟨rfl, _, rfl, t, _, _, _, rfl, rfl, ht5, at_of (j := 0) rfl rfl, _, rfl, in1 _ ⟨_, rfl, ?_⟩⟩
          rw [filt_take hq']
          have no : ∀ b : Bool, b = false → (if (fun x : Addr × List Int => decide (e.1 ∈ x.2) && decide (e.2 ∈ x.2)) (r, row) = true then [(r, row)] else []) = (if b = true then [(r, row)] else []) → Loc H4 H5 [(D2, .lst (refs ((rs.take j).filter (fun x => decide (e.1 ∈ x.2) && decide (e.2 ∈ x.2)) ++ (if (fun x : Addr × List Int => decide (e.1 ∈ x.2) && decide (e.2 ∈ x.2)) (r, row) = true then [(r, row)] else []))))] := fun b hb hh => by
            rw [hh, hb, if_neg (by decide), List.append_nil]; exact l5
          by_cases z1 : e.1 ∈ row
          · refine iteTT (by simp [z1]) ⟨_, rfl, t, _, _, _, rfl, rfl, ht5, at_of (j := 1) rfl rfl, _, rfl, in1 _ ⟨_, rfl, ?_⟩⟩
            by_cases z2 : e.2 ∈ row
            · refine iteTT (by simp [z2]) ⟨_, rfl, _, l5.at0, sl_line' (by rw [refs_len]; exact Nat.lt_of_le_of_lt filt_len rl), ?_⟩
              rw [if_pos (by simp [z1, z2]), refs_snoc]
              exact l5.put0
            · exact iteFF (by simp [z2]) (no false rfl (by rw [if_neg (by simp [z2]), if_neg (by decide)]))
          · exact iteFF (by simp [z1]) (no false rfl (by rw [if_neg (by simp [z1]), if_neg (by decide)]))
        · rintro H5 l5
          rw [refs_len, List.take_length] at l5
          have s5 := s3.trans (l4.same.trans l5.same)
          refine ⟨Nat.zero_le _, fun Z hZ => ?_⟩
          have rws : IsRows K (upd H5 Z (.lst [])) D2 ((pcs n (wo web e)).filter fun P => decide (e.1 ∈ P) && decide (e.2 ∈ P)) := ⟨rs.filter fun x => decide (e.1 ∈ x.2) && decide (e.2 ∈ x.2), (vals_filt (fun P => decide (e.1 ∈ P) && decide (e.2 ∈ P)) rs).trans (by rw [er]), (sA hZ).seq (SqL.of l5.at0), fun x hx =>
            (l5.same.trans (sA hZ)).seq (SqL.of (l4.here (x.1, .lst (iv x.2)) (.tail _ (List.mem_map.mpr ⟨_, (List.mem_filter.mp hx).1, rfl⟩))))⟩
          refine ⟨_, dR [], rws.dp, IsRows.dp (rows := []) ⟨[], rfl, SqL.of upd_same, fun _ z => nomatch z⟩, shaped_dR _, shaped_dR _, ?_⟩
          rw [eqv_dR, br_rows hv.1 he]
          have sZ := l3.same.trans (l4.same.trans (l5.same.trans (sA (o := .lst []) hZ)))
          have lR := l.ext sZ
          refine ⟨_, rfl, ?_⟩
          rw [filt_take hq]
          cases eb : brB n web e with
          | true =>
            refine iteTT rfl ⟨_, rfl, .inl ⟨rfl, _, SqL.of lR.at0⟩, _, rfl, R, _, _, rfl, rfl, lR.at0, sl_line' (by rw [refs_len]; exact Nat.lt_of_le_of_lt filt_len (by omega)), ?_⟩
            refine ⟨_, _, rfl, ?_⟩
            rw [if_pos rfl, refs_snoc]
            exact lR.put0
          | false =>
            refine iteFF rfl ⟨_, _, rfl, ?_⟩
            rw [if_neg (by decide), List.append_nil]
            exact lR
    · rintro σ H2 ⟨y3, y4, rfl, l⟩
      rw [refs_len, List.take_length] at l
      exact ⟨_, rfl, q H2 R _ ((vals_filt (brB n web) ts).trans (by rw [ets]; rfl)) (fun x hx => Same.sqT l.same (htt x (List.mem_filter.mp hx).1)) l⟩
def sp_bridges (K : PySem.W.Frag) : Sp := fun vs H Q _ => ∃ (n : Nat) (a : Addr) (web : List (Int × Int)), vs = [.int n, .ref a] ∧ 1 ≤ n ∧ n ≤ 16 ∧ web.length ≤ 1000 ∧ ValidW n web ∧ IsPairs K H a web ∧
  ∀ H' p (us : List (Addr × Int × Int)), vals us = brsL n web → (∀ x ∈ us, SqT K H' x.1 [.int x.2.1, .int x.2.2]) → Loc H H' [(p, .lst (refs us))] → Q (.ref p) H'
theorem ok_bridges {f : Addr} {fd : FuncData} {k : Nat} (F : Fun K "bridges" "bridges" s_bridges f fd)
    (c_check_web : CalG P w K mg base k "check_web" s_check_web ["cells", "web"] (sp_check_web K)) (c_bridges_of : CalG P w K mg base k "bridges_of" s_bridges_of ["cells", "web"] (sp_bridges_of K)) : FG P w K mg base CX0 (k + 1) f fd ["cells", "web"] (sp_bridges K) := by
  refine fg_fun F sc_bridges (fun vs H Q E h => ?_) (fun cdv A out s H vs Q E hr hg h => ?_)
  · obtain ⟨_, _, _, rfl, _⟩ := h
    rfl
  · obtain ⟨n, a, web, rfl, n1, n2, wl, hv, hp, q⟩ := h
    refine ⟨_, (pss_cons (ps_expr (pe_cG c_check_web hr (by omega) hg (by rfl) (pa_cons (pv 0) (pa_cons (pv 1) pa_nil))))
      (pss_one (ps_ret (pe_cG c_bridges_of hr (by omega) hg (by rfl) (pa_cons (pv 0) (pa_cons (pv 1) pa_nil)))))), ?_⟩
    exact ⟨_, rfl, _, rfl, n, a, web, rfl, n1, n2, hv, hp, fun H1 s1 => ⟨_, rfl, _, rfl, n, a, web, rfl, n2, wl, hv, hp.grow s1, fun H' p us e1 e2 l => q H' p us e1 e2 ((Loc.of s1).call l)⟩⟩
end

abbrev s__law_pieces : Stmt := topS 27
theorem sc__law_pieces : FnScope ["_law_size", "_law_some", "_law_marks", "_law_one", "_law_two", "_law_told", "_law_k", "_law_piece", "_law_mark", "_law_other"] ["_law_size", "_law_some"] (defScope s__law_pieces) := ⟨rfl, rfl, rfl, by decide +kernel, rfl, by decide +kernel, by decide +kernel⟩
theorem marks_start (n : Nat) : rgV 0 ((n : Int) + 1) = iv (marks n []) := by
  unfold rgV iv marks
  rw [List.foldl_nil, List.map_map]
  have e : ((n : Int) + 1 - 0).toNat = n + 1 := by omega
  rw [e]
  refine List.map_congr_left fun i _ => ?_
  show V.int (0 + (i : Nat)) = V.int i
  rw [Int.zero_add]
theorem mark_get {m : List Int} {k : Int} (h0 : 0 ≤ k) (hk : k.toNat < m.length) : (iv m)[k.toNat]? = some (.int (markAt m k)) := by
  refine iv_get ?_
  unfold markAt
  rw [List.getD_eq_getElem?_getD, List.getElem?_eq_getElem hk]
  rfl
section
variable {P : Program} {w : World} {K : PySem.W.Frag} {mg : Str → Option Value} {base : Heap}
def sp__law_pieces (K : PySem.W.Frag) : Sp := fun vs H Q _ => ∃ (n : Nat) (a : Addr) (web : List (Int × Int)), vs = [.int n, .ref a] ∧ n ≤ 16 ∧ ValidL n web ∧ IsPairs K H a web ∧ ∀ H' p, Same H H' → IsRows K H' p (pcs n web) → Q (.ref p) H'
theorem ok__law_pieces {f : Addr} {fd : FuncData} {k : Nat} (F : Fun K "_law_pieces" "_law_pieces" s__law_pieces f fd) (z_list : mg "list" = none) (z_range : mg "range" = none) (z_int : mg "int" = none) : FG P w K mg base CX0 (k + 1) f fd ["_law_size", "_law_some"] (sp__law_pieces K) := by
  refine fg_fun F sc__law_pieces (fun vs H Q E h => ?_) (fun cdv A out s H vs Q E hr hg h => ?_)
  · obtain ⟨n, a, web, rfl, _⟩ := h
    rfl
  · obtain ⟨n, a, web, rfl, hn, hv, hp, q⟩ := h
    refine ⟨_, (pss_cons (ps_set (i := 2) sc__law_pieces.nd rfl (.inr rfl) (pe_listRg rfl (by rfl) z_list (prg_1 (by rfl) z_range (pe_op op_add (pv 0) pe_int))))
      (pss_cons (ps_for PassesOwn.never rfl (pi_listK K rfl (pv 1)) (pg_tupK K rfl rfl (pgs_cons (pg_name (i := 3) sc__law_pieces.nd rfl (.inr rfl)) (pgs_cons (pg_name (i := 4) sc__law_pieces.nd rfl (.inr rfl)) pgs_nil)))
        (pss_one (ps_set (i := 2) sc__law_pieces.nd rfl (.inr rfl) (pe_lc (own := [("_law_mark", 8)]) (tt := tYes) rfl sc__law_pieces.nd (pi_listK K rfl (pv 2)) (blkOk_by (N := ["_law_size", "_law_some", "_law_marks", "_law_one", "_law_two", "_law_told", "_law_k", "_law_piece", "_law_mark", "_law_other"]) (sc := defScope s__law_pieces) (by decide +kernel)) (fun _ _ _ _ _ => (pg_name (i := 8) sc__law_pieces.nd rfl (Or.inl rfl))) (fun _ _ _ _ _ => pts_nil) (fun _ _ _ _ _ => (pe_ifExp (pt_cmpR op_eq (pv 8) (pe_ix (ix_listK K rfl) (pv 2) (pv 4) (fun _ _ => rfl)) (nomark _)) (pe_ix (ix_listK K rfl) (pv 2) (pv 3) (fun _ _ => rfl)) (pv 8)))))))
      (pss_cons (ps_set (i := 5) sc__law_pieces.nd rfl (.inl rfl) (pe_lst pa_nil))
      (pss_cons (ps_for PassesOwn.never rfl (pi_range2 (by rfl) z_range (pa_cons pe_int (pa_cons (pe_op op_add (pv 0) pe_int) pa_nil))) (pg_name (i := 6) sc__law_pieces.nd rfl (.inr rfl))
        (pss_cons (ps_setLc (i := 7) (own := [("_law_other", 9)]) rfl sc__law_pieces.nd rfl rfl (sw_true rfl rfl rfl (by decide +kernel)) (pi_range2 (by rfl) z_range (pa_cons pe_int (pa_cons (pe_op op_add (pv 0) pe_int) pa_nil))) (blkOk_by (N := ["_law_size", "_law_some", "_law_marks", "_law_one", "_law_two", "_law_told", "_law_k", "_law_piece", "_law_mark", "_law_other"]) (sc := defScope s__law_pieces) (by decide +kernel)) (fun _ _ _ _ _ => (pg_name (i := 9) sc__law_pieces.nd rfl (Or.inl rfl))) (fun _ _ _ _ _ => (pts_one (pt_cmpR op_eq (pe_ix (ix_listK K rfl) (pv 2) (pv 9) (fun _ _ => rfl)) (pe_ix (ix_listK K rfl) (pv 2) (pv 6) (fun _ _ => rfl)) (nomark _)))) (fun _ _ _ _ _ => (pv 9)))
          (pss_one (ps_set (i := 5) sc__law_pieces.nd rfl (.inl rfl) (pe_op op_cat (pv 5) (pe_op op_rep (pe_lst (pa_cons (pv 7) pa_nil)) (pe_callTy call_int1 (by rfl) z_int bt_int (pa_cons (pe_cmpR op_eq (pe_ix (ix_listK K rfl) (pv 7) pe_int (fun _ _ => rfl)) (pv 6) (nomark _)) pa_nil))))))))
      (pss_one (ps_ret (pv 5))))))), ?_⟩
    refine ⟨_, rfl, _, _, rfl, rfl, _, rfl, RgOk.of_le (by omega) (by omega) (by omega) (by omega), fun mk hmk => ?_⟩
    obtain ⟨ts, ets, hts, htt⟩ := hp
    have l0 := (Loc.refl H).alloc (o := .lst (iv (marks n []))) hmk
    rw [marks_start]
    refine ⟨_, rfl, a, rfl, ⟨_, l0.same.seq hts⟩, for_list (K := K) (a := a) (xs := refs ts)
      (fun i σ H2 => ∃ (p : Addr) (y3 y4 : Option V), σ = [some (.int n), some (.ref a), some (.ref p), y3, y4, none, none, none, none, none] ∧ Loc H H2 [(p, .lst (iv (marks n (web.take i))))]) ?_ ?_ ?_ ?_⟩
    · exact ⟨mk, none, none, rfl, l0⟩
    · rintro i σ H2 _ ⟨_, _, _, _, l⟩
      exact l.same.seq hts
    · rintro i x σ H2 hx ⟨p, y3, y4, rfl, l⟩
      obtain ⟨⟨b, x1, x2⟩, hq, rfl⟩ := refs_inv hx
      have hT := Same.sqT l.same (htt _ (List.mem_of_getElem? hq))
      have hwi : web[i]? = some (x1, x2) := by
        rw [← ets]; unfold vals; rw [List.getElem?_map, hq]; rfl
      obtain ⟨v1, v2, v3⟩ := hv _ (List.mem_of_getElem? hwi)
      simp only at v1 v2 v3
      have ln := marks_len n (web.take i)
      refine ⟨b, _, rfl, hT, rfl, _, _, rfl, _, _, rfl, rfl, ?_⟩
      refine ⟨_, rfl, p, rfl, ⟨_, SqL.of l.at0⟩, fun D hD => lc_list (K := K) (a := p) (xs := iv (marks n (web.take i)))
        (fun j H3 => Loc H H3 [(D, .lst (iv ((markStep (marks n (web.take i)) (x1, x2)).take j))), (p, .lst (iv (marks n (web.take i))))]) (l.alloc hD) (fun j H3 _ l3 => SqL.of (l3.atIx (i := 1) rfl)) ?_ ?_⟩
      · intro j z H3 hz l3
        obtain ⟨y, hy, rfl⟩ := iv_inv hz
        have at1 := SqL.of (K := K) (l3.atIx (i := 1) rfl)
        have hj : j < (marks n (web.take i)).length := (List.getElem?_eq_some_iff.mp hy).1
        have g2 := mark_get (m := marks n (web.take i)) (k := x2) (by omega) (by omega)
        have g1 := mark_get (m := marks n (web.take i)) (k := x1) (by omega) (by omega)
        have nx : (markStep (marks n (web.take i)) (x1, x2))[j]? = some (if y = markAt (marks n (web.take i)) x2 then markAt (marks n (web.take i)) x1 else y) := by
          unfold markStep
          rw [List.getElem?_map, hy]
          rfl
        have fin : ∀ z : Int, z = (if y = markAt (marks n (web.take i)) x2 then markAt (marks n (web.take i)) x1 else y) → Loc H (upd H3 D (.lst (iv ((markStep (marks n (web.take i)) (x1, x2)).take j) ++ [.int z])))
            [(D, .lst (iv ((markStep (marks n (web.take i)) (x1, x2)).take (j + 1)))), (p, .lst (iv (marks n (web.take i))))] := fun z ez => by
          rw [take_snoc nx, iv_snoc, ← ez]
          exact l3.put0
        have sm : (iv ((markStep (marks n (web.take i)) (x1, x2)).take j)).length < sizeLine := sl_line' (by
          have := List.length_take_le j (markStep (marks n (web.take i)) (x1, x2))
          rw [iv_len]
          omega)
        refine ⟨rfl, _, rfl, _, rfl, _, rfl, p, _, _, _, rfl, rfl, at1, at_of (j := x2.toNat) (by show x2 = ((x2.toNat : Nat) : Int); omega) g2, rfl, _, rfl, ?_⟩
        rw [dVI]
        refine ite2 (fun hb => ?_) (fun hb => ?_)
        · exact ⟨_, rfl, _, rfl, p, _, _, _, rfl, rfl, at1, at_of (j := x1.toNat) (by show x1 = ((x1.toNat : Nat) : Int); omega) g1, _, l3.at0, sm, fin _ (by rw [if_pos (of_decide_eq_true hb)])⟩
        · exact ⟨_, rfl, _, l3.at0, sm, fin _ (by rw [if_neg (fun z => hb (decide_eq_true z))])⟩
      · intro H3 l3
        have e : (markStep (marks n (web.take i)) (x1, x2)).take (iv (marks n (web.take i))).length = marks n (web.take (i + 1)) := by
          rw [take_snoc hwi, marks_snoc, iv_len, List.take_of_length_le (by unfold markStep; rw [List.length_map]; exact Nat.le_refl _)]
        rw [e] at l3
        exact ⟨D, _, _, rfl, l3.keep (List.Sublist.cons_cons _ (List.nil_sublist _))⟩
    · rintro σ H2 ⟨p, y3, y4, rfl, l⟩
      have full : web.take (refs ts).length = web := by
        rw [refs_len, ← vals_len ts, ets, List.take_length]
      rw [full] at l
      have ln := marks_len n web
      refine ⟨by decide, fun t ht => ?_⟩
      refine ⟨_, rfl, _, _, rfl, rfl, _, _, rfl, by omega, for_range (lo := 1) (n := ((n : Int) + 1 - 1).toNat)
        (fun i σ H3 => ∃ (u : Addr) (rs : List (Addr × List Int)) (y6 y7 : Option V), σ = [some (.int n), some (.ref a), some (.ref p), y3, y4, some (.ref u), y6, y7, none, none] ∧ vals rs = pcsTo n web i ∧
          Loc H H3 ((u, .lst (refs rs)) :: (p, .lst (iv (marks n web))) :: rowL rs)) ?_ ?_ ?_⟩
      · exact ⟨t, [], none, none, rfl, rfl, l.alloc ht⟩
      · rintro i σ H3 hi ⟨u, rs, y6, y7, rfl, er, l3⟩
        have ci : 1 ≤ (1 : Int) + i ∧ (1 : Int) + i ≤ n := by omega
        have ec : (i : Int) + 1 = 1 + i := by omega
        have gk := mark_get (m := marks n web) (k := 1 + i) (by omega) (by omega)
        have rl : rs.length ≤ n := by
          have e1 := congrArg List.length er
          rw [vals_len] at e1
          rw [e1]
          unfold pcsTo
          rw [List.length_map]
          refine Nat.le_trans (List.length_filter_le _ _) ?_
          rw [cellsTo_len]
          omega
        refine ⟨_, rfl, _, _, rfl, rfl, _, _, rfl, by omega, fun D hD => lc_range (lo := 1) (n := ((n : Int) + 1 - 1).toNat)
          (fun j H4 => Loc H H4 ((D, .lst (iv ((cellsTo j).filter fun c => decide (markAt (marks n web) c = markAt (marks n web) (1 + i))))) :: (u, .lst (refs rs)) :: (p, .lst (iv (marks n web))) :: rowL rs)) (l3.alloc hD) ?_ ?_⟩
        · intro j H4 hj l4
          have at2 := SqL.of (K := K) (l4.atIx (i := 2) rfl)
          have gj := mark_get (m := marks n web) (k := 1 + j) (by omega) (by omega)
          have ej : (j : Int) + 1 = 1 + j := by omega
          refine ⟨rfl, _, rfl, _, rfl, p, _, _, _, rfl, rfl, at2, at_of (j := (1 + (j : Int)).toNat) (by omega) gj, _, rfl, _, rfl, p, _, _, _, rfl, rfl, at2, at_of (j := (1 + (i : Int)).toNat) (by omega) gk, rfl, _, rfl, ?_⟩
          rw [dVI]
          refine ite2 (fun hb => ?_) (fun hb => ?_)
          · have sm : ((cellsTo j).filter fun c => decide (markAt (marks n web) c = markAt (marks n web) (1 + i))).length ≤ j := by
              have := List.length_filter_le (fun c => decide (markAt (marks n web) c = markAt (marks n web) (1 + i))) (cellsTo j)
              rwa [cellsTo_len] at this
            have l5 := l4.put0 (o' := .lst (iv ((cellsTo j).filter fun c => decide (markAt (marks n web) c = markAt (marks n web) (1 + i))) ++ [.int (1 + j)]))
            refine ⟨_, rfl, _, l4.at0, sl_line' (by rw [iv_len]; omega), ?_⟩
            show Loc H _ _
            rw [cellsTo_succ, ej, List.filter_append, List.filter_cons_of_pos (p := fun c => decide (markAt (marks n web) c = markAt (marks n web) (1 + i))) hb, List.filter_nil, iv_snoc]
            exact l5
          · show Loc H _ _
            rw [cellsTo_succ, ej, List.filter_append, List.filter_cons_of_neg (p := fun c => decide (markAt (marks n web) c = markAt (marks n web) (1 + i))) hb, List.filter_nil, List.append_nil]
            exact l4
        · intro H4 l4
          have e1 : ((n : Int) + 1 - 1).toNat = n := by omega
          rw [e1] at l4
          have l4 : Loc H H4 ((D, .lst (iv (comp n web (1 + i)))) :: (u, .lst (refs rs)) :: (p, .lst (iv (marks n web))) :: rowL rs) := l4
          obtain ⟨c0, cr, hc⟩ : ∃ c0 cr, comp n web (1 + (i : Int)) = c0 :: cr := by
            have := (mem_comp hv ci).mpr Conn.refl
            cases e : comp n web (1 + (i : Int)) with
            | nil => rw [e] at this; cases this
            | cons c0 cr => exact ⟨c0, cr, rfl⟩
          have hle : isLeast n web (1 + (i : Int)) = decide (c0 = 1 + i) := by
            unfold isLeast
            rw [hc]
            simp [Bool.beq_eq_decide_eq]
          have g0 : (iv (comp n web (1 + (i : Int))))[0]? = some (.int c0) := by rw [hc]; rfl
          refine ⟨_, rfl, _, rfl, sl1, fun e he => ?_⟩
          have l5 := l4.alloc (o := .lst [.ref D]) he
          refine ⟨_, rfl, _, _, _, _, rfl, rfl, SqL.of (l5.atIx (i := 1) rfl), at_of (j := 0) rfl g0, _, rfl, rfl, .inr ⟨_, rfl, e, _, _, rfl, rfl, l5.atIx (i := 0) rfl, ?_, ?_, ?_, fun rp hrp => ?_⟩⟩
          · split <;> omega
          · split <;> omega
          · split <;> exact Nat.le_of_lt (sl_line' (by simp))
          have l6 := l5.alloc (o := .lst (List.replicate (if decide (V.int c0 = V.int (1 + (i : Int))) = true then (1 : Int) else 0).toNat [V.ref D]).flatten) hrp
          refine ⟨u, rp, refs rs, _, rfl, rfl, l6.atIx (i := 3) rfl, l6.atIx (i := 0) rfl, ?_, fun u2 hu2 => ?_⟩
          · rw [refs_len]
            split <;> exact Nat.le_of_lt (sl_line' (by simp; omega))
          have l7 := l6.alloc (o := .lst (refs rs ++ (List.replicate (if decide (V.int c0 = V.int (1 + (i : Int))) = true then (1 : Int) else 0).toNat [V.ref D]).flatten)) hu2
          rw [dVI, ← hle] at l7 ⊢
          by_cases hlst : isLeast n web (1 + (i : Int)) = true
          · have en : refs rs ++ (List.replicate (if isLeast n web (1 + (i : Int)) = true then (1 : Int) else 0).toNat [V.ref D]).flatten = refs rs ++ [.ref D] := by simp [hlst]
            rw [en] at l7 ⊢
            refine ⟨u2, rs ++ [(D, comp n web (1 + i))], _, _, rfl, ?_, ?_⟩
            · rw [pcsTo_succ hv, ec, if_pos hlst, ← er]
              unfold vals
              rw [List.map_append]
              rfl
            · have e2 : rowL (rs ++ [(D, comp n web (1 + (i : Int)))]) = rowL rs ++ [(D, .lst (iv (comp n web (1 + i))))] := List.map_append ..
              rw [e2, refs_snoc]
              have l8 := l7.keep (M := (u2, .lst (refs rs ++ [.ref D])) :: (D, .lst (iv (comp n web (1 + i)))) :: (p, .lst (iv (marks n web))) :: rowL rs) (by
                refine List.Sublist.cons_cons _ (List.Sublist.cons _ (List.Sublist.cons _ (List.Sublist.cons_cons _ (List.sublist_cons_self _ _)))))
              exact l8.perm (M := ((u2, .lst (refs rs ++ [.ref D])) :: (p, .lst (iv (marks n web))) :: rowL rs) ++ [(D, .lst (iv (comp n web (1 + i))))]) (List.Perm.cons _ List.perm_append_comm)
          · have en : refs rs ++ (List.replicate (if isLeast n web (1 + (i : Int)) = true then (1 : Int) else 0).toNat [V.ref D]).flatten = refs rs := by simp [hlst]
            rw [en] at l7 ⊢
            refine ⟨u2, rs, _, _, rfl, ?_, ?_⟩
            · rw [pcsTo_succ hv, ec, if_neg hlst, List.append_nil, er]
            · exact l7.keep (List.Sublist.cons_cons _ (List.Sublist.cons _ (List.Sublist.cons _ (List.Sublist.cons _ (List.sublist_cons_self _ _)))))
      · rintro σ H3 ⟨u, rs, y6, y7, rfl, er, l3⟩
        have e1 : ((n : Int) + 1 - 1).toNat = n := by omega
        rw [e1] at er
        refine ⟨_, rfl, q H3 u l3.same ⟨rs, er, SqL.of l3.at0, fun r hr => SqL.of (l3.here (r.1, .lst (iv r.2)) ?_)⟩⟩
        exact List.mem_cons_of_mem _ (List.mem_cons_of_mem _ (List.mem_map.mpr ⟨r, hr, rfl⟩))
end

abbrev s__law_side : Stmt := topS 31
theorem sc__law_side : FnScope ["_law_size", "_law_some", "_law_pair", "_law_left", "_law_other", "_law_piece"] ["_law_size", "_law_some", "_law_pair"] (defScope s__law_side) := ⟨rfl, rfl, rfl, by decide +kernel, rfl, by decide +kernel, by decide +kernel⟩
abbrev s__law_bridges : Stmt := topS 32
theorem sc__law_bridges : FnScope ["_law_size", "_law_some", "_law_pair"] ["_law_size", "_law_some"] (defScope s__law_bridges) := ⟨rfl, rfl, rfl, by decide +kernel, rfl, by decide +kernel, by decide +kernel⟩
section
variable {P : Program} {w : World} {K : PySem.W.Frag} {mg : Str → Option Value} {base : Heap}
theorem in_row {H : Hp} {r : Addr} {row : List Int} (h : SqL K H r (iv row)) (c : Int) {Q : VK} (q : Q (.bl (decide (c ∈ row))) H) : rIn K false (.int c) (.ref r) H Q :=
  ⟨r, _, rfl, .inl h, rfl, iv_flat _, by rw [if_neg (by decide), inV_iv]; exact q⟩
theorem notin_row {H : Hp} {r : Addr} {row : List Int} (h : SqL K H r (iv row)) (c : Int) {Q : VK} (q : Q (.bl (!decide (c ∈ row))) H) : rIn K true (.int c) (.ref r) H Q :=
  ⟨r, _, rfl, .inl h, rfl, iv_flat _, by rw [if_pos rfl, inV_iv]; exact q⟩
def sp__law_side (K : PySem.W.Frag) : Sp := fun vs H Q _ => ∃ (n : Nat) (a t : Addr) (web : List (Int × Int)) (e : Int × Int), vs = [.int n, .ref a, .ref t] ∧ n ≤ 16 ∧ web.length ≤ 1000 ∧ ValidW n web ∧ IsPairs K H a web ∧ e ∈ web ∧ SqT K H t [.int e.1, .int e.2] ∧
  ∀ H' p, Same H H' → IsInts K H' p (sideL n web e) → Q (.ref p) H'
theorem ok__law_side {f : Addr} {fd : FuncData} {k : Nat} (F : Fun K "_law_side" "_law_side" s__law_side f fd)
    (c__law_pieces : CalG P w K mg base k "_law_pieces" s__law_pieces ["_law_size", "_law_some"] (sp__law_pieces K)) : FG P w K mg base CX0 (k + 1) f fd ["_law_size", "_law_some", "_law_pair"] (sp__law_side K) := by
  refine fg_fun F sc__law_side (fun vs H Q E h => ?_) (fun cdv A out s H vs Q E hr hg h => ?_)
  · obtain ⟨_, _, _, _, _, rfl, _⟩ := h
    rfl
  · have hu64 := hr.units
    obtain ⟨n, a, t, web, e, rfl, n2, wl, hv, hp, hem, hte, q⟩ := h
    refine ⟨_, (pss_cons (ps_setLc (i := 3) (own := [("_law_other", 4)]) rfl sc__law_side.nd rfl rfl (sw_true rfl rfl rfl (by decide +kernel)) (pi_listK K rfl (pv 1)) (blkOk_by (N := ["_law_size", "_law_some", "_law_pair", "_law_left", "_law_other", "_law_piece"]) (sc := defScope s__law_side) (by decide +kernel)) (fun _ _ _ _ _ => (pg_name (i := 4) sc__law_side.nd rfl (Or.inl rfl))) (fun _ _ _ _ _ => (pts_one (pt_cmpR (op_neDK K rfl hu64) (pv 4) (pv 2) (nomark _)))) (fun _ _ _ _ _ => (pv 4)))
      (pss_one (ps_ret (pe_ix (ix_listK K rfl) (pe_lc (own := [("_law_piece", 5)]) rfl sc__law_side.nd (pi_listK K rfl (pe_cG c__law_pieces hr (by omega) hg (by rfl) (pa_cons (pv 0) (pa_cons (pv 3) pa_nil)))) (blkOk_by (N := ["_law_size", "_law_some", "_law_pair", "_law_left", "_law_other", "_law_piece"]) (sc := defScope s__law_side) (by decide +kernel)) (fun _ _ _ _ _ => (pg_name (i := 5) sc__law_side.nd rfl (Or.inl rfl))) (fun _ _ _ _ _ => (pts_one (pt_cmpR (op_in_seqK K rfl) (pe_ix (ix_tupK K rfl) (pv 2) pe_int (fun _ _ => rfl)) (pv 5) (by rfl)))) (fun _ _ _ _ _ => (pv 5))) pe_int (fun _ _ => rfl))))), ?_⟩
    obtain ⟨ts, ets, hts, htt⟩ := hp
    have tsl : ts.length = web.length := by rw [← vals_len ts, ets]
    have he := hv.1 e hem
    refine ⟨_, rfl, a, rfl, ⟨_, hts⟩, fun D hD => lc_list (K := K) (a := a) (xs := refs ts) (fun j H3 => Loc H H3 [(D, .lst (refs ((ts.take j).filter fun x => decide (x.2 ≠ e))))]) ((Loc.refl H).alloc hD) (fun j H3 _ l3 => l3.same.seq hts) ?_ ?_⟩
    · rintro j x H3 hx l3
      obtain ⟨⟨t', e'⟩, hq', rfl⟩ := refs_inv hx
      have s3 := l3.same
      refine ⟨rfl, _, rfl, _, rfl, dE e', dE e, pair_dp (Same.sqT s3 (htt _ (List.mem_of_getElem? hq'))), pair_dp (Same.sqT s3 hte), shaped_dE _, shaped_dE _, ?_⟩
      rw [eqv_dE]
      refine ⟨_, rfl, ?_⟩
      rw [filt_take hq']
      by_cases z : e' = e
      · refine iteFF (by simp [z]) ?_
        rw [if_neg (by simp [z]), List.append_nil]
        exact l3
      · refine iteTT (by simp [z]) ⟨_, rfl, _, l3.at0, sl_line' (by rw [refs_len]; exact Nat.lt_of_le_of_lt filt_len (by omega)), ?_⟩
        rw [if_pos (by simp [z]), refs_snoc]
        exact l3.put0
    · rintro H3 l3
      rw [refs_len, List.take_length] at l3
      have s3 := l3.same
      have pl : IsPairs K H3 D (wo web e) := ⟨ts.filter fun x => decide (x.2 ≠ e), (vals_filt (fun f => decide (f ≠ e)) ts).trans (by rw [ets]; rfl), SqL.of l3.at0, fun x hx => Same.sqT s3 (htt x (List.mem_filter.mp hx).1)⟩
      refine ⟨_, rfl, _, rfl, n, D, _, rfl, n2, (wo_validW hv).1, pl, fun H4 p s4 hrows => ?_⟩
      obtain ⟨rs, er, hrs, hrr⟩ := hrows
      have rl : rs.length < 100000 := by
        rw [← vals_len rs, er, cnt_pcs]
        unfold cnt
        exact Nat.lt_of_le_of_lt (List.length_filter_le _ _) (by rw [cellsTo_len]; omega)
      refine ⟨p, rfl, ⟨_, hrs⟩, fun D2 hD2 => lc_list (K := K) (a := p) (xs := refs rs)
          (fun j H5 => Loc H4 H5 [(D2, .lst (refs ((rs.take j).filter fun x => decide (e.1 ∈ x.2))))]) ((Loc.refl H4).alloc hD2) (fun j H5 _ l5 => l5.same.seq hrs) ?_ ?_⟩
      · rintro j x H5 hx l5
        obtain ⟨⟨r, row⟩, hq', rfl⟩ := refs_inv hx
        have hr5 := l5.same.seq (hrr _ (List.mem_of_getElem? hq'))
        have ht5 := Same.sqT (s3.trans (s4.trans l5.same)) hte
        refine ⟨rfl, _, rfl, t, _, _, _, rfl, rfl, ht5, at_of (j := 0) rfl rfl, _, rfl, in_row hr5 _ ⟨_, rfl, ?_⟩⟩
        rw [filt_take hq']
        by_cases z1 : e.1 ∈ row
        · refine iteTT (by simp [z1]) ⟨_, rfl, _, l5.at0, sl_line' (by rw [refs_len]; exact Nat.lt_of_le_of_lt filt_len rl), ?_⟩
          rw [if_pos (by simp [z1]), refs_snoc]
          exact l5.put0
        · refine iteFF (by simp [z1]) ?_
          rw [if_neg (by simp [z1]), List.append_nil]
          exact l5
      · rintro H5 l5
        rw [refs_len, List.take_length] at l5
        have ef : vals (rs.filter fun x => decide (e.1 ∈ x.2)) = [sideL n web e] := (vals_filt (fun P => decide (e.1 ∈ P)) rs).trans (by rw [er]; exact pcs_has (wo_validW hv).1 (by omega))
        obtain ⟨⟨r, row⟩, e1⟩ : ∃ x, (rs.filter fun x => decide (e.1 ∈ x.2)) = [x] := by
          cases hf : rs.filter fun x => decide (e.1 ∈ x.2) with
          | nil => rw [hf] at ef; exact absurd (congrArg List.length ef) (by simp [vals])
          | cons x y =>
            rw [hf] at ef
            cases y with
            | nil => exact ⟨x, rfl⟩
            | cons z u => exact absurd (congrArg List.length ef) (by simp [vals])
        rw [e1] at ef l5
        have e2 : row = sideL n web e := List.singleton_inj.mp ef
        have hm : (r, row) ∈ rs := (List.mem_filter.mp (by rw [e1]; exact List.mem_singleton.mpr rfl)).1
        refine ⟨D2, _, _, _, rfl, rfl, SqL.of l5.at0, at_of (j := 0) rfl rfl, ?_⟩
        exact q H5 r (s3.trans (s4.trans l5.same)) (by rw [← e2]; exact l5.same.seq (hrr _ hm))
def sp__law_bridges (K : PySem.W.Frag) : Sp := fun vs H Q _ => ∃ (n : Nat) (a : Addr) (web : List (Int × Int)), vs = [.int n, .ref a] ∧ n ≤ 16 ∧ web.length ≤ 1000 ∧ ValidW n web ∧ IsPairs K H a web ∧
  ∀ H' p, Same H H' → IsPairs K H' p (brsL n web) → Q (.ref p) H'
theorem ok__law_bridges {f : Addr} {fd : FuncData} {k : Nat} (F : Fun K "_law_bridges" "_law_bridges" s__law_bridges f fd)
    (c__law_side : CalG P w K mg base k "_law_side" s__law_side ["_law_size", "_law_some", "_law_pair"] (sp__law_side K)) : FG P w K mg base CX0 (k + 1) f fd ["_law_size", "_law_some"] (sp__law_bridges K) := by
  refine fg_fun F sc__law_bridges (fun vs H Q E h => ?_) (fun cdv A out s H vs Q E hr hg h => ?_)
  · obtain ⟨_, _, _, rfl, _⟩ := h
    rfl
  · have hu64 := hr.units
    obtain ⟨n, a, web, rfl, n2, wl, hv, hp, q⟩ := h
    refine ⟨_, (pss_one (ps_ret (pe_lc (own := [("_law_pair", 2)]) rfl sc__law_bridges.nd (pi_listK K rfl (pv 1)) (blkOk_by (N := ["_law_size", "_law_some", "_law_pair"]) (sc := defScope s__law_bridges) (by decide +kernel)) (fun _ _ _ _ _ => (pg_name (i := 2) sc__law_bridges.nd rfl (Or.inl rfl))) (fun _ _ _ _ _ => (pts_one (pt_cmpR (op_notIn_seqK K rfl) (pe_ix (ix_tupK K rfl) (pv 2) pe_int (fun _ _ => rfl)) (pe_cG c__law_side hr (by omega) hg (by rfl) (pa_cons (pv 0) (pa_cons (pv 1) (pa_cons (pv 2) pa_nil)))) (by rfl)))) (fun _ _ _ _ _ => (pv 2))))), ?_⟩
    have hp0 := hp
    obtain ⟨ts, ets, hts, htt⟩ := hp
    have tsl : ts.length = web.length := by rw [← vals_len ts, ets]
    refine ⟨_, rfl, a, rfl, ⟨_, hts⟩, fun D hD => lc_list (K := K) (a := a) (xs := refs ts) (fun j H3 => Loc H H3 [(D, .lst (refs ((ts.take j).filter fun x => brB n web x.2)))]) ((Loc.refl H).alloc hD) (fun j H3 _ l3 => l3.same.seq hts) ?_ ?_⟩
    · rintro j x H3 hx l3
      obtain ⟨⟨t, e⟩, hq', rfl⟩ := refs_inv hx
      have hem : e ∈ web := by rw [← ets]; exact List.mem_map.mpr ⟨_, List.mem_of_getElem? hq', rfl⟩
      have hte := Same.sqT l3.same (htt _ (List.mem_of_getElem? hq'))
      refine ⟨rfl, _, rfl, t, _, _, _, rfl, rfl, hte, at_of (j := 1) rfl rfl, _, rfl, _, rfl, _, rfl, n, a, t, web, e, rfl, n2, wl, hv, hp0.grow l3.same, hem, hte, fun H4 p s4 hside => notin_row hside _ ⟨_, rfl, ?_⟩⟩
      have l4 := l3.ext s4
      rw [filt_take hq']
      show if brB n web e = true then _ else _
      cases eb : brB n web e with
      | true =>
        refine iteTT rfl ⟨_, rfl, _, l4.at0, sl_line' (by rw [refs_len]; exact Nat.lt_of_le_of_lt filt_len (by omega)), ?_⟩
        rw [if_pos rfl, refs_snoc]
        exact l4.put0
      | false =>
        refine iteFF rfl ?_
        rw [if_neg (by decide), List.append_nil]
        exact l4
    · rintro H3 l3
      rw [refs_len, List.take_length] at l3
      exact q H3 D l3.same ⟨_, (vals_filt (brB n web) ts).trans (by rw [ets]; rfl), SqL.of l3.at0, fun x hx => Same.sqT l3.same (htt x (List.mem_filter.mp hx).1)⟩
end

abbrev s__law_rounds : Stmt := topS 29
theorem sc__law_rounds : FnScope ["_law_told", "_law_some", "_law_k", "_law_ring"] ["_law_told"] (defScope s__law_rounds) := ⟨rfl, rfl, rfl, by decide +kernel, rfl, by decide +kernel, by decide +kernel⟩
section
variable {P : Program} {w : World} {K : PySem.W.Frag} {mg : Str → Option Value} {base : Heap}
def sp__law_rounds (K : PySem.W.Frag) : Sp := fun vs H Q _ => ∃ (a : Addr) (n : Nat) (p : Int → Int), vs = [.ref a] ∧ n ≤ 16 ∧ PermF n p ∧ IsInts K H a (arrL n p) ∧
  ∀ H' t rs, vals rs = roundsF n p → Loc H H' ((t, .lst (refs rs)) :: rowL rs) → Q (.ref t) H'
theorem ok__law_rounds {f : Addr} {fd : FuncData} {k : Nat} (F : Fun K "_law_rounds" "_law_rounds" s__law_rounds f fd) (z_len : mg "len" = none) (z_range : mg "range" = none) (z_min : mg "min" = none) (z_int : mg "int" = none) : FG P w K mg base CX0 (k + 1) f fd ["_law_told"] (sp__law_rounds K) := by
  refine fg_fun F sc__law_rounds (fun vs H Q E h => ?_) (fun cdv A out s H vs Q E hr hg h => ?_)
  · obtain ⟨_, _, _, rfl, _⟩ := h
    rfl
  · obtain ⟨a, n, p, rfl, hn, hp, ha, qq⟩ := h
    refine ⟨_, (pss_cons (ps_set (i := 1) sc__law_rounds.nd rfl (.inl rfl) (pe_lst pa_nil))
      (pss_cons (ps_for PassesOwn.never rfl (pi_range2 (by rfl) z_range (pa_cons pe_int (pa_cons (pe_op op_add (pe_callB (call_len_seqK K rfl) (by rfl) z_len bt_len (pa_cons (pv 0) pa_nil)) pe_int) pa_nil))) (pg_name (i := 2) sc__law_rounds.nd rfl (.inl rfl))
        (pss_cons (ps_set (i := 3) sc__law_rounds.nd rfl (.inl rfl) (pe_lst (pa_cons (pv 2) pa_nil)))
          (pss_cons (ps_while PassesOwn.never (pt_cmpR op_ne (pe_ix (ix_listK K rfl) (pv 0) (pe_op op_sub (pe_ix (ix_listK K rfl) (pv 3) (pe_un un_neg pe_int) (fun _ _ => rfl)) pe_int) (fun _ _ => rfl)) (pv 2) (nomark _))
            (pss_one (ps_expr (pe_bmK K rfl PySem.F.plainAttrs_list PySem.F.slot_list_append PySem.F.type_list_append mt_append (pv 3) (pa_cons (pe_ix (ix_listK K rfl) (pv 0) (pe_op op_sub (pe_ix (ix_listK K rfl) (pv 3) (pe_un un_neg pe_int) (fun _ _ => rfl)) pe_int) (fun _ _ => rfl)) pa_nil)))))
          (pss_one (ps_set (i := 1) sc__law_rounds.nd rfl (.inl rfl) (pe_op op_cat (pv 1) (pe_op op_rep (pe_lst (pa_cons (pv 3) pa_nil)) (pe_callTy call_int1 (by rfl) z_int bt_int (pa_cons (pe_cmpR op_eq (pe_callB (cr_minK K rfl rfl) (by rfl) z_min bt_min (pa_cons (pv 3) pa_nil)) (pv 2) (nomark _)) pa_nil)))))))))
      (pss_one (ps_ret (pv 1))))), ?_⟩
    have hl : (iv (arrL n p)).length = n := by rw [iv_len, arrL_len]
    refine ⟨by decide, fun t0 ht0 => ⟨_, rfl, a, _, rfl, .inl ((sA ht0).seq ha), _, _, rfl, rfl, _, _, rfl, ⟨by omega, by omega, by omega, by omega⟩, for_range (lo := 1) (n := (((iv (arrL n p)).length : Int) + 1 - 1).toNat)
      (fun i σ H2 => ∃ (t : Addr) (y2 y3 : Option V) (rs : List (Addr × List Int)), σ = [some (.ref a), some (.ref t), y2, y3] ∧ vals rs = ((cellsTo i).filter (lead n p)).map (ring n p) ∧ rs.length ≤ i ∧ Loc H H2 ((t, .lst (refs rs)) :: rowL rs)) ?_ ?_ ?_⟩⟩
    · exact ⟨t0, none, none, [], rfl, rfl, Nat.le_refl _, (Loc.refl H).alloc ht0⟩
    · rintro i σ H2 hi ⟨t, y2, y3, rs, rfl, ev, rl, l⟩
      have hi' : i < n := by omega
      have hc : (1 : Int) ≤ 1 + i ∧ (1 : Int) + i ≤ n := by omega
      obtain ⟨M, M1, M2, M3, M4, Me⟩ := hp.ring_eq hc
      refine ⟨_, rfl, sl1, fun r hr => ?_⟩
      have l0 := l.alloc (o := .lst (iv (tab 1 fun j => it p j (1 + i)))) hr
      refine ⟨fun m σ H3 => ∃ (k : Nat), σ = [some (.ref a), some (.ref t), some (.int (1 + i)), some (.ref r)] ∧ k < M ∧ m = M - k ∧ Loc H H3 ((r, .lst (iv (tab (k + 1) fun j => it p j (1 + i)))) :: (t, .lst (refs rs)) :: rowL rs),
        ⟨_, 0, rfl, by omega, rfl, l0⟩, ?_⟩
      rintro m σ H3 ⟨k, rfl, hk, rfl, l1⟩
      have wn : (tab (k + 1) fun j => it p j (1 + i)) ≠ [] := fun z => by have := congrArg List.length z; rw [tab_len] at this; cases this
      have wl := at_lastI wn
      rw [tab_succ, last_snoc, ← tab_succ] at wl
      have ik := hp.it_in hc k
      have ha3 := l1.same.seq ha
      refine ⟨_, rfl, _, rfl, _, rfl, r, _, _, _, rfl, rfl, SqL.of l1.at0, wl, _, _, rfl, rfl, a, _, _, _, rfl, rfl, ha3, at_of (j := (it p k (1 + i) - 1).toNat) (by omega) (iv_get (arrL_get ik)), _, rfl, rfl, _, rfl, ite2 (fun hb => ?_) (fun hb => ?_)⟩
      · have ne : it p (k + 1) (1 + i) ≠ 1 + i := by
          show p (it p k (1 + i)) ≠ 1 + i
          simpa using hb
        have hk2 : k + 1 < M := by
          rcases Nat.lt_or_ge (k + 1) M with h | h
          · exact h
          · exact absurd (by have : k + 1 = M := by omega
                             rw [this]; exact M3) ne
        refine ⟨fun σ' H' => ∃ m', m' < M - k ∧ _, fun _ _ z => z, ?_⟩
        refine ⟨_, rfl, .inl ⟨rfl, _, SqL.of l1.at0⟩, _, rfl, _, rfl, _, rfl, r, _, _, _, rfl, rfl, SqL.of l1.at0, wl, _, _, rfl, rfl, a, _, _, _, rfl, rfl, ha3, at_of (j := (it p k (1 + i) - 1).toNat) (by omega) (iv_get (arrL_get ik)), r, _, _, rfl, rfl, l1.at0, ?_, ?_⟩
        · rw [iv_len, tab_len]; exact sl_line' (by omega)
        refine ⟨M - (k + 1), by omega, k + 1, rfl, hk2, rfl, ?_⟩
        have e1 : iv (tab (k + 1 + 1) fun j => it p j (1 + i)) = iv (tab (k + 1) fun j => it p j (1 + i)) ++ [.int (p (it p k (1 + i)))] := by
          rw [tab_succ, iv_snoc]
          rfl
        rw [e1]
        exact l1.put0
      · have eq : it p (k + 1) (1 + i) = 1 + i := by
          show p (it p k (1 + i)) = 1 + i
          simpa using hb
        have hk2 : k + 1 = M := by
          rcases Nat.lt_or_ge (k + 1) M with h | h
          · exact absurd eq (M4 (k + 1) (by omega) h)
          · omega
        have er : (tab (k + 1) fun j => it p j (1 + i)) = ring n p (1 + i) := by rw [Me, hk2]; rfl
        rw [er] at l1
        have rne := (hp.ring_len hc).1
        have ec : (1 : Int) + i = (i : Int) + 1 := by omega
        refine ⟨_, rfl, _, rfl, sl1, fun e he => ?_⟩
        have l2 := l1.alloc (o := .lst [.ref r]) he
        refine ⟨_, rfl, r, ring n p (1 + i), rfl, SqL.of (l2.atIx (i := 1) rfl), by omega, fun mn hmn hle => ⟨_, rfl, rfl, .inr ⟨_, rfl, ?_⟩⟩⟩
        have ld : (decide (V.int mn = V.int (1 + i)) = true) ↔ lead n p (i + 1) = true := by
          rw [← ec]
          unfold lead
          rw [List.all_eq_true, decide_eq_true_eq]
          constructor
          · intro h x hx
            have := hle x hx
            have : mn = 1 + i := by simpa using h
            exact decide_eq_true (by omega)
          · intro h
            have h1 := of_decide_eq_true (h mn hmn)
            have h2 := hle (1 + i) ((hp.mem_ring' hc).mpr Rnd.refl)
            have : mn = 1 + i := by omega
            rw [this]
        by_cases hb : lead n p (i + 1) = true
        · refine ⟨e, _, [.ref r], rfl, rfl, l2.at0, by rw [ld.mpr hb]; decide, by rw [ld.mpr hb]; decide, Nat.le_trans (show _ ≤ 1 from by rw [ld.mpr hb]; simp) (by decide), fun g hgn => ?_⟩
          rw [ld.mpr hb]
          have l3 := l2.alloc (o := .lst [.ref r]) hgn
          refine ⟨t, g, refs rs, [.ref r], rfl, rfl, l3.atIx (i := 3) rfl, l3.at0, by rw [refs_len]; exact Nat.le_of_lt (sl_line' (by simp; omega)), fun u hu => ?_⟩
          have l4 := l3.alloc (o := .lst (refs rs ++ [.ref r])) hu
          refine ⟨u, _, _, rs ++ [(r, ring n p (1 + i))], rfl, ?_, by simp; omega, ?_⟩
          · rw [roundsTo_snoc, if_pos hb, ← ev, ← ec]
            exact List.map_append
          · have er2 : rowL (rs ++ [(r, ring n p (1 + i))]) = rowL rs ++ [(r, .lst (iv (ring n p (1 + i))))] := List.map_append ..
            rw [refs_snoc, er2]
            have l5 := l4.keep (M := (u, .lst (refs rs ++ [.ref r])) :: (r, .lst (iv (ring n p (1 + i)))) :: rowL rs) (.cons_cons _ (.cons _ (.cons _ (.cons_cons _ (.cons _ (List.Sublist.refl _))))))
            exact l5.perm (List.Perm.cons _ (List.perm_append_comm (l₁ := rowL rs) (l₂ := [(r, .lst (iv (ring n p (1 + i))))])))
        · have hf : decide (V.int mn = V.int (1 + i)) = false := Bool.eq_false_iff.mpr fun z => hb (ld.mp z)
          refine ⟨e, _, [.ref r], rfl, rfl, l2.at0, by rw [hf]; decide, by rw [hf]; decide, Nat.le_trans (show _ ≤ 1 from by rw [hf]; simp) (by decide), fun g hgn => ?_⟩
          rw [hf]
          have l3 := l2.alloc (o := .lst []) hgn
          refine ⟨t, g, refs rs, [], rfl, rfl, l3.atIx (i := 3) rfl, l3.at0, by rw [refs_len]; exact Nat.le_of_lt (sl_line' (by simp; omega)), fun u hu => ?_⟩
          have l4 := l3.alloc (o := .lst (refs rs ++ [])) hu
          refine ⟨u, _, _, rs, rfl, ?_, by omega, ?_⟩
          · rw [roundsTo_snoc, if_neg hb, List.append_nil, ev]
          · rw [List.append_nil] at l4 ⊢
            exact l4.keep (.cons_cons _ (.cons _ (.cons _ (.cons _ (.cons _ (List.Sublist.refl _))))))
    · rintro σ H2 ⟨t, y2, y3, rs, rfl, ev, rl, l⟩
      rw [show (((iv (arrL n p)).length : Int) + 1 - 1).toNat = n by omega] at ev
      exact ⟨_, rfl, qq H2 t rs ev l⟩
end

abbrev s_check_log : Stmt := topS 17
theorem sc_check_log : FnScope ["cells", "log", "index", "exchange"] ["cells", "log"] (defScope s_check_log) := ⟨rfl, rfl, rfl, by decide +kernel, rfl, by decide +kernel, by decide +kernel⟩
section
variable {P : Program} {w : World} {K : PySem.W.Frag} {mg : Str → Option Value} {base : Heap}
/-- right logs -/
def sp_check_log (K : PySem.W.Frag) : Sp := fun vs H Q _ => ∃ (n : Nat) (a : Addr) (log : List (Int × Int)), vs = [.int n, .ref a] ∧ 1 ≤ n ∧ n ≤ 16 ∧ ValidL n log ∧ log.Nodup ∧ IsPairs K H a log ∧ ∀ H', Same H H' → Q .non H'
theorem ok_check_log {f : Addr} {fd : FuncData} {k : Nat} (F : Fun K "check_log" "check_log" s_check_log f fd) (z_list : mg "list" = none) (z_isinstance : mg "isinstance" = none) (z_enumerate : mg "enumerate" = none)
    (c_check_cells : CalG P w K mg base k "check_cells" s_check_cells ["cells"] sp_check_cells) (c_is_exchange : CalG P w K mg base k "is_exchange" s_is_exchange ["thing", "cells"] (sp_is_exchange K)) :
    FG P w K mg base CX0 (k + 1) f fd ["cells", "log"] (sp_check_log K) := by
  refine fg_fun F sc_check_log (fun vs H Q E h => ?_) (fun cdv A out s H vs Q E hr hg h => ?_)
  · obtain ⟨_, _, _, rfl, _⟩ := h
    rfl
  · obtain ⟨n, a, log, rfl, h1, h2, hv, hnd, hp, q⟩ := h
    have hu65 : (A.deeper (envOfC "check_log" (defScope s_check_log) s.heap.objs.size f cdv)).units + 65 < cLine := by have := hr.un; omega
    refine ⟨_, (pss_cons (ps_expr (pe_cG c_check_cells hr (by omega) hg (by rfl) (pa_cons (pv 0) pa_nil)))
      (pss_cons (ps_if (pt_not (pt_val (pe_callB (call_isiK2 K rfl) (by rfl) z_isinstance bt_isinstance (pa_cons (pv 1) (pa_cons (pe_bltn (v := .ty "list") (by rfl) z_list bt_list rfl) pa_nil)))))
        (pss_one ps_never)
        pss_nil)
      (pss_one (ps_for PassesOwn.never rfl (pi_enumK K rfl (by rfl) z_enumerate (pa_cons (pv 1) pa_nil)) (pg_tupK K rfl rfl (pgs_cons (pg_name (i := 2) sc_check_log.nd rfl (.inl rfl)) (pgs_cons (pg_name (i := 3) sc_check_log.nd rfl (.inl rfl)) pgs_nil)))
        (pss_one (ps_if (PW.pt (pw_or (pt_not (pt_val (pe_cG c_is_exchange hr (by omega) hg (by rfl) (pa_cons (pv 3) (pa_cons (pv 0) pa_nil))))) (pw_or1 (pt_cmpR (op_inDK K rfl hu65) (pv 3) (pe_slice (sl_listK K rfl) (pv 1) po_none (po_some (pv 2))) (by rfl)))))
            (pss_one ps_never)
            pss_nil)))))), ?_⟩
    have hp0 := hp
    obtain ⟨ts, ets, hts, htt⟩ := hp
    refine ⟨_, rfl, n, rfl, by omega, by omega, ?_⟩
    refine ⟨_, rfl, ⟨_, _, _, _, _, rfl, .ty _, tyx_list hts, kit_ty kb_ll, _, rfl, iteF ?_⟩⟩
    refine ⟨_, rfl, a, refs ts, rfl, hts, for_enum (K := K) (a := a) (xs := refs ts) (fun i σ H2 => ∃ y2 y3 : Option V, σ = [some (.int n), some (.ref a), y2, y3] ∧ Same H H2) ⟨none, none, rfl, Same.refl H⟩ ?_ ?_ ?_⟩
    · rintro i σ H2 ⟨_, _, _, sm⟩
      exact sm.seq hts
    · rintro i x σ H2 T hx ⟨y2, y3, rfl, sm⟩ hT
      obtain ⟨⟨b, x1, x2⟩, hq, rfl⟩ := refs_inv hx
      have sm2 : Same H (upd H2 T (.tup [.int (i : Nat), .ref b])) := fun c o e => by
        rw [upd_ne (ne_of_none (sm _ _ e) hT)]; exact sm _ _ e
      have hb := Same.sqT sm2 (htt _ (List.mem_of_getElem? hq))
      have hwi : log[i]? = some (x1, x2) := by
        rw [← ets]; unfold vals; rw [List.getElem?_map, hq]; rfl
      have hval := hv _ (List.mem_of_getElem? hwi)
      refine ⟨T, _, rfl, .inl (.inl upd_same), rfl, _, _, rfl, _, _, rfl, rfl, ?_⟩
      refine ⟨_, rfl, _, rfl, b, x1, x2, n, rfl, hb, _, rfl, ?_⟩
      have e : decide (1 ≤ x1 ∧ x1 < x2 ∧ x2 ≤ (n : Int)) = true := decide_eq_true hval
      rw [e]
      refine iteF ⟨_, rfl, _, rfl, _, rfl, _, rfl, a, refs ts, rfl, sm2.seq hts, fun p hp => ?_⟩
      have ec : cutV (refs ts) none (some (i : Int)) = refs (ts.take i) := (cut_to (xs := refs ts) (k := i)).trans List.map_take.symm
      rw [ec]
      have l3 := (Loc.of sm2).alloc (o := .lst (refs (ts.take i))) hp
      have hcut : IsPairs K (upd (upd H2 T (.tup [.int (i : Nat), .ref b])) p (.lst (refs (ts.take i)))) p (log.take i) :=
        ⟨ts.take i, by rw [← ets]; exact List.map_take, SqL.of upd_same, fun t ht => Same.sqT l3.same (htt t (List.mem_of_mem_take ht))⟩
      have hb3 := Same.sqT ((Loc.refl _).alloc (o := .lst (refs (ts.take i))) hp).same hb
      refine ⟨dE (x1, x2), (log.take i).map dE, .tup hb3 (.cons (.int _) (.cons (.int _) .nil)), hcut.dp, shaped_dE _, shaped_dP _, _, rfl, ?_⟩
      rw [any_dE]
      have no : ¬ (x1, x2) ∈ log.take i := by
        intro z
        obtain ⟨j, hj⟩ := List.getElem?_of_mem z
        rw [List.getElem?_take] at hj
        split at hj
        · rename_i hji
          have := nd_ix hnd hj hwi
          omega
        · cases hj
      exact iteFa (by simpa using no) ⟨_, _, rfl, l3.same⟩
    · rintro σ H2 ⟨_, _, _, sm⟩
      exact q H2 sm
end

abbrev s_ways_after : Stmt := topS 18
theorem sc_ways_after : FnScope ["cells", "log", "ways", "things", "first", "second", "cell"] ["cells", "log"] (defScope s_ways_after) := ⟨rfl, rfl, rfl, by decide +kernel, rfl, by decide +kernel, by decide +kernel⟩
abbrev s_ends_after : Stmt := topS 19
theorem sc_ends_after : FnScope ["cells", "log", "way"] ["cells", "log"] (defScope s_ends_after) := ⟨rfl, rfl, rfl, by decide +kernel, rfl, by decide +kernel, by decide +kernel⟩
section
variable {P : Program} {w : World} {K : PySem.W.Frag} {mg : Str → Option Value} {base : Heap}
def sp_ways_after (K : PySem.W.Frag) : Sp := fun vs H Q _ => ∃ (n : Nat) (a : Addr) (log : List (Int × Int)), vs = [.int n, .ref a] ∧ n ≤ 16 ∧ log.length ≤ 1000 ∧ ValidL n log ∧ IsPairs K H a log ∧
  ∀ H' p (rs : List (Addr × List Int)), Loc H H' ((p, .lst (refs rs)) :: rowL rs) → vals rs = waysL n log → Q (.ref p) H'
theorem ok_ways_after {f : Addr} {fd : FuncData} {k : Nat} (F : Fun K "ways_after" "ways_after" s_ways_after f fd) (z_range : mg "range" = none) (z_list : mg "list" = none) : FG P w K mg base CX0 (k + 1) f fd ["cells", "log"] (sp_ways_after K) := by
  refine fg_fun F sc_ways_after (fun vs H Q E h => ?_) (fun cdv A out s H vs Q E hr hg h => ?_)
  · obtain ⟨n, a, log, rfl, _⟩ := h
    rfl
  · obtain ⟨n, a, log, rfl, hn, hl, hv, hp, q⟩ := h
    refine ⟨_, (pss_cons (ps_setLc (i := 2) (own := [("cell", 6)]) (tt := tYes) rfl sc_ways_after.nd rfl rfl (sw_true rfl rfl rfl (by decide +kernel)) (pi_range2 (by rfl) z_range (pa_cons pe_int (pa_cons (pe_op op_add (pv 0) pe_int) pa_nil))) (blkOk_by (N := ["cells", "log", "ways", "things", "first", "second", "cell"]) (sc := defScope s_ways_after) (by decide +kernel)) (fun _ _ _ _ _ => (pg_name (i := 6) sc_ways_after.nd rfl (Or.inl rfl))) (fun _ _ _ _ _ => pts_nil) (fun _ _ _ _ _ => (pe_lst (pa_cons (pv 6) pa_nil))))
      (pss_cons (ps_set (i := 3) sc_ways_after.nd rfl (.inl rfl) (pe_listRg rfl (by rfl) z_list (prg_1 (by rfl) z_range (pe_op op_add (pv 0) pe_int))))
      (pss_cons (ps_for PassesOwn.never rfl (pi_listK K rfl (pv 1)) (pg_tupK K rfl rfl (pgs_cons (pg_name (i := 4) sc_ways_after.nd rfl (.inl rfl)) (pgs_cons (pg_name (i := 5) sc_ways_after.nd rfl (.inl rfl)) pgs_nil)))
        (pss_cons (ps_expr (pe_bmK K rfl PySem.F.plainAttrs_list PySem.F.slot_list_append PySem.F.type_list_append mt_append (pe_ix (ix_listK K rfl) (pv 2) (pe_op op_sub (pe_ix (ix_listK K rfl) (pv 3) (pv 4) (fun _ _ => rfl)) pe_int) (fun _ _ => rfl)) (pa_cons (pv 5) pa_nil)))
          (pss_cons (ps_expr (pe_bmK K rfl PySem.F.plainAttrs_list PySem.F.slot_list_append PySem.F.type_list_append mt_append (pe_ix (ix_listK K rfl) (pv 2) (pe_op op_sub (pe_ix (ix_listK K rfl) (pv 3) (pv 5) (fun _ _ => rfl)) pe_int) (fun _ _ => rfl)) (pa_cons (pv 4) pa_nil)))
          (pss_one (ps_asg (pe_tup (pa_cons (pe_ix (ix_listK K rfl) (pv 3) (pv 5) (fun _ _ => rfl)) (pa_cons (pe_ix (ix_listK K rfl) (pv 3) (pv 4) (fun _ _ => rfl)) pa_nil))) (pg_tupK K rfl rfl (pgs_cons (pg_sub (pv 3) (pv 4) set_list) (pgs_cons (pg_sub (pv 3) (pv 5) set_list) pgs_nil))))))))
      (pss_one (ps_ret (pv 2)))))), ?_⟩
    refine ⟨_, rfl, _, _, rfl, rfl, _, _, rfl, by omega, fun t ht => lc_range (lo := 1) (n := ((n : Int) + 1 - 1).toNat)
      (fun i H1 => ∃ rs : List (Addr × List Int), vals rs = tab i (fun m => way [] (m + 1)) ∧ Loc H H1 ((t, .lst (refs rs)) :: rowL rs)) ?_ ?_ ?_⟩
    · exact ⟨[], rfl, (Loc.refl H).alloc ht⟩
    · rintro i H1 hi ⟨rs, e, l⟩
      refine ⟨rfl, _, rfl, sl1, fun p hp' => ⟨refs rs, ?_, ?_, rs ++ [(p, [1 + (i : Int)])], ?_, l.rowNew (row := [1 + (i : Int)]) hp'⟩⟩
      · rw [upd_ne (ne_of_none l.at0 hp')]; exact l.at0
      · have := congrArg List.length e
        rw [vals_len, tab_len] at this
        exact sl_line' (by rw [refs_len]; omega)
      · rw [tab_succ, ← e]
        unfold vals
        rw [List.map_append, show way [] ((i : Int) + 1) = [1 + (i : Int)] from by show [(i : Int) + 1] = _; rw [Int.add_comm]]
        rfl
    · rintro H1 ⟨rs, e, l⟩
      have e1 : ((n : Int) + 1 - 1).toNat = n := by omega
      rw [e1] at e
      refine ⟨_, rfl, _, _, rfl, rfl, _, rfl, RgOk.of_le (by omega) (by omega) (by omega) (by omega), fun th hth => ?_⟩
      rw [thgs_start]
      have l0 := l.alloc (o := .lst (iv (thgsL n []))) hth
      obtain ⟨ts, ets, hts, htt⟩ := hp
      refine ⟨_, rfl, a, rfl, ⟨_, l0.same.seq hts⟩, for_list (K := K) (a := a) (xs := refs ts)
        (fun i σ H2 => ∃ (rs : List (Addr × List Int)) (y4 y5 : Option V), σ = [some (.int n), some (.ref a), some (.ref t), some (.ref th), y4, y5, none] ∧ vals rs = waysL n (log.take i) ∧
          Loc H H2 ([(th, .lst (iv (thgsL n (log.take i)))), (t, .lst (refs rs))] ++ rowL rs)) ?_ ?_ ?_ ?_⟩
      · exact ⟨rs, none, none, rfl, e, l0⟩
      · rintro i σ H2 _ ⟨_, _, _, _, _, l2⟩
        exact l2.same.seq hts
      · rintro i x σ H2 hx ⟨rs, y4, y5, rfl, er, l2⟩
        obtain ⟨⟨b, x1, x2⟩, hq, rfl⟩ := refs_inv hx
        have hT := Same.sqT l2.same (htt _ (List.mem_of_getElem? hq))
        have hwi : log[i]? = some (x1, x2) := by
          rw [← ets]; unfold vals; rw [List.getElem?_map, hq]; rfl
        have hvs : ValidL n (log.take i ++ [(x1, x2)]) := by rw [← take_snoc hwi]; exact fun q hq => hv q (List.mem_of_mem_take hq)
        obtain ⟨v0, v1, v2, v3⟩ := hvs.init
        simp only at v1 v2 v3
        have ia := ivr_in v0 x1 (by omega)
        have ib := ivr_in v0 x2 (by omega)
        have ne : ivr (log.take i) x1 ≠ ivr (log.take i) x2 := fun e => by
          have := loc_ivr (log.take i) x1
          rw [e, loc_ivr] at this
          omega
        have tl : (thgsL n (log.take i)).length = n + 1 := tab_len
        have g1 : (iv (thgsL n (log.take i)))[x1.toNat]? = some (.int (ivr (log.take i) x1)) := iv_get (by
          unfold thgsL; rw [tab_get (by omega), show ((x1.toNat : Nat) : Int) = x1 from by omega])
        have g2 : (iv (thgsL n (log.take i)))[x2.toNat]? = some (.int (ivr (log.take i) x2)) := iv_get (by
          unfold thgsL; rw [tab_get (by omega), show ((x2.toNat : Nat) : Int) = x2 from by omega])
        have wl : ∀ t, (iv (way (log.take i) t)).length < sizeLine := fun t => sl_line' (by
          have h1 := way_len t (log.take i)
          have h2 := List.length_take_le' i log
          rw [iv_len]; omega)
        obtain ⟨r1, hr1⟩ : ∃ r1, rs[(ivr (log.take i) x1 - 1).toNat]? = some (r1, way (log.take i) (ivr (log.take i) x1)) := vals_get (by
          rw [er]; unfold waysL; rw [tab_get (by omega), show (((ivr (log.take i) x1 - 1).toNat : Nat) : Int) + 1 = ivr (log.take i) x1 from by omega])
        have at1 := l2.rowAt hr1
        refine ⟨b, _, rfl, hT, rfl, _, _, rfl, _, _, rfl, rfl, ?_⟩
        refine ⟨_, rfl, _, rfl, _, rfl, th, _, _, _, rfl, rfl, SqL.of (l2.atIx (i := 0) rfl), at_of (j := x1.toNat) (by show x1 = _; omega) g1, _, _, rfl, rfl, ?_⟩
        refine ⟨t, refs rs, _, _, rfl, rfl, SqL.of (l2.atIx (i := 1) rfl), at_of (j := (ivr (log.take i) x1 - 1).toNat) (by show ivr (log.take i) x1 - 1 = _; omega) (refs_get hr1), .inl ⟨rfl, _, SqL.of at1⟩, _, rfl, r1, _, _, rfl, rfl, at1, wl _, ?_⟩
        have l3 := l2.rowGrowP (z := x2) hr1
        obtain ⟨r2, hr2⟩ : ∃ r2, (rs.set (ivr (log.take i) x1 - 1).toNat (r1, way (log.take i) (ivr (log.take i) x1) ++ [x2]))[(ivr (log.take i) x2 - 1).toNat]? = some (r2, way (log.take i) (ivr (log.take i) x2)) := by
          rw [List.getElem?_set, if_neg (by omega)]
          exact vals_get (by
            rw [er]; unfold waysL; rw [tab_get (by omega), show (((ivr (log.take i) x2 - 1).toNat : Nat) : Int) + 1 = ivr (log.take i) x2 from by omega])
        have at2 := l3.rowAt hr2
        have rf : refs (rs.set (ivr (log.take i) x1 - 1).toNat (r1, way (log.take i) (ivr (log.take i) x1) ++ [x2])) = refs rs := refs_set hr1
        have gr2 : (refs rs)[(ivr (log.take i) x2 - 1).toNat]? = some (.ref r2) := by rw [← rf]; exact refs_get hr2
        refine ⟨_, rfl, _, rfl, _, rfl, th, _, _, _, rfl, rfl, SqL.of (l3.atIx (i := 0) rfl), at_of (j := x2.toNat) (by show x2 = _; omega) g2, _, _, rfl, rfl, ?_⟩
        refine ⟨t, refs rs, _, _, rfl, rfl, SqL.of (l3.atIx (i := 1) rfl), at_of (j := (ivr (log.take i) x2 - 1).toNat) (by show ivr (log.take i) x2 - 1 = _; omega) gr2, .inl ⟨rfl, _, SqL.of at2⟩, _, rfl, r2, _, _, rfl, rfl, at2, wl _, ?_⟩
        have l4 := l3.rowGrowP (z := x1) hr2
        have rf2 := (refs_set (i := (ivr (log.take i) x2 - 1).toNat) (y := way (log.take i) (ivr (log.take i) x2) ++ [x1]) hr2).trans rf
        refine ⟨_, rfl, _, rfl, th, _, _, _, rfl, rfl, SqL.of (l4.atIx (i := 0) rfl), at_of (j := x2.toNat) (by show x2 = _; omega) g2, _, rfl, _, rfl, th, _, _, _, rfl, rfl, SqL.of (l4.atIx (i := 0) rfl), at_of (j := x1.toNat) (by show x1 = _; omega) g1, sl2, fun T hT' => ?_⟩
        have l5 := (l4.alloc (o := .tup [.int (ivr (log.take i) x2), .int (ivr (log.take i) x1)]) hT').drop1
        have l6 := l5.put0 (o' := .lst (iv (((thgsL n (log.take i)).set x1.toNat (ivr (log.take i) x2)))))
        have l7 := l6.put0 (o' := .lst (iv (((thgsL n (log.take i)).set x1.toNat (ivr (log.take i) x2)).set x2.toNat (ivr (log.take i) x1))))
        have s1 : (iv (thgsL n (log.take i))).set x1.toNat (.int (ivr (log.take i) x2)) = iv ((thgsL n (log.take i)).set x1.toNat (ivr (log.take i) x2)) := List.map_set.symm
        have s2 : (iv ((thgsL n (log.take i)).set x1.toNat (ivr (log.take i) x2))).set x2.toNat (.int (ivr (log.take i) x1)) = iv (((thgsL n (log.take i)).set x1.toNat (ivr (log.take i) x2)).set x2.toNat (ivr (log.take i) x1)) := List.map_set.symm
        refine ⟨T, _, rfl, .inl (.inl upd_same), rfl, _, _, rfl, _, rfl, _, rfl, th, _, _, x1.toNat, rfl, rfl, l5.at0, ixI (by show 0 ≤ x1; omega) (by rw [iv_len]; show x1.toNat < _; omega), ?_⟩
        rw [s1]
        refine ⟨_, _, rfl, _, rfl, _, rfl, th, _, _, x2.toNat, rfl, rfl, l6.at0, ixI (by show 0 ≤ x2; omega) (by rw [iv_len, List.length_set]; show x2.toNat < _; omega), rfl, ?_⟩
        rw [s2]
        refine ⟨(rs.set (ivr (log.take i) x1 - 1).toNat (r1, way (log.take i) (ivr (log.take i) x1) ++ [x2])).set (ivr (log.take i) x2 - 1).toNat (r2, way (log.take i) (ivr (log.take i) x2) ++ [x1]), _, _, rfl, ?_, ?_⟩
        · rw [vals_set, vals_set, er, take_snoc hwi, ways_step hvs]
        · rw [take_snoc hwi, thgs_step hvs, rf2]
          exact l7
      · rintro σ H2 ⟨rs, y4, y5, rfl, er, l2⟩
        have full : log.take (refs ts).length = log := by
          rw [refs_len, ← vals_len ts, ets, List.take_length]
        rw [full] at er l2
        exact ⟨_, rfl, q H2 t rs l2.drop1 er⟩
/-- where each thing ends -/
def sp_ends_after (K : PySem.W.Frag) : Sp := fun vs H Q _ => ∃ (n : Nat) (a : Addr) (log : List (Int × Int)), vs = [.int n, .ref a] ∧ n ≤ 16 ∧ log.length ≤ 1000 ∧ ValidL n log ∧ IsPairs K H a log ∧
  ∀ H' p, Loc H H' [(p, .lst (iv (endsL n log)))] → Q (.ref p) H'
theorem ok_ends_after {f : Addr} {fd : FuncData} {k : Nat} (F : Fun K "ends_after" "ends_after" s_ends_after f fd) (c_ways_after : CalG P w K mg base k "ways_after" s_ways_after ["cells", "log"] (sp_ways_after K)) : FG P w K mg base CX0 (k + 1) f fd ["cells", "log"] (sp_ends_after K) := by
  refine fg_fun F sc_ends_after (fun vs H Q E h => ?_) (fun cdv A out s H vs Q E hr hg h => ?_)
  · obtain ⟨n, a, log, rfl, _⟩ := h
    rfl
  · obtain ⟨n, a, log, rfl, hn, hl, hv, hp, q⟩ := h
    refine ⟨_, (pss_one (ps_ret (pe_lc (own := [("way", 2)]) (tt := tYes) rfl sc_ends_after.nd (pi_listK K rfl (pe_cG c_ways_after hr (by omega) hg (by rfl) (pa_cons (pv 0) (pa_cons (pv 1) pa_nil)))) (blkOk_by (N := ["cells", "log", "way"]) (sc := defScope s_ends_after) (by decide +kernel)) (fun _ _ _ _ _ => (pg_name (i := 2) sc_ends_after.nd rfl (Or.inl rfl))) (fun _ _ _ _ _ => pts_nil) (fun _ _ _ _ _ => (pe_ix (ix_listK K rfl) (pv 2) (pe_un un_neg pe_int) (fun _ _ => rfl)))))), ?_⟩
    refine ⟨_, rfl, _, rfl, n, a, log, rfl, hn, hl, hv, hp, fun H1 p rs l er => ⟨p, rfl, ⟨_, SqL.of l.at0⟩, fun D hD => lc_list (K := K) (a := p) (xs := refs rs)
      (fun i H2 => Loc H H2 ((D, .lst (iv (tab i fun m => loc log (m + 1)))) :: (p, .lst (refs rs)) :: rowL rs)) (l.alloc hD) (fun i H2 _ l2 => SqL.of (l2.atIx (i := 1) rfl)) ?_ ?_⟩⟩
    · intro i x H2 hx l2
      obtain ⟨⟨r, row⟩, hq, rfl⟩ := refs_inv hx
      have hi : i < n := by
        have h1 := (List.getElem?_eq_some_iff.mp hq).1
        have h2 := congrArg List.length er
        unfold waysL at h2
        rw [vals_len, tab_len] at h2
        omega
      have hrow : row = way log (i + 1) := by
        have h1 : (vals rs)[i]? = some row := by unfold vals; rw [List.getElem?_map, hq]; rfl
        rw [er] at h1
        unfold waysL at h1
        rw [tab_get hi] at h1
        exact (Option.some.inj h1).symm
      have hat := l2.here (r, .lst (iv row)) (List.mem_cons_of_mem _ (List.mem_cons_of_mem _ (List.mem_of_getElem? (rowL_get hq))))
      have hlast := at_lastI (w := row) (by rw [hrow]; exact way_ne _ _)
      rw [hrow, way_last] at hlast
      rw [hrow] at hat
      refine ⟨rfl, _, rfl, _, rfl, r, _, _, _, rfl, rfl, SqL.of hat, hlast, _, l2.at0, sl_line' (by rw [iv_len, tab_len]; omega), ?_⟩
      show Loc H _ _
      rw [tab_succ, iv_snoc]
      exact l2.put0
    · intro H2 l2
      have hl2 : (refs rs).length = n := by
        have h2 := congrArg List.length er
        unfold waysL at h2
        rw [vals_len, tab_len] at h2
        rw [refs_len]
        exact h2
      rw [hl2] at l2
      exact q H2 D (l2.keep (List.Sublist.cons_cons _ (List.nil_sublist _)))
end

abbrev s_ends : Stmt := topS 20
theorem sc_ends : FnScope ["cells", "log"] ["cells", "log"] (defScope s_ends) := ⟨rfl, rfl, rfl, by decide +kernel, rfl, by decide +kernel, by decide +kernel⟩
section
variable {P : Program} {w : World} {K : PySem.W.Frag} {mg : Str → Option Value} {base : Heap}
def sp_ends (K : PySem.W.Frag) : Sp := fun vs H Q _ => ∃ (n : Nat) (a : Addr) (log : List (Int × Int)), vs = [.int n, .ref a] ∧ 1 ≤ n ∧ n ≤ 16 ∧ log.length ≤ 1000 ∧ ValidL n log ∧ log.Nodup ∧ IsPairs K H a log ∧
  ∀ H' p, Loc H H' [(p, .lst (iv (endsL n log)))] → Q (.ref p) H'
theorem ok_ends {f : Addr} {fd : FuncData} {k : Nat} (F : Fun K "ends" "ends" s_ends f fd)
    (c_check_log : CalG P w K mg base k "check_log" s_check_log ["cells", "log"] (sp_check_log K)) (c_ends_after : CalG P w K mg base k "ends_after" s_ends_after ["cells", "log"] (sp_ends_after K)) : FG P w K mg base CX0 (k + 1) f fd ["cells", "log"] (sp_ends K) := by
  refine fg_fun F sc_ends (fun vs H Q E h => ?_) (fun cdv A out s H vs Q E hr hg h => ?_)
  · obtain ⟨n, a, log, rfl, _⟩ := h
    rfl
  · obtain ⟨n, a, log, rfl, h1, hn, hl, hv, hnd, hp, q⟩ := h
    refine ⟨_, (pss_cons (ps_expr (pe_cG c_check_log hr (by omega) hg (by rfl) (pa_cons (pv 0) (pa_cons (pv 1) pa_nil))))
      (pss_one (ps_ret (pe_cG c_ends_after hr (by omega) hg (by rfl) (pa_cons (pv 0) (pa_cons (pv 1) pa_nil)))))), ?_⟩
    refine ⟨_, rfl, _, rfl, n, a, log, rfl, h1, hn, hv, hnd, hp, fun H1 sm => ⟨_, rfl, _, rfl, n, a, log, rfl, hn, hl, hv, hp.grow sm, fun H' p l => q H' p ?_⟩⟩
    have := (Loc.of sm).call l
    rwa [List.append_nil] at this
end

abbrev s_ways : Stmt := topS 21
theorem sc_ways : FnScope ["cells", "log"] ["cells", "log"] (defScope s_ways) := ⟨rfl, rfl, rfl, by decide +kernel, rfl, by decide +kernel, by decide +kernel⟩
section
variable {P : Program} {w : World} {K : PySem.W.Frag} {mg : Str → Option Value} {base : Heap}
def sp_ways (K : PySem.W.Frag) : Sp := fun vs H Q _ => ∃ (n : Nat) (a : Addr) (log : List (Int × Int)), vs = [.int n, .ref a] ∧ 1 ≤ n ∧ n ≤ 16 ∧ log.length ≤ 1000 ∧ ValidL n log ∧ log.Nodup ∧ IsPairs K H a log ∧
  ∀ H' p (rs : List (Addr × List Int)), Loc H H' ((p, .lst (refs rs)) :: rowL rs) → vals rs = waysL n log → Q (.ref p) H'
theorem ok_ways {f : Addr} {fd : FuncData} {k : Nat} (F : Fun K "ways" "ways" s_ways f fd)
    (c_check_log : CalG P w K mg base k "check_log" s_check_log ["cells", "log"] (sp_check_log K)) (c_ways_after : CalG P w K mg base k "ways_after" s_ways_after ["cells", "log"] (sp_ways_after K)) : FG P w K mg base CX0 (k + 1) f fd ["cells", "log"] (sp_ways K) := by
  refine fg_fun F sc_ways (fun vs H Q E h => ?_) (fun cdv A out s H vs Q E hr hg h => ?_)
  · obtain ⟨n, a, log, rfl, _⟩ := h
    rfl
  · obtain ⟨n, a, log, rfl, h1, hn, hl, hv, hnd, hp, q⟩ := h
    refine ⟨_, (pss_cons (ps_expr (pe_cG c_check_log hr (by omega) hg (by rfl) (pa_cons (pv 0) (pa_cons (pv 1) pa_nil))))
      (pss_one (ps_ret (pe_cG c_ways_after hr (by omega) hg (by rfl) (pa_cons (pv 0) (pa_cons (pv 1) pa_nil)))))), ?_⟩
    refine ⟨_, rfl, _, rfl, n, a, log, rfl, h1, hn, hv, hnd, hp, fun H1 sm => ⟨_, rfl, _, rfl, n, a, log, rfl, hn, hl, hv, hp.grow sm, fun H' p rs l er => q H' p rs ?_ er⟩⟩
    have := (Loc.of sm).call l
    rwa [List.append_nil] at this
end

abbrev scN__law_over_right : Scope := { kind := .function, names := [(".0", .local), ("_law_ring", .local), ("_law_side_here", .cell)], isGenerator := false, isCoroutine := false }
abbrev s__law_over_right : Stmt := topS 33
theorem sc__law_over_right : FnScope ["_law_size", "_law_some", "_law_made", "_law_pair", "_law_here", "_law_side_here", "_law_away", "_law_back", "_law_both", "_law_links", "_law_k", "_law_ring", "_law_more", "_law_way"] ["_law_size", "_law_some", "_law_made", "_law_pair"] (defScope s__law_over_right) := ⟨rfl, rfl, rfl, by decide +kernel, rfl, by decide +kernel, by decide +kernel⟩
theorem conn_wo {w l : List (Int × Int)} {e : Int × Int} (p : l.Perm w) (a b : Int) : Conn (wo l e) a b ↔ Conn (wo w e) a b :=
  ⟨conn_sub fun f hf => List.mem_filter.mpr ⟨p.mem_iff.mp (List.mem_filter.mp hf).1, (List.mem_filter.mp hf).2⟩, conn_sub fun f hf => List.mem_filter.mpr ⟨p.mem_iff.mpr (List.mem_filter.mp hf).1, (List.mem_filter.mp hf).2⟩⟩
theorem way_head (t : Int) : ∀ l : List (Int × Int), (way l t).head? = some t := by
  refine snoc_ind rfl fun l e ih => ?_
  rw [way_snoc]
  unfold wayStep
  split
  · rw [List.head?_append, ih]; rfl
  · split
    · rw [List.head?_append, ih]; rfl
    · exact ih
theorem zip_next (f : Int → Int) : ∀ l : List Int, (iv l).zip (iv (l.map f)) = l.map fun c => (V.int c, V.int (f c))
  | [] => rfl
  | c :: r => by
    have ih := zip_next f r
    unfold iv at ih ⊢
    simp only [List.map_cons, List.zip_cons_cons, ih]
theorem bl_ne (a b : Bool) : (!decide (V.bl a = V.bl b)) = (a != b) := by cases a <;> cases b <;> rfl
/-- what a drawn log takes over a bridge -/
theorem cross18 {n : Nat} {web log : List (Int × Int)} {e : Int × Int} (hv : ValidW n web) (pm : log.Perm web) (he : e ∈ web) (br : brB n web e = true) : ∃ a b, Cross n (loc log) (fun c => c ∈ sideL n web e) a b := by
  have hb := (brB_iff hv.1 (hv.1 e he)).mp br
  obtain ⟨a, b, h⟩ := cross_of (l := log) (hv.1.perm pm) (pm.nodup_iff.mpr hv.nodup) (pm.mem_iff.mpr he) fun c => hb ((conn_wo pm _ _).mp c)
  refine ⟨a, b, ?_⟩
  have e1 : Conn (wo log e) e.1 = fun c => c ∈ sideL n web e := funext fun c => propext (by rw [mem_side hv.1 (hv.1 e he), conn_wo pm])
  rw [← e1]
  exact h
section
variable {P : Program} {w : World} {K : PySem.W.Frag} {mg : Str → Option Value} {base : Heap}
def sp__law_over_right (K : PySem.W.Frag) : Sp := fun vs H Q _ => ∃ (n : Nat) (a b t : Addr) (web log : List (Int × Int)) (e : Int × Int), vs = [.int n, .ref a, .ref b, .ref t] ∧ 1 ≤ n ∧ n ≤ 16 ∧ web.length ≤ 300 ∧ ValidW n web ∧ log.Perm web ∧ IsPairs K H a web ∧ IsPairs K H b log ∧ e ∈ web ∧ brB n web e = true ∧ SqT K H t [.int e.1, .int e.2] ∧
  ∀ H', Same H H' → Q (.bl true) H'
theorem ok__law_over_right {f : Addr} {fd : FuncData} {k : Nat} (F : Fun K "_law_over_right" "_law_over_right" s__law_over_right f fd) (z_range : mg "range" = none) (z_len : mg "len" = none) (z_list : mg "list" = none) (z_zip : mg "zip" = none)
    (c_ends : CalG P w K mg base k "ends" s_ends ["cells", "log"] (sp_ends K)) (c_ways : CalG P w K mg base k "ways" s_ways ["cells", "log"] (sp_ways K))
    (c__law_side : CalG P w K mg base k "_law_side" s__law_side ["_law_size", "_law_some", "_law_pair"] (sp__law_side K)) (c__law_rounds : CalG P w K mg base k "_law_rounds" s__law_rounds ["_law_told"] (sp__law_rounds K)) :
    FG P w K mg base CX0 (k + 1) f fd ["_law_size", "_law_some", "_law_made", "_law_pair"] (sp__law_over_right K) := by
  refine fg_fun F sc__law_over_right (fun vs H Q E h => ?_) (fun cdv A out s H vs Q E hr hg h => ?_)
  · obtain ⟨_, _, _, _, _, _, _, rfl, _⟩ := h
    rfl
  · have hu64 := hr.units
    have hu65 : (A.deeper (envOfC "_law_over_right" (defScope s__law_over_right) s.heap.objs.size f cdv)).units + 65 < cLine := by have := hr.un; omega
    obtain ⟨n, a, b, t, web, log, e, rfl, n1, n2, wl, hv, pm, ha, hb, he, br, ht, q⟩ := h
    refine ⟨_, (pss_cons (ps_set (i := 4) sc__law_over_right.nd rfl (.inr rfl) (pe_cG c_ends hr (by omega) hg (by rfl) (pa_cons (pv 0) (pa_cons (pv 2) pa_nil))))
      (pss_cons (ps_set (i := 5) sc__law_over_right.nd rfl (.inr rfl) (pe_cG c__law_side hr (by omega) hg (by rfl) (pa_cons (pv 0) (pa_cons (pv 1) (pa_cons (pv 3) pa_nil)))))
      (pss_cons (ps_set (i := 6) sc__law_over_right.nd rfl (.inr rfl) (pe_lc (own := [("_law_k", 10)]) rfl sc__law_over_right.nd (pi_listK K rfl (pv 5)) (blkOk_by (N := ["_law_size", "_law_some", "_law_made", "_law_pair", "_law_here", "_law_side_here", "_law_away", "_law_back", "_law_both", "_law_links", "_law_k", "_law_ring", "_law_more", "_law_way"]) (sc := defScope s__law_over_right) (by decide +kernel)) (fun _ _ _ _ _ => (pg_name (i := 10) sc__law_over_right.nd rfl (Or.inl rfl))) (fun _ _ _ _ _ => (pts_one (pt_cmpR (op_notIn_seqK K rfl) (pe_ix (ix_listK K rfl) (pv 4) (pe_op op_sub (pv 10) pe_int) (fun _ _ => rfl)) (pv 5) (by rfl)))) (fun _ _ _ _ _ => (pv 10))))
      (pss_cons (ps_setLc (i := 7) (own := [("_law_k", 10)]) rfl sc__law_over_right.nd rfl rfl (sw_true rfl rfl rfl (by decide +kernel)) (pi_range2 (by rfl) z_range (pa_cons pe_int (pa_cons (pe_op op_add (pv 0) pe_int) pa_nil))) (blkOk_by (N := ["_law_size", "_law_some", "_law_made", "_law_pair", "_law_here", "_law_side_here", "_law_away", "_law_back", "_law_both", "_law_links", "_law_k", "_law_ring", "_law_more", "_law_way"]) (sc := defScope s__law_over_right) (by decide +kernel)) (fun _ _ _ _ _ => (pg_name (i := 10) sc__law_over_right.nd rfl (Or.inl rfl))) (fun _ _ _ _ _ => (pts_one (PW.pt (pw_and (pt_cmpR (op_notIn_seqK K rfl) (pv 10) (pv 5) (by rfl)) (pw_and1 (pt_cmpR (op_in_seqK K rfl) (pe_ix (ix_listK K rfl) (pv 4) (pe_op op_sub (pv 10) pe_int) (fun _ _ => rfl)) (pv 5) (by rfl))))))) (fun _ _ _ _ _ => (pv 10)))
      (pss_cons (ps_if (PW.pt (pw_or (pt_cmpR op_ne (pe_callB (call_len_seqK K rfl) (by rfl) z_len bt_len (pa_cons (pv 6) pa_nil)) pe_int (nomark _)) (pw_or1 (pt_cmpR op_ne (pe_callB (call_len_seqK K rfl) (by rfl) z_len bt_len (pa_cons (pv 7) pa_nil)) pe_int (nomark _)))))
        (pss_one (ps_ret pe_bl))
        pss_nil)
      (pss_cons (ps_setLc (i := 8) (own := [("_law_ring", 11)]) rfl sc__law_over_right.nd rfl rfl (sw_true rfl rfl rfl (by decide +kernel)) (pi_listK K rfl (pe_cG c__law_rounds hr (by omega) hg (by rfl) (pa_cons (pv 4) pa_nil))) (blkOk_by (N := ["_law_size", "_law_some", "_law_made", "_law_pair", "_law_here", "_law_side_here", "_law_away", "_law_back", "_law_both", "_law_links", "_law_k", "_law_ring", "_law_more", "_law_way"]) (sc := defScope s__law_over_right) (by decide +kernel)) (fun _ _ _ _ _ => (pg_name (i := 11) sc__law_over_right.nd rfl (Or.inl rfl))) (fun _ _ _ _ _ => (pts_one (pt_cmpR (op_notInDK K rfl hu65) (pe_lc (own := [("_law_k", 10)]) rfl sc__law_over_right.nd (pi_listK K rfl (pv 11)) (blkOk_by (N := ["_law_size", "_law_some", "_law_made", "_law_pair", "_law_here", "_law_side_here", "_law_away", "_law_back", "_law_both", "_law_links", "_law_k", "_law_ring", "_law_more", "_law_way"]) (sc := scN__law_over_right) (by decide +kernel)) (fun _ _ _ _ _ => (pg_name (i := 10) sc__law_over_right.nd rfl (Or.inl rfl))) (fun _ _ _ _ _ => (pts_one (pt_cmpR (op_in_seqK K rfl) (pv 10) (pv 5) (by rfl)))) (fun _ _ _ _ _ => (pv 10))) (pe_lst (pa_cons (pe_lst pa_nil) (pa_cons (pv 11) pa_nil))) (by rfl)))) (fun _ _ _ _ _ => (pv 11)))
      (pss_cons (ps_if (PW.pt (pw_or (pt_cmpR (op_neDK K rfl hu64) (pv 8) (pe_lc (own := [("_law_ring", 11)]) rfl sc__law_over_right.nd (pi_listK K rfl (pe_cG c__law_rounds hr (by omega) hg (by rfl) (pa_cons (pv 4) pa_nil))) (blkOk_by (N := ["_law_size", "_law_some", "_law_made", "_law_pair", "_law_here", "_law_side_here", "_law_away", "_law_back", "_law_both", "_law_links", "_law_k", "_law_ring", "_law_more", "_law_way"]) (sc := defScope s__law_over_right) (by decide +kernel)) (fun _ _ _ _ _ => (pg_name (i := 11) sc__law_over_right.nd rfl (Or.inl rfl))) (fun _ _ _ _ _ => (pts_one (pt_cmpR (op_in_seqK K rfl) (pe_ix (ix_listK K rfl) (pv 6) pe_int (fun _ _ => rfl)) (pv 11) (by rfl)))) (fun _ _ _ _ _ => (pv 11))) (nomark _)) (pw_or1 (pt_cmpR (op_notIn_seqK K rfl) (pe_ix (ix_listK K rfl) (pv 7) pe_int (fun _ _ => rfl)) (pe_ix (ix_listK K rfl) (pv 8) pe_int (fun _ _ => rfl)) (by rfl)))))
        (pss_one (ps_ret pe_bl))
        pss_nil)
      (pss_cons (ps_set (i := 9) sc__law_over_right.nd rfl (.inl rfl) (pe_listZipK K rfl rfl (by rfl) z_list (by rfl) z_zip (pa_cons (pe_ix (ix_listK K rfl) (pv 8) pe_int (fun _ _ => rfl)) (pa_cons (pe_op op_cat (pe_slice (sl_listK K rfl) (pe_ix (ix_listK K rfl) (pv 8) pe_int (fun _ _ => rfl)) (po_some pe_int) po_none) (pe_slice (sl_listK K rfl) (pe_ix (ix_listK K rfl) (pv 8) pe_int (fun _ _ => rfl)) po_none (po_some pe_int))) pa_nil))))
      (pss_cons (ps_if (pt_cmpR op_ne (pe_callB (call_len_seqK K rfl) (by rfl) z_len bt_len (pa_cons (pe_lc (own := [("_law_k", 10), ("_law_more", 12)]) rfl sc__law_over_right.nd (pi_listK K rfl (pv 9)) (blkOk_by (N := ["_law_size", "_law_some", "_law_made", "_law_pair", "_law_here", "_law_side_here", "_law_away", "_law_back", "_law_both", "_law_links", "_law_k", "_law_ring", "_law_more", "_law_way"]) (sc := defScope s__law_over_right) (by decide +kernel)) (fun _ _ _ _ _ => (pg_tupK (n := 2) K rfl rfl (pgs_cons (pg_name (i := 10) sc__law_over_right.nd rfl (Or.inl rfl)) (pgs_cons (pg_name (i := 12) sc__law_over_right.nd rfl (Or.inl rfl)) pgs_nil)))) (fun _ _ _ _ _ => (pts_one (pt_cmpR op_ne (pe_cmpR (op_in_seqK K rfl) (pv 10) (pv 5) (by rfl)) (pe_cmpR (op_in_seqK K rfl) (pv 12) (pv 5) (by rfl)) (nomark _)))) (fun _ _ _ _ _ => pe_int)) pa_nil)) pe_int (nomark _))
        (pss_one (ps_ret pe_bl))
        pss_nil)
      (pss_one (ps_ret (pe_cmpR op_eq (pe_callB (call_len_seqK K rfl) (by rfl) z_len bt_len (pa_cons (pe_lc (own := [("_law_way", 13)]) rfl sc__law_over_right.nd (pi_listK K rfl (pe_cG c_ways hr (by omega) hg (by rfl) (pa_cons (pv 0) (pa_cons (pv 2) pa_nil)))) (blkOk_by (N := ["_law_size", "_law_some", "_law_made", "_law_pair", "_law_here", "_law_side_here", "_law_away", "_law_back", "_law_both", "_law_links", "_law_k", "_law_ring", "_law_more", "_law_way"]) (sc := defScope s__law_over_right) (by decide +kernel)) (fun _ _ _ _ _ => (pg_name (i := 13) sc__law_over_right.nd rfl (Or.inl rfl))) (fun _ _ _ _ _ => (pts_one (pt_cmpR op_ne (pe_cmpR (op_in_seqK K rfl) (pe_ix (ix_listK K rfl) (pv 13) pe_int (fun _ _ => rfl)) (pv 5) (by rfl)) (pe_cmpR (op_in_seqK K rfl) (pe_ix (ix_listK K rfl) (pv 13) (pe_un un_neg pe_int) (fun _ _ => rfl)) (pv 5) (by rfl)) (nomark _)))) (fun _ _ _ _ _ => (pv 13))) pa_nil)) pe_int (nomark _))))))))))))), ?_⟩
    obtain ⟨A0, B0, cr⟩ := cross18 hv pm he br
    have lv := hv.1.perm pm
    have lnd := pm.nodup_iff.mpr hv.nodup
    have ll : log.length ≤ 300 := by rw [pm.length_eq]; exact wl
    have hp := cr.pp
    have sin : ∀ c ∈ sideL n web e, 1 ≤ c ∧ c ≤ n := fun c hc => mem_cellsTo.mp (List.mem_filter.mp hc).1
    have snd : (sideL n web e).Nodup := (cellsTo_nodup n).sublist List.filter_sublist
    refine ⟨_, rfl, _, rfl, n, b, log, rfl, n1, n2, by omega, lv, lnd, hb, fun H1 d l1 => ?_⟩
    refine ⟨_, rfl, _, rfl, _, rfl, n, a, t, web, e, rfl, n2, by omega, hv, ha.grow l1.same, he, Same.sqT l1.same ht, fun H2 S s2 hS => ?_⟩
    have hd2 : SqL K H2 d (iv (arrL n (loc log))) := s2.seq (SqL.of l1.at0)
    have hb2 := hb.grow (l1.same.trans s2)
    have s02 := l1.same.trans s2
    clear l1
    have sl : (sideL n web e).length ≤ 16 := by
      unfold sideL comp
      exact Nat.le_trans (List.length_filter_le _ _) (by rw [cellsTo_len]; exact n2)
    -- away
    refine ⟨_, rfl, S, rfl, ⟨_, hS⟩, fun D hD => lc_list (K := K) (a := S) (xs := iv (sideL n web e)) (fun j H3 => Loc H2 H3 [(D, .lst (iv (((sideL n web e).take j).filter fun c => !decide (loc log c ∈ sideL n web e))))]) ((Loc.refl H2).alloc hD) (fun j H3 _ l3 => l3.same.seq hS) ?_ ?_⟩
    · rintro j x H3 hx l3
      obtain ⟨c, hc, rfl⟩ := iv_inv hx
      have hci := sin c (List.mem_of_getElem? hc)
      refine ⟨rfl, _, rfl, _, rfl, _, _, rfl, rfl, d, _, _, _, rfl, rfl, l3.same.seq hd2, at_of (j := (c - 1).toNat) (by omega) (iv_get (arrL_get hci)), _, rfl, notin_row (l3.same.seq hS) _ ⟨_, rfl, ?_⟩⟩
      rw [filt_take hc]
      cases eb : !decide (loc log c ∈ sideL n web e) with
      | true =>
        refine iteTT rfl ⟨_, rfl, _, l3.at0, sl_line' (by rw [iv_len]; exact Nat.lt_of_le_of_lt filt_len (by omega)), ?_⟩
        rw [if_pos rfl, iv_snoc]
        exact l3.put0
      | false =>
        refine iteFF rfl ?_
        rw [if_neg (by decide), List.append_nil]
        exact l3
    rintro H3 l3
    rw [iv_len, List.take_length] at l3
    have eA : ((sideL n web e).filter fun c => !decide (loc log c ∈ sideL n web e)) = [A0] := filter_one snd cr.sa fun c hc => by
      rw [Bool.eq_iff_iff, Bool.not_eq_true', decide_eq_false_iff_not, decide_eq_true_eq, ← cr.goes c]
      exact ⟨fun h => ⟨hc, h⟩, fun h => h.2⟩
    rw [eA] at l3
    have s3 := l3.same
    have hA3 : SqL K H3 D (iv [A0]) := SqL.of l3.at0
    clear l3
    -- back
    refine ⟨_, rfl, _, _, rfl, rfl, _, _, rfl, ⟨by omega, by omega, by omega, by omega⟩, fun D2 hD2 => lc_range (lo := 1) (n := ((n : Int) + 1 - 1).toNat)
      (fun j H4 => Loc H3 H4 [(D2, .lst (iv ((cellsTo j).filter fun c => !decide (c ∈ sideL n web e) && decide (loc log c ∈ sideL n web e))))]) ((Loc.refl H3).alloc hD2) ?_ ?_⟩
    · rintro j H4 hj l4
      have hj' : j < n := by omega
      have hcj : 1 ≤ (j : Int) + 1 ∧ (j : Int) + 1 ≤ n := by omega
      have ej : (1 : Int) + j = (j : Int) + 1 := by omega
      rw [ej]
      have hS4 := (s3.trans l4.same).seq hS
      have put : ∀ c : Bool, (!decide ((j : Int) + 1 ∈ sideL n web e) && decide (loc log ((j : Int) + 1) ∈ sideL n web e)) = c → c = false → Loc H3 H4 [(D2, .lst (iv ((cellsTo (j + 1)).filter fun c => !decide (c ∈ sideL n web e) && decide (loc log c ∈ sideL n web e))))] := fun c h1 h2 => by
        rw [cellsTo_succ, List.filter_append, List.filter_cons_of_neg (by rw [h1, h2]; decide)]
        simpa using l4
      refine ⟨rfl, _, rfl, _, rfl, notin_row hS4 _ ⟨_, rfl, ?_⟩⟩
      cases e1 : decide ((j : Int) + 1 ∈ sideL n web e) with
      | true => exact iteFF rfl (put _ rfl (by rw [e1]; rfl))
      | false =>
        refine iteTT rfl ⟨_, rfl, _, rfl, _, _, rfl, rfl, d, _, _, _, rfl, rfl, (s3.trans l4.same).seq hd2, at_of (j := j) (by omega) (iv_get (by have := arrL_get (p := loc log) hcj; rwa [show ((j : Int) + 1 - 1).toNat = j by omega] at this)), _, rfl, in_row hS4 _ ⟨_, rfl, ?_⟩⟩
        cases e2 : decide (loc log ((j : Int) + 1) ∈ sideL n web e) with
        | false => exact iteFF rfl (put _ rfl (by rw [e1, e2]; rfl))
        | true =>
          refine iteTT rfl ⟨_, rfl, _, l4.at0, sl_line' (by rw [iv_len]; exact Nat.lt_of_le_of_lt (List.length_filter_le _ _) (by rw [cellsTo_len]; omega)), ?_⟩
          rw [cellsTo_succ, List.filter_append, List.filter_cons_of_pos (by rw [e1, e2]; rfl), List.filter_nil, iv_snoc]
          exact l4.put0
    rintro H4 l4
    rw [show ((n : Int) + 1 - 1).toNat = n by omega] at l4
    have eB : ((cellsTo n).filter fun c => !decide (c ∈ sideL n web e) && decide (loc log c ∈ sideL n web e)) = [B0] := filter_one (cellsTo_nodup n) (mem_cellsTo.mpr cr.ib) fun c hc => by
      rw [Bool.eq_iff_iff, Bool.and_eq_true, Bool.not_eq_true', decide_eq_false_iff_not, decide_eq_true_eq, decide_eq_true_eq, ← cr.comes c]
    rw [eB] at l4
    have s4 := s3.trans l4.same
    have hA4 : SqL K H4 D (iv [A0]) := l4.same.seq hA3
    have hB4 : SqL K H4 D2 (iv [B0]) := SqL.of l4.at0
    have hS4 := s4.seq hS
    have hd4 : IsInts K H4 d (arrL n (loc log)) := s4.seq hd2
    have hb4 := hb2.grow s4
    have s04 := s02.trans s4
    clear l4 hA3 s3 s4 s02 hd2 hS hb2
    refine ⟨_, rfl, D, _, rfl, .inl hA4, rfl, _, rfl, iteFF rfl ⟨_, rfl, D2, _, rfl, .inl hB4, rfl, _, rfl, iteFF rfl ?_⟩⟩
    -- both
    have inR : ∀ row ∈ roundsF n (loc log), ∃ c : Int, (1 ≤ c ∧ c ≤ n) ∧ row = ring n (loc log) c := fun row hr => by
      obtain ⟨c, hc, rfl⟩ := List.mem_map.mp hr
      exact ⟨c, mem_cellsTo.mp (List.mem_filter.mp hc).1, rfl⟩
    refine ⟨_, rfl, d, n, loc log, rfl, n2, hp, hd4, fun H5 p rs er l5 => ?_⟩
    have rl : rs.length < 100000 := by
      rw [← vals_len rs, er]
      exact Nat.lt_of_le_of_lt (rounds_le n _) (by omega)
    have hr5 : ∀ x ∈ rs, SqL K H5 x.1 (iv x.2) := fun x hx => SqL.of (l5.here (x.1, .lst (iv x.2)) (.tail _ (List.mem_map.mpr ⟨x, hx, rfl⟩)))
    have hp5 : SqL K H5 p (refs rs) := SqL.of l5.at0
    have s45 := l5.same
    clear l5
    refine ⟨p, rfl, ⟨_, hp5⟩, fun D3 hD3 => lc_list (K := K) (a := p) (xs := refs rs) (fun j H6 => Loc H5 H6 [(D3, .lst (refs ((rs.take j).filter fun x => decide (A0 ∈ x.2))))]) ((Loc.refl H5).alloc hD3) (fun j H6 _ l6 => l6.same.seq hp5) ?_ ?_⟩
    · rintro j x H6 hx l6
      obtain ⟨⟨r, row⟩, hq, rfl⟩ := refs_inv hx
      have hm := List.mem_of_getElem? hq
      obtain ⟨c, hc, rfl⟩ := inR row (by rw [← er]; exact List.mem_map.mpr ⟨_, hm, rfl⟩)
      have hr6 := l6.same.seq (hr5 _ hm)
      have hS6 := (s45.trans l6.same).seq hS4
      have rlen := (hp.ring_len hc).2
      refine ⟨rfl, _, rfl, r, rfl, ⟨_, hr6⟩, fun D4 hD4 => lc_list (K := K) (a := r) (xs := iv (ring n (loc log) c)) (fun m H7 => Loc H6 H7 [(D4, .lst (iv (((ring n (loc log) c).take m).filter fun x => decide (x ∈ sideL n web e))))]) ((Loc.refl H6).alloc hD4) (fun m H7 _ l7 => l7.same.seq hr6) ?_ ?_⟩
      · rintro m x H7 hx l7
        obtain ⟨y, hy, rfl⟩ := iv_inv hx
        refine ⟨rfl, _, rfl, _, rfl, in_row (l7.same.seq hS6) _ ⟨_, rfl, ?_⟩⟩
        rw [filt_take hy]
        cases eb : decide (y ∈ sideL n web e) with
        | true =>
          refine iteTT rfl ⟨_, rfl, _, l7.at0, sl_line' (by rw [iv_len]; exact Nat.lt_of_le_of_lt filt_len (by omega)), ?_⟩
          rw [if_pos rfl, iv_snoc]
          exact l7.put0
        | false =>
          refine iteFF rfl ?_
          rw [if_neg (by decide), List.append_nil]
          exact l7
      rintro H7 l7
      rw [iv_len, List.take_length] at l7
      refine ⟨Nat.zero_le _, fun E1 hE1 => ⟨_, rfl, sl2, fun E2 hE2 => ?_⟩⟩
      have l8 := (l7.alloc (o := .lst (iv [])) hE1).alloc (o := .lst [.ref E1, .ref r]) hE2
      refine ⟨dI ((ring n (loc log) c).filter fun x => decide (x ∈ sideL n web e)), [dI [], dI (ring n (loc log) c)], IsInts.dp (SqL.of (l8.atIx (i := 2) rfl)), dp_two (SqL.of (l8.atIx (i := 0) rfl)) (IsInts.dp (ns := []) (SqL.of (l8.atIx (i := 1) rfl))) (IsInts.dp (l8.same.seq hr6)), shaped_dI _, shaped_dR [[], _], ?_⟩
      have l9 := l6.ext l8.same
      have val : (!([dI [], dI (ring n (loc log) c)].any fun z => PyData.eqv z (dI ((ring n (loc log) c).filter fun x => decide (x ∈ sideL n web e))))) = decide (A0 ∈ ring n (loc log) c) := by
        rw [List.any_cons, List.any_cons, List.any_nil, eqv_dI, eqv_dI, Bool.eq_iff_iff, decide_eq_true_eq, ← cr.mixed hc]
        rw [Bool.or_false, Bool.not_eq_true', Bool.or_eq_false_iff, decide_eq_false_iff_not, decide_eq_false_iff_not]
        exact ⟨fun h => ⟨fun e => h.1 e.symm, fun e => h.2 e.symm⟩, fun h => ⟨fun e => h.1 e.symm, fun e => h.2 e.symm⟩⟩
      rw [val]
      refine ⟨_, rfl, ?_⟩
      rw [filt_take hq]
      cases eb : decide (A0 ∈ ring n (loc log) c) with
      | true =>
        refine iteTT rfl ⟨_, rfl, _, l9.at0, sl_line' (by rw [refs_len]; exact Nat.lt_of_le_of_lt filt_len rl), ?_⟩
        rw [if_pos rfl, refs_snoc]
        exact l9.put0
      | false =>
        refine iteFF rfl ?_
        rw [if_neg (by decide), List.append_nil]
        exact l9
    rintro H6 l6
    rw [refs_len, List.take_length] at l6
    have s6 := s45.trans l6.same
    have bothV : vals (rs.filter fun x => decide (A0 ∈ x.2)) = (roundsF n (loc log)).filter fun row => decide (A0 ∈ row) := (vals_filt (fun row => decide (A0 ∈ row)) rs).trans (by rw [er])
    have rows6 : IsRows K H6 D3 ((roundsF n (loc log)).filter fun row => decide (A0 ∈ row)) := ⟨_, bothV, SqL.of l6.at0, fun x hx => l6.same.seq (hr5 x (List.mem_filter.mp hx).1)⟩
    obtain ⟨c0, hc0, rc0, lc0⟩ := hp.has_lead cr.ia
    have one : (roundsF n (loc log)).filter (fun row => decide (A0 ∈ row)) = [ring n (loc log) c0] := by
      unfold roundsF
      rw [List.filter_map]
      have : ((cellsTo n).filter (lead n (loc log))).filter ((fun row => decide (A0 ∈ row)) ∘ ring n (loc log)) = [c0] := by
        refine filter_one ((cellsTo_nodup n).sublist List.filter_sublist) (List.mem_filter.mpr ⟨mem_cellsTo.mpr hc0, lc0⟩) fun y hy => ?_
        obtain ⟨y1, y2⟩ := List.mem_filter.mp hy
        have y1 := mem_cellsTo.mp y1
        show decide (A0 ∈ ring n (loc log) y) = decide (y = c0)
        rw [decide_eq_decide, hp.mem_ring' y1]
        exact ⟨fun h => hp.lead_one y1 hc0 y2 lc0 (h.trans (hp.symm hc0 rc0)), fun h => by rw [h]; exact rc0⟩
      rw [this, List.map_cons, List.map_nil]
    have rows6' := rows6
    rw [one] at rows6'
    obtain ⟨rs1, e1, h1, h2⟩ := rows6'
    obtain ⟨r0, rfl⟩ : ∃ r0, rs1 = [(r0, ring n (loc log) c0)] := by
      match rs1, e1 with
      | [x], e1 => exact ⟨x.1, by rw [← List.singleton_inj.mp e1]⟩
      | [], e1 => exact absurd (congrArg List.length e1) (by simp [vals])
      | x :: y :: z, e1 => exact absurd (congrArg List.length e1) (by simp [vals])
    have hD3 : SqL K H6 D3 [.ref r0] := h1
    have hr0 : SqL K H6 r0 (iv (ring n (loc log) c0)) := h2 _ (List.mem_singleton.mpr rfl)
    have hA6 := s6.seq hA4
    have hB6 := s6.seq hB4
    have hS6 := s6.seq hS4
    have hd6 : IsInts K H6 d (arrL n (loc log)) := s6.seq hd4
    have hb6 := hb4.grow s6
    have s06 := s04.trans s6
    clear rs er rl hr5 hp5 s45 l6 bothV h1 h2 e1 s6 hA4 hB4 hS4 hd4 hb4 s04
    -- the rounds with it
    refine ⟨_, rfl, ?_⟩
    refine ⟨_, rfl, d, n, loc log, rfl, n2, hp, hd6, fun H7 p rs er l7 => ?_⟩
    have rl : rs.length < 100000 := by
      rw [← vals_len rs, er]
      exact Nat.lt_of_le_of_lt (rounds_le n _) (by omega)
    have hr7 : ∀ x ∈ rs, SqL K H7 x.1 (iv x.2) := fun x hx => SqL.of (l7.here (x.1, .lst (iv x.2)) (.tail _ (List.mem_map.mpr ⟨x, hx, rfl⟩)))
    have hp7 : SqL K H7 p (refs rs) := SqL.of l7.at0
    have s67 := l7.same
    clear l7
    refine ⟨p, rfl, ⟨_, hp7⟩, fun D5 hD5 => lc_list (K := K) (a := p) (xs := refs rs) (fun j H8 => Loc H7 H8 [(D5, .lst (refs ((rs.take j).filter fun x => decide (A0 ∈ x.2))))]) ((Loc.refl H7).alloc hD5) (fun j H8 _ l8 => l8.same.seq hp7) ?_ ?_⟩
    · rintro j x H8 hx l8
      obtain ⟨⟨r, row⟩, hq, rfl⟩ := refs_inv hx
      have s68 := s67.trans l8.same
      refine ⟨rfl, _, rfl, D, _, _, _, rfl, rfl, s68.seq hA6, at_of (j := 0) rfl rfl, _, rfl, in_row (l8.same.seq (hr7 _ (List.mem_of_getElem? hq))) _ ⟨_, rfl, ?_⟩⟩
      rw [filt_take hq]
      cases eb : decide (A0 ∈ row) with
      | true =>
        refine iteTT rfl ⟨_, rfl, _, l8.at0, sl_line' (by rw [refs_len]; exact Nat.lt_of_le_of_lt filt_len rl), ?_⟩
        rw [if_pos rfl, refs_snoc]
        exact l8.put0
      | false =>
        refine iteFF rfl ?_
        rw [if_neg (by decide), List.append_nil]
        exact l8
    rintro H8 l8
    rw [refs_len, List.take_length] at l8
    have s68 := s67.trans l8.same
    have rows8 : IsRows K H8 D5 ((roundsF n (loc log)).filter fun row => decide (A0 ∈ row)) := ⟨_, (vals_filt (fun row => decide (A0 ∈ row)) rs).trans (by rw [er]), SqL.of l8.at0, fun x hx => l8.same.seq (hr7 x (List.mem_filter.mp hx).1)⟩
    have hD8 := s68.seq hD3
    have hr8 := s68.seq hr0
    have hS8 := s68.seq hS6
    have hb8 := hb6.grow s68
    have s08 := s06.trans s68
    have inB : B0 ∈ ring n (loc log) c0 := (hp.mem_ring' hc0).mpr (cr.both hc0 rc0)
    have inA : A0 ∈ ring n (loc log) c0 := (hp.mem_ring' hc0).mpr rc0
    have rlen := (hp.ring_len hc0).2
    refine ⟨_, _, (rows6.grow s68).dp, rows8.dp, shaped_dR _, shaped_dR _, ?_⟩
    rw [eqv_dR, decide_eq_true rfl]
    refine ⟨_, rfl, iteFF rfl ⟨_, rfl, D2, _, _, _, rfl, rfl, s68.seq hB6, at_of (j := 0) rfl rfl, _, rfl, D3, _, _, _, rfl, rfl, hD8, at_of (j := 0) rfl rfl, notin_row hr8 _ ⟨_, rfl, iteFF (by rw [decide_eq_true inB]; rfl) ?_⟩⟩⟩
    clear rs er rl hr7 hp7 s67 l8 rows8 rows6 s68 hD3 hr0 hS6 hb6 s06 hA6 hB6
    -- links
    have cd : cutV (iv (ring n (loc log) c0)) (some 1) none = iv ((ring n (loc log) c0).drop 1) := (cut_from (xs := iv (ring n (loc log) c0)) (k := 1)).trans List.map_drop.symm
    have ct : cutV (iv (ring n (loc log) c0)) none (some 1) = iv ((ring n (loc log) c0).take 1) := (cut_to (xs := iv (ring n (loc log) c0)) (k := 1)).trans List.map_take.symm
    refine ⟨_, rfl, D3, _, _, _, rfl, rfl, hD8, at_of (j := 0) rfl rfl, _, rfl, D3, _, _, _, rfl, rfl, hD8, at_of (j := 0) rfl rfl, _, rfl, r0, _, rfl, hr8, fun p1 hp1 => ?_⟩
    rw [cd]
    have l1 := (Loc.refl H8).alloc (o := .lst (iv ((ring n (loc log) c0).drop 1))) hp1
    refine ⟨_, rfl, D3, _, _, _, rfl, rfl, l1.same.seq hD8, at_of (j := 0) rfl rfl, _, rfl, r0, _, rfl, l1.same.seq hr8, fun p2 hp2 => ?_⟩
    rw [ct]
    have l2 := l1.alloc (o := .lst (iv ((ring n (loc log) c0).take 1))) hp2
    have catl : iv ((ring n (loc log) c0).drop 1) ++ iv ((ring n (loc log) c0).take 1) = iv ((ring n (loc log) c0).map (loc log)) := by
      rw [← ring_next hp hc0]
      exact List.map_append.symm
    refine ⟨p1, p2, _, _, rfl, rfl, l2.atIx (i := 1) rfl, l2.at0, by rw [iv_len, iv_len, List.length_drop, List.length_take]; exact Nat.le_of_lt (sl_line' (by omega)), fun o ho => ?_⟩
    rw [catl]
    have l3 := l2.alloc (o := .lst (iv ((ring n (loc log) c0).map (loc log)))) ho
    refine ⟨r0, o, _, _, rfl, l3.same.seq hr8, SqL.of l3.at0, sl_line' (by rw [iv_len]; omega), fun H9 L ts l9 ets => ?_⟩
    rw [zip_next] at ets
    have s89 := l3.same.trans l9.same
    have hL9 : SqL K H9 L (refs ts) := SqL.of l9.at0
    have ht9 : ∀ x ∈ ts, SqT K H9 x.1 [x.2.1, x.2.2] := fun x hx => SqT.of (l9.here (x.1, .tup [x.2.1, x.2.2]) (.tail _ (List.mem_map.mpr ⟨x, hx, rfl⟩)))
    have hS9 := s89.seq hS8
    have hb9 := hb8.grow s89
    have s09 := s08.trans s89
    have tl : ts.length = (ring n (loc log) c0).length := by
      have := congrArg List.length ets
      rwa [vals_len, List.length_map] at this
    clear l1 l2 l3 l9
    refine ⟨_, rfl, L, rfl, ⟨_, hL9⟩, fun D6 hD6 => lc_list (K := K) (a := L) (xs := refs ts) (fun j H10 => Loc H9 H10 [(D6, .lst ((((ring n (loc log) c0).take j).filter fun c => decide (c ∈ sideL n web e) != decide (loc log c ∈ sideL n web e)).map fun _ => V.int 1))]) ((Loc.refl H9).alloc hD6) (fun j H10 _ l => l.same.seq hL9) ?_ ?_⟩
    · rintro j x H10 hx l
      obtain ⟨⟨T, x1, x2⟩, hq, rfl⟩ := refs_inv hx
      have hT := Same.sqT l.same (ht9 _ (List.mem_of_getElem? hq))
      obtain ⟨c, hcj, e1, e2⟩ : ∃ c, (ring n (loc log) c0)[j]? = some c ∧ x1 = .int c ∧ x2 = .int (loc log c) := by
        have h1 : (vals ts)[j]? = some (x1, x2) := by unfold vals; rw [List.getElem?_map, hq]; rfl
        rw [ets, List.getElem?_map] at h1
        cases h2 : (ring n (loc log) c0)[j]? with
        | none => rw [h2] at h1; cases h1
        | some c =>
          rw [h2] at h1
          have h3 := Option.some.inj h1
          exact ⟨c, rfl, (congrArg Prod.fst h3).symm, (congrArg Prod.snd h3).symm⟩
      subst e1 e2
      have hS10 := l.same.seq hS9
      refine ⟨T, _, rfl, hT, rfl, _, _, rfl, _, _, rfl, rfl, rfl, ?_⟩
      refine ⟨_, rfl, _, rfl, in_row hS10 _ ⟨_, rfl, _, rfl, in_row hS10 _ ⟨rfl, _, rfl, ?_⟩⟩⟩
      rw [filt_take hcj]
      have ev : (!decide (V.bl (decide (c ∈ sideL n web e)) = V.bl (decide (loc log c ∈ sideL n web e)))) = (decide (c ∈ sideL n web e) != decide (loc log c ∈ sideL n web e)) := bl_ne _ _
      cases eb : decide (c ∈ sideL n web e) != decide (loc log c ∈ sideL n web e) with
      | true =>
        refine iteTT (by rw [← eb]; exact ev) ⟨_, l.at0, sl_line' (by rw [List.length_map]; exact Nat.lt_of_le_of_lt filt_len (by omega)), ?_⟩
        rw [if_pos rfl, List.map_append]
        exact l.put0
      | false =>
        refine iteFF (by rw [← eb]; exact ev) ?_
        rw [if_neg (by decide), List.append_nil]
        exact l
    rintro H10 l10
    rw [refs_len, List.take_of_length_le (by omega)] at l10
    have two := cr.two (hp.ring_nodup hc0) inA inB
    refine ⟨D6, _, rfl, .inl (SqL.of l10.at0), rfl, _, rfl, iteFF (by rw [List.length_map, two]; rfl) ?_⟩
    have hb10 := hb9.grow l10.same
    have hS10 := l10.same.seq hS9
    have s10 := s09.trans l10.same
    clear l10 hL9 ht9 hS9 hb9 s09 ets tl
    -- ways
    refine ⟨_, rfl, _, rfl, n, b, log, rfl, n1, n2, by omega, lv, lnd, hb10, fun H11 p rs l11 er => ?_⟩
    have hr11 : ∀ x ∈ rs, SqL K H11 x.1 (iv x.2) := fun x hx => SqL.of (l11.here (x.1, .lst (iv x.2)) (.tail _ (List.mem_map.mpr ⟨x, hx, rfl⟩)))
    have hp11 : SqL K H11 p (refs rs) := SqL.of l11.at0
    have hS11 := l11.same.seq hS10
    have s11 := s10.trans l11.same
    have rl : rs.length < 100000 := by
      rw [← vals_len rs, er]
      unfold waysL
      rw [tab_len]
      omega
    clear l11
    refine ⟨p, rfl, ⟨_, hp11⟩, fun D7 hD7 => lc_list (K := K) (a := p) (xs := refs rs) (fun j H12 => Loc H11 H12 [(D7, .lst (refs ((rs.take j).filter fun x => decide (x.2.headD 0 ∈ sideL n web e) != decide (x.2.getLastD 0 ∈ sideL n web e))))]) ((Loc.refl H11).alloc hD7) (fun j H12 _ l => l.same.seq hp11) ?_ ?_⟩
    · rintro j x H12 hx l
      obtain ⟨⟨r, row⟩, hq, rfl⟩ := refs_inv hx
      have hm := List.mem_of_getElem? hq
      have hr12 := l.same.seq (hr11 _ hm)
      obtain ⟨t1, ew⟩ : ∃ t1, row = way log t1 := by
        have h1 : row ∈ waysL n log := by rw [← er]; exact List.mem_map.mpr ⟨_, hm, rfl⟩
        obtain ⟨j, _, h2⟩ := tab_mem h1
        exact ⟨_, h2⟩
      have rne : row ≠ [] := by rw [ew]; exact way_ne _ _
      have h0 : row[0]? = some (row.headD 0) := by
        cases row with
        | nil => exact absurd rfl rne
        | cons x y => rfl
      have hS12 := l.same.seq hS11
      refine ⟨rfl, _, rfl, r, _, _, _, rfl, rfl, hr12, at_of (j := 0) rfl (iv_get h0), _, rfl, in_row hS12 _ ⟨_, rfl, _, rfl, r, _, _, _, rfl, rfl, hr12, at_lastI rne, _, rfl, in_row hS12 _ ⟨rfl, _, rfl, ?_⟩⟩⟩
      rw [filt_take hq]
      have ev : (!decide (V.bl (decide (row.headD 0 ∈ sideL n web e)) = V.bl (decide (row.getLastD 0 ∈ sideL n web e)))) = (decide (row.headD 0 ∈ sideL n web e) != decide (row.getLastD 0 ∈ sideL n web e)) := bl_ne _ _
      cases eb : decide (row.headD 0 ∈ sideL n web e) != decide (row.getLastD 0 ∈ sideL n web e) with
      | true =>
        refine iteTT (by rw [← eb]; exact ev) ⟨_, rfl, _, l.at0, sl_line' (by rw [refs_len]; exact Nat.lt_of_le_of_lt filt_len rl), ?_⟩
        rw [if_pos rfl, refs_snoc]
        exact l.put0
      | false =>
        refine iteFF (by rw [← eb]; exact ev) ?_
        rw [if_neg (by decide), List.append_nil]
        exact l
    rintro H12 l12
    rw [refs_len, List.take_length] at l12
    have cnt2 : (refs (rs.filter fun x => decide (x.2.headD 0 ∈ sideL n web e) != decide (x.2.getLastD 0 ∈ sideL n web e))).length = 2 := by
      rw [refs_len, ← vals_len, vals_filt (fun row => decide (row.headD 0 ∈ sideL n web e) != decide (row.getLastD 0 ∈ sideL n web e)) rs, er]
      have ew : waysL n log = (cellsTo n).map (way log) := by
        unfold waysL tab cellsTo
        rw [List.map_map]
        rfl
      rw [ew, List.filter_map, List.length_map]
      have two' := cr.two (cellsTo_nodup n) (mem_cellsTo.mpr cr.ia) (mem_cellsTo.mpr cr.ib)
      rw [← two']
      congr 1
      refine List.filter_congr fun c _ => ?_
      show (decide ((way log c).headD 0 ∈ sideL n web e) != decide ((way log c).getLastD 0 ∈ sideL n web e)) = _
      rw [way_last, List.headD_eq_head?_getD, way_head]
      rfl
    refine ⟨D7, _, rfl, .inl (SqL.of l12.at0), rfl, ?_⟩
    rw [cnt2]
    show Q (.bl (decide _)) _
    rw [decide_eq_true (by rfl)]
    exact q _ (s11.trans l12.same)
end

abbrev s_is_tree_web : Stmt := topS 12
theorem sc_is_tree_web : FnScope ["cells", "web"] ["cells", "web"] (defScope s_is_tree_web) := ⟨rfl, rfl, rfl, by decide +kernel, rfl, by decide +kernel, by decide +kernel⟩
def treeB (n : Nat) (web : List (Int × Int)) : Bool := decide ((web.length : Int) = n - 1) && decide (((pcs n web).length : Int) = 1)
section
variable {P : Program} {w : World} {K : PySem.W.Frag} {mg : Str → Option Value} {base : Heap}
def sp_is_tree_web (K : PySem.W.Frag) : Sp := fun vs H Q _ => ∃ (n : Nat) (a : Addr) (web : List (Int × Int)), vs = [.int n, .ref a] ∧ n ≤ 16 ∧ web.length ≤ 1000 ∧ ValidW n web ∧ IsPairs K H a web ∧
  ∀ H', Same H H' → Q (.bl (treeB n web)) H'
theorem ok_is_tree_web {f : Addr} {fd : FuncData} {k : Nat} (F : Fun K "is_tree_web" "is_tree_web" s_is_tree_web f fd) (z_len : mg "len" = none)
    (c_pieces_of : CalG P w K mg base k "pieces_of" s_pieces_of ["cells", "web"] (sp_pieces_of K)) : FG P w K mg base CX0 (k + 1) f fd ["cells", "web"] (sp_is_tree_web K) := by
  refine fg_fun F sc_is_tree_web (fun vs H Q E h => ?_) (fun cdv A out s H vs Q E hr hg h => ?_)
  · obtain ⟨n, a, web, rfl, _⟩ := h
    rfl
  · obtain ⟨n, a, web, rfl, hn, hw, hv, hp, q⟩ := h
    refine ⟨_, (pss_one (ps_ret (pe_and (pe_cmpR op_eq (pe_callB (call_len_seqK K rfl) (by rfl) z_len bt_len (pa_cons (pv 1) pa_nil)) (pe_op op_sub (pv 0) pe_int) (nomark _)) (pe_one (pe_cmpR op_eq (pe_callB (call_len_seqK K rfl) (by rfl) z_len bt_len (pa_cons (pe_cG c_pieces_of hr (by omega) hg (by rfl) (pa_cons (pv 0) (pa_cons (pv 1) pa_nil))) pa_nil)) pe_int (nomark _)))))), ?_⟩
    have hp2 := hp
    obtain ⟨ts, ets, hts, _⟩ := hp
    have lt : (refs ts).length = web.length := by rw [refs_len, ← ets, vals_len]
    refine ⟨_, rfl, _, _, rfl, .inl hts, _, rfl, _, _, rfl, rfl, rfl, _, rfl, ?_⟩
    rw [lt, dVI]
    refine ite2 (fun h1 => ?_) (fun h1 => ?_)
    · refine ⟨_, rfl, _, rfl, n, a, web, rfl, hn, hw, hv, hp2, fun H' p rs l er => ⟨_, _, rfl, .inl (SqL.of l.at0), rfl, ?_⟩⟩
      rw [dVI]
      have e : ((pcs n web).length : Int) = (refs rs).length := by rw [refs_len, ← er, vals_len]
      have q2 := q H' l.same
      unfold treeB at q2
      rw [h1, Bool.true_and, e] at q2
      exact q2
    · have q2 := q H (Same.refl H)
      unfold treeB at q2
      rw [show decide ((web.length : Int) = n - 1) = false from by simpa using h1, Bool.false_and] at q2
      exact q2
end

abbrev s_is_tree : Stmt := topS 13
theorem sc_is_tree : FnScope ["cells", "web"] ["cells", "web"] (defScope s_is_tree) := ⟨rfl, rfl, rfl, by decide +kernel, rfl, by decide +kernel, by decide +kernel⟩
section
variable {P : Program} {w : World} {K : PySem.W.Frag} {mg : Str → Option Value} {base : Heap}
def sp_is_tree (K : PySem.W.Frag) : Sp := fun vs H Q _ => ∃ (n : Nat) (a : Addr) (web : List (Int × Int)), vs = [.int n, .ref a] ∧ 1 ≤ n ∧ n ≤ 16 ∧ web.length ≤ 1000 ∧ ValidW n web ∧ IsPairs K H a web ∧
  ∀ H', Same H H' → Q (.bl (treeB n web)) H'
theorem ok_is_tree {f : Addr} {fd : FuncData} {k : Nat} (F : Fun K "is_tree" "is_tree" s_is_tree f fd)
    (c_check_web : CalG P w K mg base k "check_web" s_check_web ["cells", "web"] (sp_check_web K)) (c_is_tree_web : CalG P w K mg base k "is_tree_web" s_is_tree_web ["cells", "web"] (sp_is_tree_web K)) : FG P w K mg base CX0 (k + 1) f fd ["cells", "web"] (sp_is_tree K) := by
  refine fg_fun F sc_is_tree (fun vs H Q E h => ?_) (fun cdv A out s H vs Q E hr hg h => ?_)
  · obtain ⟨n, a, web, rfl, _⟩ := h
    rfl
  · obtain ⟨n, a, web, rfl, h1, hn, hw, hv, hp, q⟩ := h
    refine ⟨_, (pss_cons (ps_expr (pe_cG c_check_web hr (by omega) hg (by rfl) (pa_cons (pv 0) (pa_cons (pv 1) pa_nil))))
      (pss_one (ps_ret (pe_cG c_is_tree_web hr (by omega) hg (by rfl) (pa_cons (pv 0) (pa_cons (pv 1) pa_nil)))))), ?_⟩
    exact ⟨_, rfl, _, rfl, n, a, web, rfl, h1, hn, hv, hp, fun H1 sm => ⟨_, rfl, _, rfl, n, a, web, rfl, hn, hw, hv, hp.grow sm, fun H' sm2 => q H' (sm.trans sm2)⟩⟩
end

abbrev s__law_ends : Stmt := topS 28
theorem sc__law_ends : FnScope ["_law_size", "_law_made", "_law_things", "_law_one", "_law_two", "_law_told", "_law_k"] ["_law_size", "_law_made"] (defScope s__law_ends) := ⟨rfl, rfl, rfl, by decide +kernel, rfl, by decide +kernel, by decide +kernel⟩
section
variable {P : Program} {w : World} {K : PySem.W.Frag} {mg : Str → Option Value} {base : Heap}
def sp__law_ends (K : PySem.W.Frag) : Sp := fun vs H Q _ => ∃ (n : Nat) (a : Addr) (log : List (Int × Int)), vs = [.int n, .ref a] ∧ n ≤ 16 ∧ log.length ≤ 1000 ∧ ValidL n log ∧ IsPairs K H a log ∧
  ∀ H' p, Loc H H' [(p, .lst (iv (endsL n log)))] → Q (.ref p) H'
theorem ok__law_ends {f : Addr} {fd : FuncData} {k : Nat} (F : Fun K "_law_ends" "_law_ends" s__law_ends f fd) (z_list : mg "list" = none) (z_range : mg "range" = none) : FG P w K mg base CX0 (k + 1) f fd ["_law_size", "_law_made"] (sp__law_ends K) := by
  refine fg_fun F sc__law_ends (fun vs H Q E h => ?_) (fun cdv A out s H vs Q E hr hg h => ?_)
  · obtain ⟨n, a, log, rfl, _⟩ := h
    rfl
  · obtain ⟨n, a, log, rfl, hn, hl, hv, hp, q⟩ := h
    refine ⟨_, (pss_cons (ps_set (i := 2) sc__law_ends.nd rfl (.inl rfl) (pe_listRg rfl (by rfl) z_list (prg_1 (by rfl) z_range (pe_op op_add (pv 0) pe_int))))
      (pss_cons (ps_for PassesOwn.never rfl (pi_listK K rfl (pv 1)) (pg_tupK K rfl rfl (pgs_cons (pg_name (i := 3) sc__law_ends.nd rfl (.inl rfl)) (pgs_cons (pg_name (i := 4) sc__law_ends.nd rfl (.inl rfl)) pgs_nil)))
        (pss_one (ps_asg (pe_tup (pa_cons (pe_ix (ix_listK K rfl) (pv 2) (pv 4) (fun _ _ => rfl)) (pa_cons (pe_ix (ix_listK K rfl) (pv 2) (pv 3) (fun _ _ => rfl)) pa_nil))) (pg_tupK K rfl rfl (pgs_cons (pg_sub (pv 2) (pv 3) set_list) (pgs_cons (pg_sub (pv 2) (pv 4) set_list) pgs_nil))))))
      (pss_cons (ps_set (i := 5) sc__law_ends.nd rfl (.inl rfl) (pe_op op_rep (pe_lst (pa_cons pe_int pa_nil)) (pv 0)))
      (pss_cons (ps_for PassesOwn.never rfl (pi_range2 (by rfl) z_range (pa_cons pe_int (pa_cons (pe_op op_add (pv 0) pe_int) pa_nil))) (pg_name (i := 6) sc__law_ends.nd rfl (.inl rfl))
        (pss_one (ps_asg (pv 6) (pg_sub (pv 5) (pe_op op_sub (pe_ix (ix_listK K rfl) (pv 2) (pv 6) (fun _ _ => rfl)) pe_int) set_list))))
      (pss_one (ps_ret (pv 5))))))), ?_⟩
    refine ⟨_, rfl, _, _, rfl, rfl, _, rfl, RgOk.of_le (by omega) (by omega) (by omega) (by omega), fun th hth => ?_⟩
    rw [thgs_start]
    have l0 := (Loc.refl H).alloc (o := .lst (iv (thgsL n []))) hth
    obtain ⟨ts, ets, hts, htt⟩ := hp
    refine ⟨_, rfl, a, rfl, ⟨_, l0.same.seq hts⟩, for_list (K := K) (a := a) (xs := refs ts)
      (fun i σ H2 => ∃ y3 y4 : Option V, σ = [some (.int n), some (.ref a), some (.ref th), y3, y4, none, none] ∧ Loc H H2 [(th, .lst (iv (thgsL n (log.take i))))]) ?_ ?_ ?_ ?_⟩
    · exact ⟨none, none, rfl, l0⟩
    · rintro i σ H2 _ ⟨_, _, _, l2⟩
      exact l2.same.seq hts
    · rintro i x σ H2 hx ⟨y4, y5, rfl, l2⟩
      obtain ⟨⟨b, x1, x2⟩, hq, rfl⟩ := refs_inv hx
      have hT := Same.sqT l2.same (htt _ (List.mem_of_getElem? hq))
      have hwi : log[i]? = some (x1, x2) := by
        rw [← ets]; unfold vals; rw [List.getElem?_map, hq]; rfl
      have hvs : ValidL n (log.take i ++ [(x1, x2)]) := by rw [← take_snoc hwi]; exact fun q hq => hv q (List.mem_of_mem_take hq)
      obtain ⟨v0, v1, v2, v3⟩ := hvs.init
      simp only at v1 v2 v3
      have tl : (thgsL n (log.take i)).length = n + 1 := tab_len
      have g1 : (iv (thgsL n (log.take i)))[x1.toNat]? = some (.int (ivr (log.take i) x1)) := iv_get (by
        unfold thgsL; rw [tab_get (by omega), show ((x1.toNat : Nat) : Int) = x1 from by omega])
      have g2 : (iv (thgsL n (log.take i)))[x2.toNat]? = some (.int (ivr (log.take i) x2)) := iv_get (by
        unfold thgsL; rw [tab_get (by omega), show ((x2.toNat : Nat) : Int) = x2 from by omega])
      have sT := SqL.of (K := K) l2.at0
      have A1 := at_of (xs := iv (thgsL n (log.take i))) (z := x1) (j := x1.toNat) (by omega) g1
      have A2 := at_of (xs := iv (thgsL n (log.take i))) (z := x2) (j := x2.toNat) (by omega) g2
      refine ⟨b, _, rfl, hT, rfl, _, _, rfl, _, _, rfl, rfl, ?_⟩
      refine ⟨_, rfl, _, rfl, th, _, _, _, rfl, rfl, sT, A2, _, rfl, _, rfl, th, _, _, _, rfl, rfl, sT, A1, sl2, fun T hT' => ?_⟩
      have l5 := (l2.alloc (o := .tup [.int (ivr (log.take i) x2), .int (ivr (log.take i) x1)]) hT').drop1
      have l6 := l5.put0 (o' := .lst (iv (((thgsL n (log.take i)).set x1.toNat (ivr (log.take i) x2)))))
      have l7 := l6.put0 (o' := .lst (iv (((thgsL n (log.take i)).set x1.toNat (ivr (log.take i) x2)).set x2.toNat (ivr (log.take i) x1))))
      have s1' : (iv (thgsL n (log.take i))).set x1.toNat (.int (ivr (log.take i) x2)) = iv ((thgsL n (log.take i)).set x1.toNat (ivr (log.take i) x2)) := List.map_set.symm
      have s2' : (iv ((thgsL n (log.take i)).set x1.toNat (ivr (log.take i) x2))).set x2.toNat (.int (ivr (log.take i) x1)) = iv (((thgsL n (log.take i)).set x1.toNat (ivr (log.take i) x2)).set x2.toNat (ivr (log.take i) x1)) := List.map_set.symm
      refine ⟨T, _, rfl, .inl (.inl upd_same), rfl, _, _, rfl, _, rfl, _, rfl, th, _, _, x1.toNat, rfl, rfl, l5.at0, ixI (by show 0 ≤ x1; omega) (by rw [iv_len]; show x1.toNat < _; omega), ?_⟩
      rw [s1']
      refine ⟨_, _, rfl, _, rfl, _, rfl, th, _, _, x2.toNat, rfl, rfl, l6.at0, ixI (by show 0 ≤ x2; omega) (by rw [iv_len, List.length_set]; show x2.toNat < _; omega), rfl, ?_⟩
      rw [s2']
      refine ⟨_, _, rfl, ?_⟩
      rw [take_snoc hwi, thgs_step hvs]
      exact l7
    · rintro σ H2 ⟨y4, y5, rfl, l2⟩
      have full : log.take (refs ts).length = log := by
        rw [refs_len, ← vals_len ts, ets, List.take_length]
      rw [full] at l2
      refine ⟨sl1, fun e he => ⟨_, rfl, e, n, _, rfl, rfl, upd_same, by omega, by omega, Nat.le_of_lt (sl_line' (by simp; omega)), fun p hp => ?_⟩⟩
      have ez : (List.replicate (n : Int).toNat [V.int 0]).flatten = iv (tab n fun m => if loc log (m + 1) ≤ (0 : Nat) then loc log (m + 1) else 0) := by
        have e1 : tab n (fun m => if loc log (m + 1) ≤ (0 : Nat) then loc log (m + 1) else 0) = tab n fun _ => (0 : Int) := tab_ext fun j hj => by
          have := loc_in hv ((j : Int) + 1) (by omega)
          rw [if_neg (by omega)]
        rw [e1]
        have e2 : ∀ m : Nat, (List.replicate m [V.int 0]).flatten = iv (tab m fun _ => (0 : Int)) := fun m => by
          induction m with
          | zero => rfl
          | succ m ih => rw [List.replicate_succ', List.flatten_append, ih, tab_succ, iv_snoc]; rfl
        exact e2 n
      rw [ez]
      have l3 := ((l2.alloc (o := .lst [.int 0]) he).drop1).alloc (o := .lst (iv (tab n fun m => if loc log (m + 1) ≤ (0 : Nat) then loc log (m + 1) else 0))) hp
      refine ⟨_, rfl, _, _, rfl, rfl, _, _, rfl, by omega, for_range (lo := 1) (n := ((n : Int) + 1 - 1).toNat)
        (fun i σ H3 => ∃ y6 : Option V, σ = [some (.int n), some (.ref a), some (.ref th), y4, y5, some (.ref p), y6] ∧ Loc H H3 [(p, .lst (iv (tab n fun m => if loc log (m + 1) ≤ (i : Nat) then loc log (m + 1) else 0))), (th, .lst (iv (thgsL n log)))]) ?_ ?_ ?_⟩
      · exact ⟨none, rfl, l3⟩
      · rintro i σ H3 hi ⟨y6, rfl, l4⟩
        have ik := ivr_in hv (1 + (i : Int)) (by omega)
        have g1 : (iv (thgsL n log))[i + 1]? = some (.int (ivr log (1 + (i : Int)))) := iv_get (by
          unfold thgsL; rw [tab_get (by omega), show ((i + 1 : Nat) : Int) = 1 + (i : Int) from by omega])
        refine ⟨_, rfl, _, rfl, _, rfl, _, rfl, th, _, _, _, rfl, rfl, SqL.of (l4.atIx (i := 1) rfl), at_of (j := i + 1) (by show 1 + (i : Int) = _; omega) g1, _, _, rfl, rfl,
          p, _, _, (ivr log (1 + (i : Int)) - 1).toNat, rfl, rfl, l4.at0, ixI (by show 0 ≤ ivr log (1 + (i : Int)) - 1; omega) (by rw [iv_len, tab_len]; show (ivr log (1 + (i : Int)) - 1).toNat < n; omega), _, rfl, ?_⟩
        have es : (iv (tab n fun m => if loc log (m + 1) ≤ (i : Nat) then loc log (m + 1) else 0)).set (ivr log (1 + (i : Int)) - 1).toNat (.int (1 + (i : Int))) = iv (tab n fun m => if loc log (m + 1) ≤ ((i + 1 : Nat) : Int) then loc log (m + 1) else 0) := by
          have e0 : (iv (tab n fun m => if loc log (m + 1) ≤ (i : Nat) then loc log (m + 1) else 0)).set (ivr log (1 + (i : Int)) - 1).toNat (.int (1 + (i : Int))) = iv ((tab n fun m => if loc log (m + 1) ≤ (i : Nat) then loc log (m + 1) else 0).set (ivr log (1 + (i : Int)) - 1).toNat (1 + (i : Int))) := List.map_set.symm
          rw [e0, tab_set]
          congr 1
          refine tab_ext fun m hm => ?_
          have km : loc log ((m : Int) + 1) = 1 + i ↔ (m : Int) + 1 = ivr log (1 + i) := ⟨fun h => by rw [← h, ivr_loc], fun h => by rw [h, loc_ivr]⟩
          by_cases h1 : m = (ivr log (1 + (i : Int)) - 1).toNat
          · have h2 := km.mpr (by omega)
            rw [if_pos h1, h2, if_pos (by omega)]
          · have h2 : loc log ((m : Int) + 1) ≠ 1 + i := fun z => h1 (by have := km.mp z; omega)
            rw [if_neg h1]
            by_cases h3 : loc log ((m : Int) + 1) ≤ (i : Nat)
            · rw [if_pos h3, if_pos (by omega)]
            · rw [if_neg h3, if_neg (by omega)]
        rw [es]
        exact l4.put0
      · rintro σ H3 ⟨y6, rfl, l4⟩
        have ef : tab n (fun m => if loc log (m + 1) ≤ (((n : Int) + 1 - 1).toNat : Nat) then loc log (m + 1) else 0) = endsL n log := tab_ext fun j hj => by
          have := loc_in hv ((j : Int) + 1) (by omega)
          rw [if_pos (by omega)]
        rw [ef] at l4
        exact ⟨_, rfl, q H3 p (l4.keep (List.Sublist.cons_cons _ (List.nil_sublist _)))⟩
end

abbrev s__law_right : Stmt := topS 34
theorem sc__law_right : FnScope ["_law_size", "_law_some", "_law_made", "_law_kept", "_law_due", "_law_told", "_law_less", "_law_number", "_law_pair"] ["_law_size", "_law_some", "_law_made"] (defScope s__law_right) := ⟨rfl, rfl, rfl, by decide +kernel, rfl, by decide +kernel, by decide +kernel⟩
theorem brs_perm {n : Nat} {web log : List (Int × Int)} (hv : ValidW n web) (pm : log.Perm web) : (roundsF n (loc (log.filter fun f => decide (f ∉ brsL n web)))).length = (roundsF n (loc log)).length + (brsL n web).length := by
  refine bridges_out (hv.1.perm pm) (pm.nodup_iff.mpr hv.nodup) (brsL n web) (hv.nodup.sublist List.filter_sublist) fun e he => ?_
  obtain ⟨h1, h2⟩ := List.mem_filter.mp he
  exact ⟨pm.mem_iff.mpr h1, fun c => (brB_iff hv.1 (hv.1 e h1)).mp h2 ((conn_wo pm _ _).mp c)⟩
theorem tree_brs {n : Nat} {web : List (Int × Int)} (hv : ValidW n web) (t : treeB n web = true) : brsL n web = web := by
  unfold treeB at t
  rw [Bool.and_eq_true, decide_eq_true_eq, decide_eq_true_eq, cnt_pcs] at t
  exact List.filter_eq_self.mpr fun e he => (brB_iff hv.1 (hv.1 e he)).mpr (tree_bridge hv.1 hv.nodup he (by omega) (by omega))
theorem ite_keep {c : Bool} {A N R : Prop} (x : N) (h : c = true → N → A) : if c = true then A else (if false = true then R else N) := by
  cases c with
  | true => exact h rfl x
  | false => exact x
theorem eqvAll_prs : ∀ a b : List (Int × Int), PyData.eqvAll (a.map dE) (b.map dE) = decide (a = b)
  | [], [] => by simp [PyData.eqvAll]
  | [], _ :: _ => by simp [PyData.eqvAll]
  | _ :: _, [] => by simp [PyData.eqvAll]
  | x :: a, y :: b => by
    have ih := eqvAll_prs a b
    have e : PyData.eqvAll ((x :: a).map dE) ((y :: b).map dE) = (PyData.eqv (dE x) (dE y) && PyData.eqvAll (a.map dE) (b.map dE)) := by simp [PyData.eqvAll]
    rw [e, eqv_dE, ih]
    simp [List.cons.injEq]
theorem eqv_dP (a b : List (Int × Int)) : PyData.eqv (dP a) (dP b) = decide (a = b) := by
  have : PyData.eqv (dP a) (dP b) = PyData.eqvAll (a.map dE) (b.map dE) := by simp [dP, PyData.eqv]
  rw [this, eqvAll_prs]
section
variable {P : Program} {w : World} {K : PySem.W.Frag} {mg : Str → Option Value} {base : Heap}
def sp__law_right (K : PySem.W.Frag) : Sp := fun vs H Q _ => ∃ (n : Nat) (a b : Addr) (web log : List (Int × Int)), vs = [.int n, .ref a, .ref b] ∧ 1 ≤ n ∧ n ≤ 16 ∧ web.length ≤ 300 ∧ ValidW n web ∧ log.Perm web ∧ IsPairs K H a web ∧ IsPairs K H b log ∧
  ∀ H', Same H H' → Q (.bl true) H'
theorem ok__law_right {f : Addr} {fd : FuncData} {k : Nat} (F : Fun K "_law_right" "_law_right" s__law_right f fd) (z_repr : mg "repr" = none) (z_len : mg "len" = none)
    (c__law_bridges : CalG P w K mg base k "_law_bridges" s__law_bridges ["_law_size", "_law_some"] (sp__law_bridges K)) (c_bridges : CalG P w K mg base k "bridges" s_bridges ["cells", "web"] (sp_bridges K)) (k_bridges_web_cells : KwOk "bridges" s_bridges ["cells", "web"] ["web", "cells"] turn2 turn2)
    (c_ends : CalG P w K mg base k "ends" s_ends ["cells", "log"] (sp_ends K)) (c__law_ends : CalG P w K mg base k "_law_ends" s__law_ends ["_law_size", "_law_made"] (sp__law_ends K)) (c__law_rounds : CalG P w K mg base k "_law_rounds" s__law_rounds ["_law_told"] (sp__law_rounds K))
    (c_is_tree : CalG P w K mg base k "is_tree" s_is_tree ["cells", "web"] (sp_is_tree K)) (c__law_over_right : CalG P w K mg base k "_law_over_right" s__law_over_right ["_law_size", "_law_some", "_law_made", "_law_pair"] (sp__law_over_right K)) :
    FG P w K mg base CX0 (k + 1) f fd ["_law_size", "_law_some", "_law_made"] (sp__law_right K) := by
  refine fg_fun F sc__law_right (fun vs H Q E h => ?_) (fun cdv A out s H vs Q E hr hg h => ?_)
  · obtain ⟨_, _, _, _, _, rfl, _⟩ := h
    rfl
  · have hu64 := hr.units
    have hu65 : (A.deeper (envOfC "_law_right" (defScope s__law_right) s.heap.objs.size f cdv)).units + 65 < cLine := by have := hr.un; omega
    obtain ⟨n, a, b, web, log, rfl, n1, n2, wl, hv, pm, ha, hb, q⟩ := h
    refine ⟨_, (pss_cons (ps_set (i := 3) sc__law_right.nd rfl (.inl rfl) (pe_callB (call_reprDK K rfl hu64 hg) (by rfl) z_repr bt_repr (pa_cons (pe_lst (pa_cons (pv 1) (pa_cons (pv 2) pa_nil))) pa_nil)))
      (pss_cons (ps_set (i := 4) sc__law_right.nd rfl (.inr rfl) (pe_cG c__law_bridges hr (by omega) hg (by rfl) (pa_cons (pv 0) (pa_cons (pv 1) pa_nil))))
      (pss_cons (ps_set (i := 5) sc__law_right.nd rfl (.inl rfl) (pe_lst (pa_cons (pe_cG c_bridges hr (by omega) hg (by rfl) (pa_cons (pv 0) (pa_cons (pv 1) pa_nil))) (pa_cons (pe_ckG c_bridges k_bridges_web_cells hr (by omega) hg (by rfl) (pk_cons (pv 1) (pk_cons (pv 0) pk_nil))) pa_nil))))
      (pss_cons (ps_if (PW.pt (pw_or (pt_cmpR op_ne (pe_callB (call_reprDK K rfl hu64 hg) (by rfl) z_repr bt_repr (pa_cons (pv 5) pa_nil)) (pe_callB (call_reprDK K rfl hu64 hg) (by rfl) z_repr bt_repr (pa_cons (pe_lst (pa_cons (pv 4) (pa_cons (pv 4) pa_nil))) pa_nil)) (nomark _)) (pw_or1 (pt_cmpR op_ne (pe_callB (call_reprDK K rfl hu64 hg) (by rfl) z_repr bt_repr (pa_cons (pe_lst (pa_cons (pv 1) (pa_cons (pv 2) pa_nil))) pa_nil)) (pv 3) (nomark _)))))
        (pss_one (ps_ret pe_bl))
        pss_nil)
      (pss_cons (ps_setLc (i := 6) (own := [("_law_pair", 8)]) rfl sc__law_right.nd rfl rfl (sw_true rfl rfl rfl (by decide +kernel)) (pi_listK K rfl (pv 2)) (blkOk_by (N := ["_law_size", "_law_some", "_law_made", "_law_kept", "_law_due", "_law_told", "_law_less", "_law_number", "_law_pair"]) (sc := defScope s__law_right) (by decide +kernel)) (fun _ _ _ _ _ => (pg_name (i := 8) sc__law_right.nd rfl (Or.inl rfl))) (fun _ _ _ _ _ => (pts_one (pt_cmpR (op_notInDK K rfl hu65) (pv 8) (pv 4) (by rfl)))) (fun _ _ _ _ _ => (pv 8)))
      (pss_cons (ps_if (PW.pt (pw_or (pt_cmpR (op_neDK K rfl hu64) (pe_cG c_ends hr (by omega) hg (by rfl) (pa_cons (pv 0) (pa_cons (pv 2) pa_nil))) (pe_cG c__law_ends hr (by omega) hg (by rfl) (pa_cons (pv 0) (pa_cons (pv 2) pa_nil))) (nomark _)) (pw_or1 (pt_cmpR (op_neDK K rfl hu64) (pe_cG c_ends hr (by omega) hg (by rfl) (pa_cons (pv 0) (pa_cons (pv 6) pa_nil))) (pe_cG c__law_ends hr (by omega) hg (by rfl) (pa_cons (pv 0) (pa_cons (pv 6) pa_nil))) (nomark _)))))
        (pss_one (ps_ret pe_bl))
        pss_nil)
      (pss_cons (ps_set (i := 7) sc__law_right.nd rfl (.inl rfl) (pe_op op_add (pe_callB (call_len_seqK K rfl) (by rfl) z_len bt_len (pa_cons (pe_cG c__law_rounds hr (by omega) hg (by rfl) (pa_cons (pe_cG c_ends hr (by omega) hg (by rfl) (pa_cons (pv 0) (pa_cons (pv 2) pa_nil))) pa_nil)) pa_nil)) (pe_callB (call_len_seqK K rfl) (by rfl) z_len bt_len (pa_cons (pv 4) pa_nil))))
      (pss_cons (ps_if (PW.pt (pw_or (pt_cmpR op_ne (pv 7) (pe_callB (call_len_seqK K rfl) (by rfl) z_len bt_len (pa_cons (pe_cG c__law_rounds hr (by omega) hg (by rfl) (pa_cons (pe_cG c_ends hr (by omega) hg (by rfl) (pa_cons (pv 0) (pa_cons (pv 6) pa_nil))) pa_nil)) pa_nil)) (nomark _)) (pw_or1 (PW.pt (pw_and (pt_val (pe_cG c_is_tree hr (by omega) hg (by rfl) (pa_cons (pv 0) (pa_cons (pv 1) pa_nil)))) (pw_and1 (pt_cmpR (op_neDK K rfl hu64) (pv 4) (pv 1) (nomark _))))))))
        (pss_one (ps_ret pe_bl))
        pss_nil)
      (pss_cons (ps_if (pt_cmpR (op_neDK K rfl hu64) (pe_lc (own := [("_law_pair", 8)]) rfl sc__law_right.nd (pi_listK K rfl (pv 4)) (blkOk_by (N := ["_law_size", "_law_some", "_law_made", "_law_kept", "_law_due", "_law_told", "_law_less", "_law_number", "_law_pair"]) (sc := defScope s__law_right) (by decide +kernel)) (fun _ _ _ _ _ => (pg_name (i := 8) sc__law_right.nd rfl (Or.inl rfl))) (fun _ _ _ _ _ => (pts_one (pt_not (pt_val (pe_cG c__law_over_right hr (by omega) hg (by rfl) (pa_cons (pv 0) (pa_cons (pv 1) (pa_cons (pv 2) (pa_cons (pv 8) pa_nil))))))))) (fun _ _ _ _ _ => (pv 8))) (pe_lst pa_nil) (nomark _))
        (pss_one (ps_ret pe_bl))
        pss_nil)
      (pss_cons (ps_expr (pe_bmK K rfl PySem.F.plainAttrs_list PySem.F.slot_list_append PySem.F.type_list_append mt_append (pe_ix (ix_listK K rfl) (pv 5) pe_int (fun _ _ => rfl)) (pa_cons pe_non pa_nil)))
      (pss_one (ps_ret (pe_and (pe_cmpR op_eq (pe_callB (call_reprDK K rfl hu64 hg) (by rfl) z_repr bt_repr (pa_cons (pe_cG c_bridges hr (by omega) hg (by rfl) (pa_cons (pv 0) (pa_cons (pv 1) pa_nil))) pa_nil)) (pe_callB (call_reprDK K rfl hu64 hg) (by rfl) z_repr bt_repr (pa_cons (pv 4) pa_nil)) (nomark _)) (pe_one (pe_cmpR op_eq (pe_callB (call_reprDK K rfl hu64 hg) (by rfl) z_repr bt_repr (pa_cons (pe_lst (pa_cons (pv 1) (pa_cons (pv 2) pa_nil))) pa_nil)) (pv 3) (nomark _)))))))))))))))), ?_⟩
    have lv := hv.1.perm pm
    have lnd := pm.nodup_iff.mpr hv.nodup
    have ll : log.length ≤ 300 := by rw [pm.length_eq]; exact wl
    have smW : Sm 900 2 (dP web) := log_smD n2 hv.1 wl
    have smL : Sm 900 2 (dP log) := log_smD n2 lv ll
    have bl : (brsL n web).length ≤ 300 := Nat.le_trans (List.length_filter_le _ _) wl
    have smB : Sm 900 2 (dP (brsL n web)) := log_smD n2 (fun e he => hv.1 e (List.mem_filter.mp he).1) bl
    -- kept
    refine ⟨_, rfl, _, rfl, sl2, fun e1 he1 => ?_⟩
    have s1 := sA (o := .lst [.ref a, .ref b]) he1
    refine ⟨_, _, rfl, dp_two (SqL.of upd_same) (ha.grow s1).dp (hb.grow s1).dp, smQ (sm_two smW smL) (by decide) (by decide) ?_⟩
    -- due
    refine ⟨_, rfl, _, rfl, n, a, web, rfl, n2, by omega, hv, ha.grow s1, fun H2 D s2 hD => ?_⟩
    have s02 := s1.trans s2
    have ha2 := ha.grow s02
    have hb2 := hb.grow s02
    refine ⟨_, rfl, _, rfl, n, a, web, rfl, n1, n2, by omega, hv, ha2, fun H3 m2 t2 e2 tt2 l2 => ⟨_, rfl, _, rfl, rfl, n, a, web, rfl, n1, n2, by omega, hv, ha2.grow l2.same, fun H4 m3 t3 e3 tt3 l3 => ⟨sl2, fun tl htl => ?_⟩⟩⟩
    have l4 := ((l2.call l3).alloc (o := .lst [.ref m2, .ref m3]) htl)
    have p2 : IsPairs K _ m2 (brsL n web) := ⟨t2, e2, SqL.of (l4.atIx (i := 2) rfl), fun x hx => Same.sqT (l3.same.trans (sA htl)) (tt2 x hx)⟩
    have p3 : IsPairs K _ m3 (brsL n web) := ⟨t3, e3, SqL.of (l4.atIx (i := 1) rfl), fun x hx => Same.sqT (sA htl) (tt3 x hx)⟩
    have hD4 := hD.grow l4.same
    have t2l : (refs t2).length ≤ 300 := by rw [refs_len, ← vals_len, e2]; exact bl
    refine ⟨_, rfl, _, _, rfl, dp_two (SqL.of l4.at0) p2.dp p3.dp, smQ (sm_two smB smB) (by decide) (by decide) ?_⟩
    refine ⟨_, rfl, _, rfl, sl2, fun e5 he5 => ?_⟩
    have s5 := sA (o := .lst [.ref D, .ref D]) he5
    refine ⟨_, _, rfl, dp_two (SqL.of upd_same) (hD4.grow s5).dp (hD4.grow s5).dp, smQ (sm_two smB smB) (by decide) (by decide) ⟨rfl, _, rfl, iteFF (by simp) ?_⟩⟩
    refine ⟨_, rfl, _, rfl, sl2, fun e6 he6 => ?_⟩
    have l5 := l4.ext s5
    have s6 := sA (o := .lst [.ref a, .ref b]) he6
    have l6 := l5.ext s6
    refine ⟨_, _, rfl, dp_two (SqL.of upd_same) (ha2.grow l6.same).dp (hb2.grow l6.same).dp, smQ (sm_two smW smL) (by decide) (by decide) ⟨_, rfl, rfl, _, rfl, iteFF (by simp) ?_⟩⟩
    generalize upd (upd (upd H4 tl (HO.lst [V.ref m2, V.ref m3])) e5 (HO.lst [V.ref D, V.ref D])) e6 (HO.lst [V.ref a, V.ref b]) = H6 at l6 ⊢
    have ha6 := ha2.grow l6.same
    have hb6 := hb2.grow l6.same
    have hD6 := hD.grow l6.same
    have sz := s02.trans l6.same
    clear l2 l3 l4 l5 s5 s6 p2 p3 hD4 e3 tt3 tt2 e2
    -- less
    obtain ⟨ts, ets, hts, htt⟩ := id hb6
    have tsl : ts.length = log.length := by rw [← vals_len ts, ets]
    refine ⟨_, rfl, b, rfl, ⟨_, hts⟩, fun L hL => lc_list (K := K) (a := b) (xs := refs ts) (fun j H7 => Loc H6 H7 [(L, .lst (refs ((ts.take j).filter fun x => decide (x.2 ∉ brsL n web))))]) ((Loc.refl H6).alloc hL) (fun j H7 _ l7 => l7.same.seq hts) ?_ ?_⟩
    · rintro j x H7 hx l7
      obtain ⟨⟨t', e'⟩, hq', rfl⟩ := refs_inv hx
      refine ⟨rfl, _, rfl, _, rfl, dE e', (brsL n web).map dE, pair_dp (Same.sqT l7.same (htt _ (List.mem_of_getElem? hq'))), (hD6.grow l7.same).dp, shaped_dE _, shaped_dP _, ?_⟩
      rw [filt_take hq']
      rw [any_dE]
      refine ⟨_, rfl, ?_⟩
      cases eb : decide (e' ∈ brsL n web) with
      | false =>
        refine iteTT rfl ⟨_, rfl, _, l7.at0, sl_line' (by rw [refs_len]; exact Nat.lt_of_le_of_lt filt_len (by omega)), ?_⟩
        rw [if_pos (by have := of_decide_eq_false eb; simpa using this), refs_snoc]
        exact l7.put0
      | true =>
        refine iteFF rfl ?_
        rw [if_neg (by have := of_decide_eq_true eb; simpa using this), List.append_nil]
        exact l7
    rintro H7 l7
    rw [refs_len, List.take_length] at l7
    generalize hless : (log.filter fun f => decide (f ∉ brsL n web)) = less
    have pL : IsPairs K H7 L less := ⟨_, (vals_filt (fun f => decide (f ∉ brsL n web)) ts).trans (by rw [ets]; exact hless), SqL.of l7.at0, fun x hx => Same.sqT l7.same (htt x (List.mem_filter.mp hx).1)⟩
    have vL : ValidL n less := fun f hf => lv f (by rw [← hless] at hf; exact (List.mem_filter.mp hf).1)
    have nL : less.Nodup := by rw [← hless]; exact lnd.sublist List.filter_sublist
    have leL : less.length ≤ 300 := by rw [← hless]; exact Nat.le_trans (List.length_filter_le _ _) ll
    have num : (roundsF n (loc less)).length = (roundsF n (loc log)).length + (brsL n web).length := by rw [← hless]; exact brs_perm hv pm
    have ha7 := ha6.grow l7.same
    have hb7 := hb6.grow l7.same
    have hD7 := hD6.grow l7.same
    have l67 := l6.ext l7.same
    have sz7 := sz.trans l7.same
    clear l6 l7 hts htt ets tsl ts ha6 hb6 hD6 sz
    -- ends
    refine ⟨_, rfl, _, rfl, n, b, log, rfl, n1, n2, by omega, lv, lnd, hb7, fun H8 d1 l8 => ⟨_, rfl, _, rfl, n, b, log, rfl, n2, by omega, lv, hb7.grow l8.same, fun H9 d2 l9 => ⟨dI (endsL n log), dI (endsL n log), IsInts.dp (SqL.of (l8.ext l9.same).at0), IsInts.dp (SqL.of l9.at0), shaped_dI _, shaped_dI _, ?_⟩⟩⟩
    rw [eqv_dI, decide_eq_true rfl]
    have s9 := l8.same.trans l9.same
    clear l8 l9
    refine ⟨_, rfl, iteFF rfl ⟨_, rfl, _, rfl, n, L, less, rfl, n1, n2, by omega, vL, nL, pL.grow s9, fun H10 d3 l10 => ⟨_, rfl, _, rfl, n, L, less, rfl, n2, by omega, vL, (pL.grow s9).grow l10.same, fun H11 d4 l11 => ⟨dI (endsL n less), dI (endsL n less), IsInts.dp (SqL.of (l10.ext l11.same).at0), IsInts.dp (SqL.of l11.at0), shaped_dI _, shaped_dI _, ?_⟩⟩⟩⟩
    rw [eqv_dI, decide_eq_true rfl]
    have s11 := s9.trans (l10.same.trans l11.same)
    clear l10 l11 s9
    refine ⟨_, rfl, iteFF rfl ?_⟩
    -- the number
    refine ⟨_, rfl, _, rfl, n, b, log, rfl, n1, n2, by omega, lv, lnd, hb7.grow s11, fun H12 d5 l12 => ⟨d5, n, loc log, rfl, n2, loc_perm lv, SqL.of l12.at0, fun H13 t5 r5 e5 l13 => ⟨t5, _, rfl, .inl (SqL.of l13.at0), ?_⟩⟩⟩
    have s13 := s11.trans (l12.same.trans l13.same)
    obtain ⟨ds, eds, hds, hdt⟩ := id (hD7.grow s13)
    refine ⟨_, rfl, D, _, rfl, .inl hds, _, _, rfl, rfl, ?_⟩
    have len5 : (refs r5).length = (roundsF n (loc log)).length := by rw [refs_len, ← vals_len, e5]
    have lenD : (refs ds).length = (brsL n web).length := by rw [refs_len, ← vals_len, eds]
    clear l12 l13 s11
    refine ⟨_, rfl, _, rfl, _, rfl, n, L, less, rfl, n1, n2, by omega, vL, nL, pL.grow s13, fun H14 d6 l14 => ⟨d6, n, loc less, rfl, n2, loc_perm vL, SqL.of l14.at0, fun H15 t6 r6 e6 l15 => ⟨t6, _, rfl, .inl (SqL.of l15.at0), rfl, _, rfl, ?_⟩⟩⟩
    have len6 : (refs r6).length = (roundsF n (loc less)).length := by rw [refs_len, ← vals_len, e6]
    have s15 := s13.trans (l14.same.trans l15.same)
    clear l14 l15
    refine iteFF (by rw [len5, lenD, len6, num]; simp) ?_
    have ha15 := ha7.grow s15
    have hb15 := hb7.grow s15
    have hD15 := hD7.grow s15
    have lA := l67.ext s15
    have sz15 := sz7.trans s15
    clear s13 hds hdt eds len5 lenD len6 e5 e6 pL num l67 sz7 s15 ha7 hb7 hD7
    refine ⟨_, rfl, _, rfl, n, a, web, rfl, n1, n2, by omega, hv, ha15, fun H16 s16 => ⟨_, rfl, ?_⟩⟩
    refine ite_keep ?_ (fun ht x => ⟨_, rfl, _, rfl, dP (brsL n web), dP web, (hD15.grow s16).dp, (ha15.grow s16).dp, shaped_dP _, shaped_dP _, ?_⟩)
    · have hD16 := hD15.grow s16
      have ha16 := ha15.grow s16
      have hb16 := hb15.grow s16
      have lB := lA.ext s16
      have sz16 := sz15.trans s16
      clear lA hD15 ha15 hb15 sz15 s16
      obtain ⟨ds, eds, hds, hdt⟩ := id hD16
      refine ⟨_, rfl, D, rfl, ⟨_, hds⟩, fun Z hZ => lc_list (K := K) (a := D) (xs := refs ds) (fun j H17 => Loc H16 H17 [(Z, .lst [])]) ((Loc.refl H16).alloc hZ) (fun j H17 _ l => l.same.seq hds) ?_ ?_⟩
      · rintro j x H17 hx l
        obtain ⟨⟨t', e'⟩, hq', rfl⟩ := refs_inv hx
        have hm := List.mem_of_getElem? hq'
        have he' : e' ∈ brsL n web := by rw [← eds]; exact List.mem_map.mpr ⟨_, hm, rfl⟩
        obtain ⟨b1, b2⟩ := List.mem_filter.mp he'
        refine ⟨rfl, _, rfl, _, rfl, _, rfl, _, rfl, n, a, b, t', web, log, e', rfl, n1, n2, wl, hv, pm, ha16.grow l.same, hb16.grow l.same, b1, b2, Same.sqT l.same (hdt _ hm), fun H18 s18 => ⟨_, rfl, iteFF rfl ?_⟩⟩
        exact l.ext s18
      rintro H17 l
      refine ⟨Nat.zero_le _, fun W hW => ?_⟩
      have lC := l.alloc (o := .lst []) hW
      refine ⟨dP [], dP [], IsPairs.dp (ps := []) ⟨[], rfl, SqL.of (lC.atIx (i := 1) rfl), fun _ z => nomatch z⟩, IsPairs.dp (ps := []) ⟨[], rfl, SqL.of lC.at0, fun _ z => nomatch z⟩, shaped_dP _, shaped_dP _, ?_⟩
      rw [eqv_dP, decide_eq_true rfl]
      refine ⟨_, rfl, iteFF rfl ?_⟩
      have lD := lB.ext lC.same
      have ha17 := ha16.grow lC.same
      have hb17 := hb16.grow lC.same
      have hD17 := hD16.grow lC.same
      clear hds hdt eds lB ha16 hb16 hD16 sz16 l
      refine ⟨_, rfl, tl, _, _, _, rfl, rfl, SqL.of (lD.atIx (i := 0) rfl), at_of (j := 0) rfl rfl, .inl ⟨rfl, _, SqL.of (lD.atIx (i := 2) rfl)⟩, m2, _, _, rfl, rfl, lD.atIx (i := 2) rfl, sl_line' (by omega), ?_⟩
      have lE := lD.setIx (i := 2) (o' := .lst (refs t2 ++ [.non])) rfl
      have haE := ha2.grow lE.same
      have hbE := hb2.grow lE.same
      have hDE := hD.grow lE.same
      refine ⟨_, rfl, _, rfl, n, a, web, rfl, n1, n2, by omega, hv, haE, fun H20 p us eu hu l20 => ?_⟩
      have pu : IsPairs K H20 p (brsL n web) := ⟨us, eu, SqL.of l20.at0, hu⟩
      refine ⟨_, _, rfl, pu.dp, smQ smB (by decide) (by decide) ⟨_, rfl, _, _, rfl, (hDE.grow l20.same).dp, smQ smB (by decide) (by decide) ⟨rfl, _, rfl, iteTT (decide_eq_true rfl) ?_⟩⟩⟩
      refine ⟨_, rfl, _, rfl, sl2, fun e9 he9 => ?_⟩
      have s9 := l20.same.trans (sA (o := .lst [.ref a, .ref b]) he9)
      refine ⟨_, _, rfl, dp_two (SqL.of upd_same) (haE.grow s9).dp (hbE.grow s9).dp, smQ (sm_two smW smL) (by decide) (by decide) ⟨_, rfl, rfl, ?_⟩⟩
      show Q (.bl (decide _)) _
      rw [decide_eq_true rfl]
      exact q _ (s02.trans (lE.same.trans s9))
    · rw [eqv_dP, tree_brs hv ht, decide_eq_true rfl]
      exact ⟨_, rfl, iteFF rfl x⟩
end

def web7 : List (Int × Int) := [(1, 2), (1, 3), (2, 3), (3, 4), (4, 5), (4, 6), (5, 6)]
theorem web7_valid : ValidW 6 web7 := ⟨by unfold ValidL; decide, by unfold ltP web7; decide⟩
theorem side_five {l : List (Int × Int)} {m : List (Int × Int)} (pm : l.Perm m) (hv : ValidL 6 m) (hc : cnt 6 m = 4) (hl : m.length = 3) : (roundsF 6 (loc l)).length = 5 := by
  have lv := hv.perm pm
  have c := cnt_congr lv hv fun x y => ⟨fun h => conn_perm pm h, fun h => conn_perm pm.symm h⟩
  obtain ⟨g1, g2⟩ := genus l lv
  have g3 := cnt_le_nr lv
  have := pm.length_eq
  omega
theorem web7_rounds {log : List (Int × Int)} (pm : log.Perm web7) : (roundsF 6 (loc log)).length = 3 := by
  have b := brs_perm web7_valid pm
  have e7 : brsL 6 web7 = [(3, 4)] := by decide +kernel
  rw [e7] at b
  have hv : ValidL 6 (log.filter fun f => decide (f ∉ [((3 : Int), (4 : Int))])) := fun f hf => web7_valid.1 f (pm.mem_iff.mp (List.mem_filter.mp hf).1)
  have all : ∀ f ∈ web7.filter fun f => decide (f ∉ [((3 : Int), (4 : Int))]), decide (f.1 ≤ 3) = decide (f.2 ≤ 3) := by decide
  have s := split_rounds (S := fun c => decide (c ≤ 3)) _ hv fun f hf => all f (List.mem_filter.mpr ⟨pm.mem_iff.mp (List.mem_filter.mp hf).1, (List.mem_filter.mp hf).2⟩)
  have p1 := side_five (m := [(1, 2), (1, 3), (2, 3)]) (((pm.filter fun f => decide (f ∉ [((3 : Int), (4 : Int))])).filter fun e => decide (e.1 ≤ 3)).trans (by decide)) (by unfold ValidL; decide) (by decide +kernel) rfl
  have p2 := side_five (m := [(4, 5), (4, 6), (5, 6)]) (((pm.filter fun f => decide (f ∉ [((3 : Int), (4 : Int))])).filter fun e => !decide (e.1 ≤ 3)).trans (by decide)) (by unfold ValidL; decide) (by decide +kernel) rfl
  rw [p1, p2] at s
  rw [List.length_singleton] at b
  omega
section
variable {W : List (Int × Int)} {e : Int × Int}
theorem every_edge (hW : ∀ f ∈ everyL 15, f ∈ W) {a c : Int} (ha : 1 ≤ a ∧ a ≤ 15) (hc : 1 ≤ c ∧ c ≤ 15) (ne : a ≠ c) (n1 : ¬ (a = e.1 ∧ c = e.2)) (n2 : ¬ (c = e.1 ∧ a = e.2)) : edge (wo W e) a c := by
  rcases Int.lt_or_gt_of_ne ne with h | h
  · exact .inl (List.mem_filter.mpr ⟨hW _ (mem_every.mpr ⟨ha.1, h, hc.2⟩), decide_eq_true fun z => n1 ⟨by rw [← z], by rw [← z]⟩⟩)
  · exact .inr (List.mem_filter.mpr ⟨hW _ (mem_every.mpr ⟨hc.1, h, ha.2⟩), decide_eq_true fun z => n2 ⟨by rw [← z], by rw [← z]⟩⟩)
theorem every_conn (hW : ∀ f ∈ everyL 15, f ∈ W) (he : e ∈ everyL 15) : Conn (wo W e) e.1 e.2 := by
  have h := mem_every.mp he
  obtain ⟨c, c1, c2, c3⟩ : ∃ c : Int, (1 ≤ c ∧ c ≤ 15) ∧ c ≠ e.1 ∧ c ≠ e.2 := by
    by_cases h1 : e.1 = 1
    · by_cases h2 : e.2 = 2
      · exact ⟨3, by omega, by omega, by omega⟩
      · exact ⟨2, by omega, by omega, by omega⟩
    · exact ⟨1, by omega, by omega, by omega⟩
  exact (Conn.step .refl (every_edge hW (by omega) c1 (fun z => c2 z.symm) (fun z => c3 z.2) (fun z => c2 z.1))).step (every_edge hW c1 (by omega) c3 (fun z => c2 z.1) (fun z => by have := z.1; omega))
end
theorem every_none : brsL 16 (everyL 15) = [] := by
  have hv := every_valid (n := 15) (m := 16) (by decide)
  refine List.filter_eq_nil_iff.mpr fun e he b => ?_
  exact (brB_iff hv.1 (hv.1 e he)).mp b (every_conn (fun _ h => h) he)
theorem every_more_valid : ValidW 16 (everyL 15 ++ [(15, 16)]) := by
  have hv := every_valid (n := 15) (m := 16) (by decide)
  refine ⟨fun f hf => ?_, List.pairwise_append.mpr ⟨hv.2, List.pairwise_singleton _ _, fun x hx y hy => ?_⟩⟩
  · rcases List.mem_append.mp hf with q | q
    · exact hv.1 f q
    · cases List.mem_singleton.mp q; decide
  · cases List.mem_singleton.mp hy
    have := mem_every.mp hx
    exact .inl (by show x.1 < 15; omega)
theorem every_one : brsL 16 (everyL 15 ++ [(15, 16)]) = [(15, 16)] := by
  have hv := every_more_valid
  unfold brsL
  rw [List.filter_append, List.filter_eq_nil_iff.mpr fun e he b => ?_, List.nil_append]
  · refine fs1 ((brB_iff hv.1 (by decide)).mpr fun c => ?_)
    have : ∀ b, Conn (wo (everyL 15 ++ [(15, 16)]) (15, 16)) 15 b → b ≤ 15 := fun b h => by
      induction h with
      | refl => decide
      | step _ q _ =>
        have lim : ∀ f ∈ wo (everyL 15 ++ [(15, 16)]) (15, 16), f.1 ≤ 15 ∧ f.2 ≤ 15 := fun f hf => by
          obtain ⟨a1, a2⟩ := List.mem_filter.mp hf
          rcases List.mem_append.mp a1 with q | q
          · have := mem_every.mp q; omega
          · exact absurd (List.mem_singleton.mp q) (of_decide_eq_true a2)
        rcases q with q | q
        · exact (lim _ q).2
        · exact (lim _ q).1
    have := this _ c
    omega
  · exact (brB_iff hv.1 (hv.1 e (List.mem_append_left _ he))).mp b (every_conn (fun _ h => List.mem_append_left _ h) he)
theorem every_len : (everyL 15).length ≤ 225 := everyTo_len 15

abbrev s__law_log : Stmt := topS 26
theorem sc__law_log : FnScope ["_law_draws_here", "_law_some", "_law_left", "_law_told"] ["_law_draws_here", "_law_some"] (defScope s__law_log) := ⟨rfl, rfl, rfl, by decide +kernel, rfl, by decide +kernel, by decide +kernel⟩
section
variable {P : Program} {w : World} {K : PySem.W.Frag} {mg : Str → Option Value} {base : Heap}
def sp__law_log (K : PySem.W.Frag) : Sp := fun vs H Q _ => ∃ (a s : Addr) (m : Nat) (web : List (Int × Int)), vs = [.ref a, .ref s] ∧ Draw H a m ∧ m ≤ 900000 ∧ web.length ≤ 1000 ∧ IsPairs K H s web ∧
  ∀ H' p log, SameX a H H' → Draw H' a (m + web.length) → IsPairs K H' p log → log.Perm web → Q (.ref p) H'
theorem ok__law_log {f : Addr} {fd : FuncData} {k : Nat} (F : Fun K "_law_log" "_law_log" s__law_log f fd) (z_list : mg "list" = none) (z_int : mg "int" = none) (z_len : mg "len" = none)
    (c__law_next : CalG P w K mg base k "_law_next" s__law_next ["_law_draws_here"] sp__law_next) : FG P w K mg base CX0 (k + 1) f fd ["_law_draws_here", "_law_some"] (sp__law_log K) := by
  refine fg_fun F sc__law_log (fun vs H Q E h => ?_) (fun cdv A out s H vs Q E hr hg h => ?_)
  · obtain ⟨a, s, m, web, rfl, _⟩ := h
    rfl
  · obtain ⟨a, s, m, web, rfl, hD, hm, hw, hp, q⟩ := h
    have hu64 := hr.units
    refine ⟨_, (pss_cons (ps_set (i := 2) sc__law_log.nd rfl (.inl rfl) (pe_callTy (call_list_ofK K rfl) (by rfl) z_list bt_list (pa_cons (pv 1) pa_nil)))
      (pss_cons (ps_set (i := 3) sc__law_log.nd rfl (.inl rfl) (pe_lst pa_nil))
      (pss_cons (ps_while PassesOwn.never (pt_cmpR (op_neDK K rfl hu64) (pv 2) (pe_lst pa_nil) (nomark _))
        (pss_one (ps_expr (pe_bmK K rfl PySem.F.plainAttrs_list PySem.F.slot_list_append PySem.F.type_list_append mt_append (pv 3) (pa_cons (pe_bmK K rfl PySem.F.plainAttrs_list PySem.F.slot_list_pop PySem.F.type_list_pop mt_popAt (pv 2) (pa_cons (pe_op op_mod (pe_callTy call_int1 (by rfl) z_int bt_int (pa_cons (pe_cG c__law_next hr (by omega) hg (by rfl) (pa_cons (pv 0) pa_nil)) pa_nil)) (pe_callB (call_len_seqK K rfl) (by rfl) z_len bt_len (pa_cons (pv 2) pa_nil))) pa_nil)) pa_nil)))))
      (pss_one (ps_ret (pv 3)))))), ?_⟩
    obtain ⟨ts, ets, hts, htt⟩ := hp
    have ltw : ts.length = web.length := by rw [← ets, vals_len]
    refine ⟨_, rfl, s, refs ts, rfl, .inl hts, fun L hL => ⟨by decide, fun T hT => ?_⟩⟩
    have l0 := (hD.dloc.alloc (o := .lst (refs ts)) hL).alloc (o := .lst []) hT
    refine ⟨fun k σ H2 => ∃ us vs : List (Addr × Int × Int), σ = [some (.ref a), some (.ref s), some (.ref L), some (.ref T)] ∧ us.length = k ∧ (us ++ vs).Perm ts ∧ DLoc H a (m + vs.length) H2 [(T, .lst (refs vs)), (L, .lst (refs us))],
      ⟨_, ts, [], rfl, rfl, by rw [List.append_nil], l0⟩, ?_⟩
    rintro k σ H2 ⟨us, vs, rfl, ek, pm, l⟩
    have ln : us.length + vs.length = web.length := by
      have := pm.length_eq
      rw [List.length_append] at this
      omega
    have us_at : ∀ x ∈ us, SqT K H2 x.1 [.int x.2.1, .int x.2.2] := fun x hx => l.sameX.sqT hD (htt x (pm.mem_iff.mp (List.mem_append_left _ hx)))
    have isp : IsPairs K H2 L (vals us) := ⟨us, rfl, SqL.of (l.atIx (i := 1) rfl), us_at⟩
    refine ⟨_, rfl, by decide, fun e he => ⟨dP (vals us), dP [], (isp.grow ((Loc.refl H2).alloc (o := .lst []) he).same).dp, IsPairs.dp (K := K) (ps := []) ⟨[], rfl, SqL.of upd_same, (fun _ z => nomatch z)⟩, shaped_dP _, shaped_dP _, _, rfl, ?_⟩⟩
    rw [eqv_dP_nil]
    have l2 := (l.alloc (o := .lst []) he).keep (List.sublist_cons_self _ _)
    refine ite2 (fun hb => ?_) (fun hb => ?_)
    · have ne : us ≠ [] := fun z => by rw [z] at hb; simp [vals] at hb
      have pos : 0 < us.length := List.length_pos_iff.mpr ne
      refine ⟨fun σ' H' => ∃ m', m' < k ∧ _, fun _ _ z => z, ?_⟩
      refine ⟨_, rfl, .inl ⟨rfl, _, SqL.of (l2.atIx (i := 0) rfl)⟩, _, rfl, .inl ⟨rfl, _, SqL.of (l2.atIx (i := 1) rfl)⟩, _, rfl, a, _, rfl, l2.draw, by omega, fun n0 k0 b0 r i1 i2 i3 i4 => .inl ⟨_, rfl, ?_⟩⟩
      have l3 := l2.next (b := b0) i1 i2 i3
      have lr : (refs us).length = us.length := refs_len us
      have e1 : 0 ≤ r % ((refs us).length : Int) := Int.emod_nonneg _ (by omega)
      have e2 : r % ((refs us).length : Int) < (refs us).length := Int.emod_lt_of_pos _ (by omega)
      have hk : (r % ((refs us).length : Int)).toNat < us.length := by omega
      obtain ⟨y, hy⟩ : ∃ y, us[(r % ((refs us).length : Int)).toNat]? = some y := ⟨_, List.getElem?_eq_getElem hk⟩
      have lens : (us.eraseIdx (r % ((refs us).length : Int)).toNat).length + 1 = us.length := by
        rw [List.length_eraseIdx_of_lt hk]; omega
      refine ⟨_, rfl, L, _, rfl, .inl (SqL.of (l3.atIx (i := 1) rfl)), _, _, rfl, rfl, (by show (0 : Int) < (refs us).length; omega), L, refs us, _, (r % ((refs us).length : Int)).toNat, .ref y.1, rfl, rfl, l3.atIx (i := 1) rfl, by omega, by omega,
        (ixN_seq (ixI e1 (by omega))).1, refs_get (r := y.2) hy, ?_⟩
      rw [refs_erase]
      have l4 := l3.setIx (i := 1) (o' := .lst (refs (us.eraseIdx (r % ((refs us).length : Int)).toNat))) rfl
      refine ⟨T, refs vs, _, rfl, rfl, l4.atIx (i := 0) rfl, sl_line' (by rw [refs_len]; omega), ?_⟩
      have l5 := l4.setIx (i := 0) (o' := .lst (refs vs ++ [.ref y.1])) rfl
      refine ⟨_, ?_, us.eraseIdx (r % ((refs us).length : Int)).toNat, vs ++ [y], rfl, rfl, ?_, ?_⟩
      · omega
      · have p1 := (erase_perm hy).append_right vs
        refine List.Perm.trans ?_ (p1.symm.trans pm)
        rw [← List.append_assoc]
        exact List.perm_append_comm (l₂ := [y])
      · rw [refs_snoc, List.length_append, List.length_singleton, ← Nat.add_assoc]
        exact l5
    · have ue : us = [] := by
        cases us with
        | nil => rfl
        | cons x r => exact absurd (by simp [vals]) hb
      subst ue
      have vl : vs.length = web.length := by simpa using ln
      rw [vl] at l2
      refine ⟨_, rfl, q _ T (vals vs) l2.sameX l2.draw ⟨vs, rfl, SqL.of (l2.atIx (i := 0) rfl), fun x hx => l2.sameX.sqT hD (htt x (pm.mem_iff.mp (List.mem_append_right _ hx)))⟩ ?_⟩
      rw [← ets]
      exact (pm.map Prod.snd)
end

abbrev s__law_web : Stmt := topS 25
theorem sc__law_web : FnScope ["_law_draws_here", "_law_most", "_law_many", "_law_size", "_law_told", "_law_kind", "_law_k", "_law_turn", "_law_one", "_law_two"] ["_law_draws_here", "_law_most", "_law_many"] (defScope s__law_web) := ⟨rfl, rfl, rfl, by decide +kernel, rfl, by decide +kernel, by decide +kernel⟩
theorem pairL_snoc (ts : List (Addr × Int × Int)) (p : Addr) (x y : Int) : pairL (ts ++ [(p, x, y)]) = pairL ts ++ [(p, .tup [.int x, .int y])] := List.map_append ..
section
variable {P : Program} {w : World} {K : PySem.W.Frag} {mg : Str → Option Value} {base : Heap}
def sp__law_web (K : PySem.W.Frag) : Sp := fun vs H Q _ => ∃ (a : Addr) (m most many : Nat), vs = [.ref a, .int most, .int many] ∧ Draw H a m ∧ m ≤ 900000 ∧ 1 ≤ most ∧ most ≤ 16 ∧ many ≤ 16 ∧
  ∀ H' (T s : Addr) (n : Nat) web, SameX a H H' → Draw H' a (m + 64) → SqT K H' T [.int n, .ref s] → IsPairs K H' s web → ValidW n web → 1 ≤ n → n ≤ most → web.length < 64 → Q (.ref T) H'
theorem ok__law_web {f : Addr} {fd : FuncData} {k : Nat} (F : Fun K "_law_web" "_law_web" s__law_web f fd) (z_int : mg "int" = none) (z_range : mg "range" = none) (z_min : mg "min" = none) (z_max : mg "max" = none) (z_set : mg "set" = none) (z_sorted : mg "sorted" = none)
    (c__law_next : CalG P w K mg base k "_law_next" s__law_next ["_law_draws_here"] sp__law_next) : FG P w K mg base CX0 (k + 1) f fd ["_law_draws_here", "_law_most", "_law_many"] (sp__law_web K) := by
  refine fg_fun F sc__law_web (fun vs H Q E h => ?_) (fun cdv A out s H vs Q E hr hg h => ?_)
  · obtain ⟨a, _, _, _, rfl, _⟩ := h
    rfl
  · obtain ⟨a, m, most, many, rfl, hD, hm, g1, g2, g3, q⟩ := h
    have hu64 := hr.units
    have four : (0 : Int) < 4 := by decide
    refine ⟨_, (pss_cons (ps_set (i := 3) sc__law_web.nd rfl (.inl rfl) (pe_op op_add pe_int (pe_op op_mod (pe_callTy call_int1 (by rfl) z_int bt_int (pa_cons (pe_cG c__law_next hr (by omega) hg (by rfl) (pa_cons (pv 0) pa_nil)) pa_nil)) (pv 1))))
      (pss_cons (ps_set (i := 4) sc__law_web.nd rfl (.inl rfl) (pe_lst pa_nil))
      (pss_cons (ps_set (i := 5) sc__law_web.nd rfl (.inl rfl) (pe_op op_mod (pe_callTy call_int1 (by rfl) z_int bt_int (pa_cons (pe_cG c__law_next hr (by omega) hg (by rfl) (pa_cons (pv 0) pa_nil)) pa_nil)) pe_int))
      (pss_cons (ps_for PassesOwn.never rfl (pi_range2 (by rfl) z_range (pa_cons pe_int (pa_cons (pe_op op_add (pv 3) pe_int) pa_nil))) (pg_name (i := 6) sc__law_web.nd rfl (.inl rfl))
        (pss_one (ps_if (pt_cmpR op_gt (pv 5) pe_int (nomark _))
            (pss_one (ps_expr (pe_bmK K rfl PySem.F.plainAttrs_list PySem.F.slot_list_append PySem.F.type_list_append mt_append (pv 4) (pa_cons (pe_tup (pa_cons (pe_op op_add pe_int (pe_op op_mod (pe_callTy call_int1 (by rfl) z_int bt_int (pa_cons (pe_cG c__law_next hr (by omega) hg (by rfl) (pa_cons (pv 0) pa_nil)) pa_nil)) (pe_op op_sub (pv 6) pe_int))) (pa_cons (pv 6) pa_nil))) pa_nil))))
            pss_nil)))
      (pss_cons (ps_for PassesOwn.never rfl (pi_range1 (by rfl) z_range (pa_cons (pe_ifExp (pt_cmpR op_lt (pv 5) pe_int (nomark _)) (pe_op op_mod (pe_callTy call_int1 (by rfl) z_int bt_int (pa_cons (pe_cG c__law_next hr (by omega) hg (by rfl) (pa_cons (pv 0) pa_nil)) pa_nil)) (pe_op op_add (pv 2) pe_int)) pe_int) pa_nil)) (pg_name (i := 7) sc__law_web.nd rfl (.inl rfl))
        (pss_cons (ps_set (i := 8) sc__law_web.nd rfl (.inl rfl) (pe_op op_add pe_int (pe_op op_mod (pe_callTy call_int1 (by rfl) z_int bt_int (pa_cons (pe_cG c__law_next hr (by omega) hg (by rfl) (pa_cons (pv 0) pa_nil)) pa_nil)) (pv 3))))
          (pss_cons (ps_set (i := 9) sc__law_web.nd rfl (.inl rfl) (pe_op op_add pe_int (pe_op op_mod (pe_callTy call_int1 (by rfl) z_int bt_int (pa_cons (pe_cG c__law_next hr (by omega) hg (by rfl) (pa_cons (pv 0) pa_nil)) pa_nil)) (pv 3))))
          (pss_one (ps_set (i := 4) sc__law_web.nd rfl (.inl rfl) (pe_op op_cat (pv 4) (pe_op op_rep (pe_lst (pa_cons (pe_tup (pa_cons (pe_callB (call_min2 rfl) (by rfl) z_min bt_min (pa_cons (pv 8) (pa_cons (pv 9) pa_nil))) (pa_cons (pe_callB (call_max2 rfl) (by rfl) z_max bt_max (pa_cons (pv 8) (pa_cons (pv 9) pa_nil))) pa_nil))) pa_nil)) (pe_callTy call_int1 (by rfl) z_int bt_int (pa_cons (pe_cmpR op_ne (pv 8) (pv 9) (nomark _)) pa_nil)))))))))
      (pss_one (ps_ret (pe_tup (pa_cons (pv 3) (pa_cons (pe_callB (cr_sortedTK P w K rfl rfl rfl rfl) (by rfl) z_sorted bt_sorted (pa_cons (pe_callTy (cr_setOfTK P w K rfl rfl rfl rfl hu64) (by rfl) z_set bt_set (pa_cons (pv 4) pa_nil)) pa_nil)) pa_nil)))))))))), ?_⟩
    refine ⟨_, rfl, a, m, rfl, hD, by omega, fun n0 k0 b0 r0 i1 i2 i3 i4 => .inl ⟨_, rfl, _, rfl, _, _, rfl, rfl, (by show (0 : Int) < most; omega), _, _, rfl, rfl, ?_⟩⟩
    have l1 := hD.dloc.next (b := b0) i1 i2 i3
    have e1 : 0 ≤ r0 % (most : Int) := Int.emod_nonneg _ (by omega)
    have e2 : r0 % (most : Int) < most := Int.emod_lt_of_pos _ (by omega)
    dsimp only
    generalize hsz : 1 + r0 % (most : Int) = sz
    obtain ⟨n, rfl⟩ : ∃ n : Nat, sz = n := ⟨sz.toNat, by omega⟩
    have n1 : 1 ≤ n := by omega
    have n2 : n ≤ most := by omega
    clear e1 e2 hsz
    refine ⟨by decide, fun t ht => ?_⟩
    have l2 := l1.alloc (o := .lst []) ht
    refine ⟨_, rfl, a, m + 1, rfl, l2.draw, by omega, fun n0 k0 b0 r1 i1 i2 i3 i4 => .inl ⟨_, rfl, _, _, rfl, rfl, four, ?_⟩⟩
    have l3 := l2.next (b := b0) i1 i2 i3
    dsimp only
    generalize r1 % 4 = kd
    refine ⟨_, rfl, _, _, rfl, rfl, _, _, rfl, by omega, for_range (lo := 2) (n := ((n : Int) + 1 - 2).toNat)
      (fun i σ H2 => ∃ (ts : List (Addr × Int × Int)) (y6 : Option V), σ = [some (.ref a), some (.int most), some (.int many), some (.int n), some (.ref t), some (.int kd), y6, none, none, none] ∧
        ts.length ≤ i ∧ (∀ q ∈ ts, 1 ≤ q.2.1 ∧ q.2.1 < q.2.2 ∧ q.2.2 ≤ n) ∧ DLoc H a (m + 2 + i) H2 ((t, .lst (refs ts)) :: pairL ts)) ?_ ?_ ?_⟩
    · exact ⟨[], none, rfl, Nat.le_refl _, (fun _ z => nomatch z), l3⟩
    · rintro i σ H2 hi ⟨ts, y6, rfl, tl, tv, l⟩
      refine ⟨_, rfl, _, _, rfl, rfl, _, rfl, ite2 (fun hb => ?_) (fun hb => ?_)⟩
      · refine ⟨_, rfl, .inl ⟨rfl, _, SqL.of (l.atIx (i := 0) rfl)⟩, _, rfl, a, _, rfl, l.draw, by omega, fun n0 k0 b0 r2 i1 i2 i3 i4 => .inl ⟨_, rfl, _, rfl, _, _, rfl, rfl, _, _, rfl, rfl, (by show (0 : Int) < 2 + i - 1; omega), _, _, rfl, rfl, _, rfl, sl2, fun p hp => ?_⟩⟩
        have l4 := (l.next (b := b0) i1 i2 i3).alloc (o := .tup [.int (1 + r2 % (2 + (i : Int) - 1)), .int (2 + i)]) hp
        refine ⟨t, refs ts, _, rfl, rfl, l4.atIx (i := 1) rfl, sl_line' (by rw [refs_len]; omega), ?_⟩
        have e1 : 0 ≤ r2 % (2 + (i : Int) - 1) := Int.emod_nonneg _ (by omega)
        have e2 : r2 % (2 + (i : Int) - 1) < 2 + (i : Int) - 1 := Int.emod_lt_of_pos _ (by omega)
        refine ⟨ts ++ [(p, 1 + r2 % (2 + (i : Int) - 1), (2 : Int) + i)], _, rfl, by simp; omega, ?_, ?_⟩
        · intro q hq
          rcases List.mem_append.mp hq with hq | hq
          · exact tv q hq
          · cases List.mem_singleton.mp hq
            simp only
            omega
        · have l5 := l4.setIx (i := 1) (o' := .lst (refs ts ++ [.ref p])) rfl
          rw [refs_snoc, pairL_snoc]
          exact l5.perm (M := ((t, .lst (refs ts ++ [.ref p])) :: pairL ts) ++ [(p, _)]) List.perm_append_comm
      · exact ⟨ts, _, rfl, by omega, tv, l.mono (by omega)⟩
    · rintro σ H2 ⟨ts, y6, rfl, tl, tv, l⟩
      have lt0 : ts.length ≤ 15 := by omega
      have l0 : DLoc H a (m + 20) H2 ((t, .lst (refs ts)) :: pairL ts) := l.mono (by omega)
      clear l tl
      refine ⟨_, rfl, _, _, rfl, rfl, _, rfl, ite2 (fun hb => ?ct) (fun hb => ?cf)⟩
      case' cf =>
        have e0 : (0 : Int) ≤ 0 ∧ (0 : Int) ≤ many := by omega
        have l6 : DLoc H a (m + 21) H2 ((t, .lst (refs ts)) :: pairL ts) := l0.mono (by omega)
      case' ct =>
        refine ⟨_, rfl, a, _, rfl, l0.draw, by omega, fun n0 k0 b0 r2 i1 i2 i3 i4 => .inl ⟨_, rfl, _, rfl, _, _, rfl, rfl, _, _, rfl, rfl, (by show (0 : Int) < many + 1; omega), ?_⟩⟩
        have l6 := l0.next (b := b0) i1 i2 i3
        have e0 : 0 ≤ r2 % ((many : Int) + 1) ∧ r2 % ((many : Int) + 1) ≤ many := ⟨Int.emod_nonneg _ (by omega), by have := Int.emod_lt_of_pos r2 (show (0 : Int) < many + 1 by omega); omega⟩
      all_goals
        refine ⟨_, rfl, by omega, by omega, for_range (lo := 0) (n := _) (fun j σ H3 => ∃ (u : Addr) (us : List (Addr × Int × Int)) (y7 y8 y9 : Option V), σ = [some (.ref a), some (.int most), some (.int many), some (.int n), some (.ref u), some (.int kd), y6, y7, y8, y9] ∧
          us.length ≤ 15 + j ∧ (∀ q ∈ us, 1 ≤ q.2.1 ∧ q.2.1 < q.2.2 ∧ q.2.2 ≤ n) ∧ DLoc H a (m + 21 + 2 * j) H3 ((u, .lst (refs us)) :: pairL us)) ⟨t, ts, _, _, _, rfl, by omega, tv, l6⟩ ?_ ?_⟩
        · rintro j σ H3 hj ⟨u, us, y7, y8, y9, rfl, ul, uv, l⟩
          have hj2 : j < 16 := by omega
          refine ⟨_, rfl, a, _, rfl, l.draw, by omega, fun n0 k0 b0 x1 i1 i2 i3 i4 => .inl ⟨_, rfl, _, rfl, _, _, rfl, rfl, (by show (0 : Int) < n; omega), _, _, rfl, rfl, ?_⟩⟩
          have l7 := l.next (b := b0) i1 i2 i3
          refine ⟨_, rfl, a, _, rfl, l7.draw, by omega, fun n0 k0 b0 x2 i1 i2 i3 i4 => .inl ⟨_, rfl, _, rfl, _, _, rfl, rfl, (by show (0 : Int) < n; omega), _, _, rfl, rfl, ?_⟩⟩
          have l8 := l7.next (b := b0) i1 i2 i3
          have f1 : 0 ≤ x1 % (n : Int) ∧ x1 % (n : Int) < n := ⟨Int.emod_nonneg _ (by omega), Int.emod_lt_of_pos _ (by omega)⟩
          have f2 : 0 ≤ x2 % (n : Int) ∧ x2 % (n : Int) < n := ⟨Int.emod_nonneg _ (by omega), Int.emod_lt_of_pos _ (by omega)⟩
          dsimp only
          generalize x1 % (n : Int) = z1 at f1 ⊢
          generalize x2 % (n : Int) = z2 at f2 ⊢
          refine ⟨_, rfl, _, rfl, _, rfl, _, _, rfl, _, rfl, _, rfl, _, _, rfl, sl2, fun p hp => ⟨sl1, fun e he => ?_⟩⟩
          have l9 := (l8.alloc hp).alloc (o := .lst [.ref p]) he
          refine ⟨_, rfl, _, rfl, rfl, .inr ⟨_, rfl, e, _, _, rfl, rfl, l9.atIx (i := 0) rfl, ?_, ?_, ?_, fun rp hrp => ?_⟩⟩
          · split <;> omega
          · split <;> omega
          · split <;> exact Nat.le_of_lt (sl_line' (by simp))
          have l10 := l9.alloc (o := .lst (List.replicate (if (!decide (V.int (1 + z1) = V.int (1 + z2))) = true then (1 : Int) else 0).toNat [V.ref p]).flatten) hrp
          refine ⟨u, rp, refs us, _, rfl, rfl, l10.atIx (i := 3) rfl, l10.atIx (i := 0) rfl, ?_, fun u2 hu2 => ?_⟩
          · rw [refs_len]
            split <;> exact Nat.le_of_lt (sl_line' (by simp; omega))
          have l11 := l10.alloc (o := .lst (refs us ++ (List.replicate (if (!decide (V.int (1 + z1) = V.int (1 + z2))) = true then (1 : Int) else 0).toNat [V.ref p]).flatten)) hu2
          by_cases ez : z1 = z2
          · have ed : (!decide (V.int (1 + z1) = V.int (1 + z2))) = false := by rw [dVI]; simp [ez]
            rw [ed] at l11
            refine ⟨u2, us, _, _, _, rfl, by omega, uv, ?_⟩
            have l12 := l11.keep (M := (u2, .lst (refs us ++ (List.replicate (if false = true then (1 : Int) else 0).toNat [V.ref p]).flatten)) :: pairL us) (by
              refine List.Sublist.cons_cons _ ?_
              exact (((List.sublist_cons_self _ _).trans (List.sublist_cons_self _ _)).trans (List.sublist_cons_self _ _)).trans (List.sublist_cons_self _ _))
            have en : refs us ++ (List.replicate (if false = true then (1 : Int) else 0).toNat [V.ref p]).flatten = refs us := by simp
            rw [en] at l12
            rw [ed, en]
            exact l12.mono (by omega)
          · have ed : (!decide (V.int (1 + z1) = V.int (1 + z2))) = true := by rw [dVI]; simp; omega
            rw [ed] at l11
            have en : refs us ++ (List.replicate (if true = true then (1 : Int) else 0).toNat [V.ref p]).flatten = refs us ++ [.ref p] := by simp
            rw [en] at l11
            rw [ed, en]
            refine ⟨u2, us ++ [(p, (if 1 + z2 < 1 + z1 then 1 + z2 else 1 + z1), (if 1 + z2 > 1 + z1 then 1 + z2 else 1 + z1))], _, _, _, rfl, by simp; omega, ?_, ?_⟩
            · intro q hq
              rcases List.mem_append.mp hq with hq | hq
              · exact uv q hq
              · cases List.mem_singleton.mp hq
                simp only
                split <;> split <;> omega
            · rw [refs_snoc, pairL_snoc]
              have l12 := l11.keep (M := (u2, .lst (refs us ++ [.ref p])) :: (p, _) :: pairL us) (by
                refine List.Sublist.cons_cons _ ?_
                refine List.Sublist.cons _ (List.Sublist.cons _ (List.Sublist.cons_cons _ (List.sublist_cons_self _ _))))
              have l13 := l12.perm (M := ((u2, .lst (refs us ++ [.ref p])) :: pairL us) ++ [(p, _)]) (List.Perm.cons _ List.perm_append_comm)
              exact l13.mono (by omega)
        · rintro σ H3 ⟨u, us, y7, y8, y9, rfl, ul, uv, l⟩
          have ul2 : us.length ≤ 31 := by omega
          have lz : DLoc H a (m + 64) H3 ((u, .lst (refs us)) :: pairL us) := l.mono (by omega)
          have us_at : ∀ x ∈ us, H3 x.1 = some (.tup [.int x.2.1, .int x.2.2]) := fun x hx => lz.here (q := (x.1, .tup [.int x.2.1, .int x.2.2])) (List.mem_cons_of_mem _ (List.mem_map.mpr ⟨x, hx, rfl⟩))
          refine ⟨_, rfl, _, rfl, u, us.map fun x => (x.1, [x.2.1, x.2.2]), rfl, ?_, ?_, by rw [List.length_map]; omega, fun sa S hsa hS1 hS2 => ?_⟩
          · rw [List.map_map]
            exact SqL.of (lz.atIx (i := 0) rfl)
          · intro x hx
            obtain ⟨y, hy, rfl⟩ := List.mem_map.mp hx
            exact .inl (.inl (us_at y hy))
          have inS : ∀ x ∈ S, ∃ y ∈ us, x = (y.1, [y.2.1, y.2.2]) := fun x hx => by
            obtain ⟨y, hy, e⟩ := List.mem_map.mp (hS1 x hx)
            exact ⟨y, hy, e.symm⟩
          have lz2 := lz.alloc (o := SetTO P w sa S) hsa
          refine ⟨sa, S, 2, 64, rfl, upd_same, ?_, by decide, ?_, fun S' s pm nd few pw hs => ?_⟩
          · intro x hx
            obtain ⟨y, hy, rfl⟩ := inS x hx
            exact .inl (.inl (lz2.here (q := (y.1, .tup [.int y.2.1, .int y.2.2])) (List.mem_cons_of_mem _ (List.mem_cons_of_mem _ (List.mem_map.mpr ⟨y, hy, rfl⟩)))))
          · intro x hx
            obtain ⟨y, hy, rfl⟩ := inS x hx
            have := uv y hy
            refine ⟨rfl, fun z hz => ?_⟩
            simp only [List.mem_cons, List.not_mem_nil, or_false] at hz
            rcases hz with rfl | rfl <;> omega
          have inS' : ∀ x ∈ S', ∃ y ∈ us, x = (y.1, [y.2.1, y.2.2]) := fun x hx => inS x (pm.mem_iff.mp hx)
          have lz3 := lz2.alloc (o := .lst (S'.map fun q => V.ref q.1)) hs
          refine ⟨sl2, fun T hT => ?_⟩
          have lz4 := lz3.alloc (o := .tup [.int n, .ref s]) hT
          refine q _ T s n (S'.map fun x => (x.2.getD 0 0, x.2.getD 1 0)) lz4.sameX lz4.draw (.inl (.inl upd_same)) ⟨S'.map fun x => (x.1, x.2.getD 0 0, x.2.getD 1 0), ?_, ?_, ?_⟩ ⟨?_, ?_⟩ n1 n2 (by rw [List.length_map]; exact few)
          · unfold vals
            rw [List.map_map]
            rfl
          · unfold refs
            rw [List.map_map]
            exact SqL.of (lz4.atIx (i := 1) rfl)
          · intro x hx
            obtain ⟨z, hz, rfl⟩ := List.mem_map.mp hx
            obtain ⟨y, hy, rfl⟩ := inS' z hz
            exact .inl (.inl (lz4.here (q := (y.1, .tup [.int y.2.1, .int y.2.2])) (List.mem_cons_of_mem _ (List.mem_cons_of_mem _ (List.mem_cons_of_mem _ (List.mem_cons_of_mem _ (List.mem_map.mpr ⟨y, hy, rfl⟩)))))))
          · intro x hx
            obtain ⟨z, hz, rfl⟩ := List.mem_map.mp hx
            obtain ⟨y, hy, rfl⟩ := inS' z hz
            exact uv y hy
          · rw [List.pairwise_map]
            have nd' : S'.Pairwise fun x y => x.2 ≠ y.2 := List.pairwise_map.mp nd
            refine (pw.and nd').imp_of_mem fun {x y} hx hy h => ?_
            obtain ⟨x', hx', rfl⟩ := inS' x hx
            obtain ⟨y', hy', rfl⟩ := inS' y hy
            have v1 := uv x' hx'
            have v2 := uv y' hy'
            obtain ⟨h1, h2⟩ := h
            rw [code_pair, code_pair] at h1
            have h3 : ¬ (x'.2.1 = y'.2.1 ∧ x'.2.2 = y'.2.2) := fun z => h2 (by rw [z.1, z.2])
            show x'.2.1 < y'.2.1 ∨ (x'.2.1 = y'.2.1 ∧ x'.2.2 < y'.2.2)
            omega
end

abbrev s_law : Stmt := topS 35
theorem sc_law : FnScope ["_law_script", "_law_draws_here", "_law_turn", "_law_size", "_law_some", "_law_made", "_law_every_here", "_law_cell"] ["_law_script"] (defScope s_law) := ⟨rfl, rfl, rfl, by decide +kernel, rfl, by decide +kernel, by decide +kernel⟩
theorem SameX.draw {a b : Addr} {m : Nat} {H H' : Hp} (s : SameX a H H') (hb : b ≠ a) (h : Draw H b m) : Draw H' b m := by
  obtain ⟨n, k, c, h1, h2⟩ := h
  exact ⟨n, k, c, s _ _ hb h1, h2⟩



theorem IsPairs.nil {K : PySem.W.Frag} {H : Hp} {a : Addr} (h : SqL K H a []) : IsPairs K H a [] := ⟨[], rfl, h, (fun _ z => nomatch z)⟩
theorem validW_nil {n : Nat} : ValidW n [] := ⟨(fun _ z => nomatch z), List.Pairwise.nil⟩


def drawL (ds : List (Addr × Int × Bool)) : Led := ds.map fun q => (q.1, drawO q.2.1 0 q.2.2)
section
variable {P : Program} {w : World} {K : PySem.W.Frag} {mg : Str → Option Value} {base : Heap}
def sp_law (K : PySem.W.Frag) : Sp := fun vs H Q _ => ∃ (a : Addr) (ns : List Int), vs = [.ref a] ∧ ns.length ≤ 63 ∧ SqL K H a (iv ns) ∧ ∀ H', Q (.bl true) H'
theorem ok_law {f : Addr} {fd : FuncData} {k : Nat} (F : Fun K "law" "law" s_law f fd) (z_range : mg "range" = none) (z_len : mg "len" = none)
    (c__law_draws : CalG P w K mg base k "_law_draws" s__law_draws ["_law_cell"] sp__law_draws) (c__law_web : CalG P w K mg base k "_law_web" s__law_web ["_law_draws_here", "_law_most", "_law_many"] (sp__law_web K))
    (c__law_log : CalG P w K mg base k "_law_log" s__law_log ["_law_draws_here", "_law_some"] (sp__law_log K)) (c__law_right : CalG P w K mg base k "_law_right" s__law_right ["_law_size", "_law_some", "_law_made"] (sp__law_right K))
    (c_ends : CalG P w K mg base k "ends" s_ends ["cells", "log"] (sp_ends K)) (c__law_rounds : CalG P w K mg base k "_law_rounds" s__law_rounds ["_law_told"] (sp__law_rounds K)) (c__law_every : CalG P w K mg base k "_law_every" s__law_every ["_law_size"] (sp__law_every K))
    (c_bridges : CalG P w K mg base k "bridges" s_bridges ["cells", "web"] (sp_bridges K)) :
    FG P w K mg base CX0 (k + 1) f fd ["_law_script"] (sp_law K) := by
  refine fg_fun F sc_law (fun vs H Q E h => ?_) (fun cdv A out s H vs Q E hr hg h => ?_)
  · obtain ⟨a, ns, rfl, _⟩ := h
    rfl
  · obtain ⟨a, ns, rfl, nl, hs, q⟩ := h
    have hu64 := hr.units
    refine ⟨_, (pss_cons (ps_for PassesOwn.never rfl (pi_listK K rfl (pe_lc (own := [("_law_cell", 7)]) (tt := tYes) rfl sc_law.nd (pi_listK K rfl (pe_op op_cat (pe_slice (sl_listK K rfl) (pv 0) po_none (po_some pe_int)) (pe_lst (pa_cons pe_int pa_nil)))) (blkOk_by (N := ["_law_script", "_law_draws_here", "_law_turn", "_law_size", "_law_some", "_law_made", "_law_every_here", "_law_cell"]) (sc := defScope s_law) (by decide +kernel)) (fun _ _ _ _ _ => (pg_name (i := 7) sc_law.nd rfl (Or.inl rfl))) (fun _ _ _ _ _ => pts_nil) (fun _ _ _ _ _ => (pe_cG c__law_draws hr (by omega) hg (by rfl) (pa_cons (pv 7) pa_nil))))) (pg_name (i := 1) sc_law.nd rfl (.inl rfl))
        (pss_cons (ps_for PassesOwn.never rfl (pi_range1 (by rfl) z_range (pa_cons pe_int pa_nil)) (pg_name (i := 2) sc_law.nd rfl (.inl rfl))
            (pss_cons (ps_asg (pe_cG c__law_web hr (by omega) hg (by rfl) (pa_cons (pv 1) (pa_cons pe_int (pa_cons pe_int pa_nil)))) (pg_tupK K rfl rfl (pgs_cons (pg_name (i := 3) sc_law.nd rfl (.inl rfl)) (pgs_cons (pg_name (i := 4) sc_law.nd rfl (.inl rfl)) pgs_nil))))
              (pss_one (ps_if (pt_not (pt_val (pe_cG c__law_right hr (by omega) hg (by rfl) (pa_cons (pv 3) (pa_cons (pv 4) (pa_cons (pe_cG c__law_log hr (by omega) hg (by rfl) (pa_cons (pv 1) (pa_cons (pv 4) pa_nil))) pa_nil))))))
                (pss_one (ps_ret pe_bl))
                pss_nil))))
          (pss_cons (ps_set (i := 4) sc_law.nd rfl (.inl rfl) (pe_lst (pa_cons (pe_tup (pa_cons pe_int (pa_cons pe_int pa_nil))) (pa_cons (pe_tup (pa_cons pe_int (pa_cons pe_int pa_nil))) (pa_cons (pe_tup (pa_cons pe_int (pa_cons pe_int pa_nil))) (pa_cons (pe_tup (pa_cons pe_int (pa_cons pe_int pa_nil))) (pa_cons (pe_tup (pa_cons pe_int (pa_cons pe_int pa_nil))) (pa_cons (pe_tup (pa_cons pe_int (pa_cons pe_int pa_nil))) (pa_cons (pe_tup (pa_cons pe_int (pa_cons pe_int pa_nil))) pa_nil)))))))))
          (pss_cons (ps_set (i := 5) sc_law.nd rfl (.inl rfl) (pe_cG c__law_log hr (by omega) hg (by rfl) (pa_cons (pv 1) (pa_cons (pv 4) pa_nil))))
          (pss_one (ps_if (PW.pt (pw_or (pt_not (pt_val (pe_cG c__law_right hr (by omega) hg (by rfl) (pa_cons pe_int (pa_cons (pv 4) (pa_cons (pv 5) pa_nil)))))) (pw_or1 (pt_cmpR op_ne (pe_callB (call_len_seqK K rfl) (by rfl) z_len bt_len (pa_cons (pe_cG c__law_rounds hr (by omega) hg (by rfl) (pa_cons (pe_cG c_ends hr (by omega) hg (by rfl) (pa_cons pe_int (pa_cons (pv 5) pa_nil))) pa_nil)) pa_nil)) pe_int (nomark _)))))
            (pss_one (ps_ret pe_bl))
            pss_nil))))))
      (pss_cons (ps_set (i := 6) sc_law.nd rfl (.inl rfl) (pe_cG c__law_every hr (by omega) hg (by rfl) (pa_cons pe_int pa_nil)))
      (pss_cons (ps_if (PW.pt (pw_or (pt_cmpR (op_neDK K rfl hu64) (pe_cG c_bridges hr (by omega) hg (by rfl) (pa_cons pe_int (pa_cons (pe_op op_cat (pv 6) (pe_lst (pa_cons (pe_tup (pa_cons pe_int (pa_cons pe_int pa_nil))) pa_nil))) pa_nil))) (pe_lst (pa_cons (pe_tup (pa_cons pe_int (pa_cons pe_int pa_nil))) pa_nil)) (nomark _)) (pw_or1 (pt_cmpR (op_neDK K rfl hu64) (pe_cG c_bridges hr (by omega) hg (by rfl) (pa_cons pe_int (pa_cons (pv 6) pa_nil))) (pe_lst pa_nil) (nomark _)))))
        (pss_one (ps_ret pe_bl))
        pss_nil)
      (pss_one (ps_ret (pe_and (pe_cmpR (op_eqDK K rfl hu64) (pe_cG c_bridges hr (by omega) hg (by rfl) (pa_cons pe_int (pa_cons (pe_lst (pa_cons (pe_tup (pa_cons pe_int (pa_cons pe_int pa_nil))) (pa_cons (pe_tup (pa_cons pe_int (pa_cons pe_int pa_nil))) (pa_cons (pe_tup (pa_cons pe_int (pa_cons pe_int pa_nil))) (pa_cons (pe_tup (pa_cons pe_int (pa_cons pe_int pa_nil))) pa_nil))))) pa_nil))) (pe_lst (pa_cons (pe_tup (pa_cons pe_int (pa_cons pe_int pa_nil))) pa_nil)) (nomark _)) (pe_one (pe_cmpR (op_eqDK K rfl hu64) (pe_cG c_bridges hr (by omega) hg (by rfl) (pa_cons pe_int (pa_cons (pe_lst pa_nil) pa_nil))) (pe_lst pa_nil) (nomark _))))))))), ?_⟩
    have ec : cutV (iv ns) none (some 6) = iv (ns.take 6) := (cut_to (xs := iv ns) (k := 6)).trans List.map_take.symm
    refine ⟨_, rfl, _, rfl, a, iv ns, rfl, hs, fun p1 hp1 => ⟨sl1, fun p2 hp2 => ?_⟩⟩
    rw [ec] at hp2 ⊢
    have m1 : upd (upd H p1 (.lst (iv (ns.take 6)))) p2 (.lst [.int 0]) p1 = some (.lst (iv (ns.take 6))) := by
      rw [upd_ne (ne_of_none upd_same hp2)]; exact upd_same
    have tl : (ns.take 6).length ≤ 6 := List.length_take_le _ _
    refine ⟨p1, p2, _, _, rfl, rfl, m1, upd_same, by rw [iv_len]; exact Nat.le_of_lt (sl_line' (by simp; omega)), fun p3 hp3 => ⟨p3, rfl, ⟨_, SqL.of upd_same⟩, fun D hD => ?_⟩⟩
    generalize hH0 : upd (upd (upd H p1 (.lst (iv (ns.take 6)))) p2 (.lst [.int 0])) p3 (.lst (iv (ns.take 6) ++ [.int 0])) = H0 at hD ⊢
    have s3 : SqL K H0 p3 (iv (ns.take 6 ++ [0])) := by rw [← hH0, iv_snoc]; exact SqL.of upd_same
    clear hH0
    refine lc_list (K := K) (a := p3) (xs := iv (ns.take 6 ++ [0])) (fun i H1 => ∃ ds : List (Addr × Int × Bool), ds.length = i ∧ (∀ q ∈ ds, 0 ≤ q.2.1) ∧ Loc H0 H1 ((D, .lst (refs ds)) :: drawL ds))
      ⟨[], rfl, (fun _ z => nomatch z), (Loc.refl H0).alloc hD⟩ (fun i H1 _ h => by obtain ⟨_, _, _, l⟩ := h; exact l.same.seq s3) ?_ ?_
    · rintro i x H1 hx ⟨ds, dl, dn, l⟩
      obtain ⟨c, hc, rfl⟩ := iv_inv hx
      have hi : i < (ns.take 6 ++ [0]).length := (List.getElem?_eq_some_iff.mp hc).1
      rw [List.length_append, List.length_singleton] at hi
      refine ⟨rfl, _, rfl, c, rfl, fun p n b hp n0 => ⟨refs ds, (l.alloc hp).atIx (i := 1) rfl, sl_line' (by rw [refs_len]; omega), ds ++ [(p, n, b)], by simp; omega, ?_, ?_⟩⟩
      · intro q hq
        rcases List.mem_append.mp hq with hq | hq
        · exact dn q hq
        · cases List.mem_singleton.mp hq; exact n0
      · have l2 := (l.alloc (o := drawO n 0 b) hp).setIx (i := 1) (o' := .lst (refs ds ++ [.ref p])) rfl
        have e : drawL (ds ++ [(p, n, b)]) = drawL ds ++ [(p, drawO n 0 b)] := List.map_append ..
        rw [refs_snoc, e]
        exact l2.perm (M := ((D, .lst (refs ds ++ [.ref p])) :: drawL ds) ++ [(p, _)]) List.perm_append_comm
    · rintro H1 ⟨ds, dl, dn, l⟩
      have nd := l.nd
      have fst : (drawL ds).map Prod.fst = ds.map Prod.fst := by unfold drawL; rw [List.map_map]; rfl
      rw [List.map_cons, fst, List.nodup_cons] at nd
      obtain ⟨ndD, nd⟩ := nd
      have neD : ∀ q ∈ ds, D ≠ q.1 := fun q hq e => ndD (by rw [e]; exact List.mem_map.mpr ⟨q, hq, rfl⟩)
      have neI : ∀ (i j : Nat) (q r : Addr × Int × Bool), ds[i]? = some q → ds[j]? = some r → i ≠ j → r.1 ≠ q.1 := fun i j q r h1 h2 h3 e => by
        refine h3 (nd_ix nd (by rw [List.getElem?_map, h1]; rfl) (by rw [List.getElem?_map, h2, ← e]; rfl))
      have start : ∀ q ∈ ds, Draw H1 q.1 0 := fun q hq => ⟨q.2.1, 0, q.2.2, l.here (q.1, drawO q.2.1 0 q.2.2) (List.mem_cons_of_mem _ (List.mem_map.mpr ⟨q, hq, rfl⟩)), dn q hq, by omega, by omega⟩
      refine ⟨D, rfl, ⟨_, SqL.of l.at0⟩, for_list (K := K) (a := D) (xs := refs ds)
        (fun i σ H2 => ∃ y1 y2 y3 y4 y5 : Option V, σ = [some (.ref a), y1, y2, y3, y4, y5, none, none] ∧ H2 D = some (.lst (refs ds)) ∧ ∀ j q, i ≤ j → ds[j]? = some q → Draw H2 q.1 0) ?_ ?_ ?_ ?_⟩
      · exact ⟨none, none, none, none, none, rfl, l.at0, fun j q _ hq => start q (List.mem_of_getElem? hq)⟩
      · intro i σ H2 _ h
        obtain ⟨_, _, _, _, _, _, h, _⟩ := h
        exact SqL.of h
      · rintro i x σ H2 hx ⟨y1, y2, y3, y4, y5, rfl, hD2, hdr⟩
        obtain ⟨⟨b, z⟩, hq, rfl⟩ := refs_inv hx
        refine ⟨_, rfl, by omega, by omega, for_range (lo := 0) (n := (3 : Int).toNat)
          (fun t σ H3 => ∃ y2 y3 y4 y5 : Option V, σ = [some (.ref a), some (.ref b), y2, y3, y4, y5, none, none] ∧ H3 D = some (.lst (refs ds)) ∧ Draw H3 b (512 * t) ∧ ∀ j q, i + 1 ≤ j → ds[j]? = some q → Draw H3 q.1 0) ?_ ?_ ?_⟩
        · exact ⟨_, _, _, _, rfl, hD2, hdr i _ (Nat.le_refl _) hq, fun j q hj h => hdr j q (by omega) h⟩
        · rintro t σ H3 ht ⟨y2, y3, y4, y5, rfl, hD3, hb, hdr3⟩
          have ht3 : t < 3 := ht
          have fin : ∀ H5, SameX b H3 H5 → Draw H5 b (512 * t + 512) → H5 D = some (.lst (refs ds)) ∧ Draw H5 b (512 * (t + 1)) ∧ ∀ j q, i + 1 ≤ j → ds[j]? = some q → Draw H5 q.1 0 := fun H5 sx dr =>
            ⟨sx _ _ (neD _ (List.mem_of_getElem? hq)) hD3, by rwa [show 512 * (t + 1) = 512 * t + 512 from by omega], fun j q hj h => sx.draw (neI i j _ _ hq h (by omega)) (hdr3 j q hj h)⟩
          refine ⟨_, rfl, b, 512 * t, 16, 5, rfl, hb, by omega, by decide, by decide, by decide, fun H4 T s n web sx dr hT hp hv n1 n2 wl => ⟨T, _, rfl, hT, rfl, _, _, rfl, _, _, rfl, rfl, ?_⟩⟩
          refine ⟨_, rfl, _, rfl, _, rfl, _, rfl, b, s, _, web, rfl, dr, by omega, by omega, hp, fun H5 lg log sx1 dr1 hpl pm => ?_⟩
          refine ⟨n, s, lg, web, log, rfl, n1, n2, by omega, hv, pm, hp.growX dr sx1, hpl, fun H6 s6 => ⟨_, rfl, ?_⟩⟩
          obtain ⟨f1, f2, f3⟩ := fin H6 (SameX.more (SameX.trans sx sx1) s6) ((Draw.grow s6 dr1).mono (by omega))
          exact iteFF rfl ⟨_, _, _, _, rfl, f1, f2, f3⟩
        · rintro σ H3 ⟨y2, y3, y4, y5, rfl, hD3, hb, hdr3⟩
          refine ⟨sl2, fun tA_0 hA_0 => ⟨sl2, fun tA_1 hA_1 => ⟨sl2, fun tA_2 hA_2 => ⟨sl2, fun tA_3 hA_3 => ⟨sl2, fun tA_4 hA_4 => ⟨sl2, fun tA_5 hA_5 => ⟨sl2, fun tA_6 hA_6 => ⟨Nat.le_of_lt (sl_line' (by simp)), fun a_A ha_A => ?_⟩⟩⟩⟩⟩⟩⟩⟩
          have l_A := ((((((((Loc.refl H3).alloc (o := .tup [.int 1, .int 2]) hA_0).alloc (o := .tup [.int 1, .int 3]) hA_1).alloc (o := .tup [.int 2, .int 3]) hA_2).alloc (o := .tup [.int 3, .int 4]) hA_3).alloc (o := .tup [.int 4, .int 5]) hA_4).alloc (o := .tup [.int 4, .int 6]) hA_5).alloc (o := .tup [.int 5, .int 6]) hA_6).alloc (o := .lst [.ref tA_0, .ref tA_1, .ref tA_2, .ref tA_3, .ref tA_4, .ref tA_5, .ref tA_6]) ha_A
          have p_A : IsPairs K _ a_A [(1, 2), (1, 3), (2, 3), (3, 4), (4, 5), (4, 6), (5, 6)] := ⟨[(tA_0, 1, 2), (tA_1, 1, 3), (tA_2, 2, 3), (tA_3, 3, 4), (tA_4, 4, 5), (tA_5, 4, 6), (tA_6, 5, 6)], rfl, SqL.of (l_A.atIx (i := 0) rfl), fun x hx => by
            simp only [List.mem_cons, List.not_mem_nil, or_false] at hx
            rcases hx with rfl | rfl | rfl | rfl | rfl | rfl | rfl
            · exact .inl (.inl (l_A.atIx (i := 7) rfl))
            · exact .inl (.inl (l_A.atIx (i := 6) rfl))
            · exact .inl (.inl (l_A.atIx (i := 5) rfl))
            · exact .inl (.inl (l_A.atIx (i := 4) rfl))
            · exact .inl (.inl (l_A.atIx (i := 3) rfl))
            · exact .inl (.inl (l_A.atIx (i := 2) rfl))
            · exact .inl (.inl (l_A.atIx (i := 1) rfl))⟩
          have dA := Draw.grow l_A.same hb
          refine ⟨_, rfl, _, rfl, b, a_A, _, web7, rfl, dA, by decide, by decide, p_A, fun H5 lg log sx1 dr1 hpl pm => ?_⟩
          have pA5 : IsPairs K H5 a_A web7 := p_A.growX dA sx1
          have lv : ValidL 6 log := web7_valid.1.perm pm
          have lnd : log.Nodup := pm.nodup_iff.mpr web7_valid.nodup
          have ll : log.length ≤ 1000 := by rw [pm.length_eq]; decide
          refine ⟨_, rfl, _, rfl, 6, a_A, lg, web7, log, rfl, by decide, by decide, by decide, web7_valid, pm, pA5, hpl, fun H6 s6 => ⟨_, rfl, ?_⟩⟩
          refine iteFF rfl ⟨_, rfl, 6, lg, log, rfl, by decide, by decide, ll, lv, lnd, hpl.grow s6, fun H7 d7 l7 => ⟨d7, 6, loc log, rfl, by decide, loc_perm lv, SqL.of l7.at0, fun H8 t8 rs er l8 => ⟨t8, _, rfl, .inl (SqL.of l8.at0), rfl, _, rfl, ?_⟩⟩⟩
          have r3 : (refs rs).length = 3 := by rw [refs_len, ← vals_len, er, web7_rounds pm]
          refine iteFF (by rw [r3]; rfl) ?_
          have sA8 : SameX b H3 H8 := SameX.more (SameX.trans (Same.x l_A.same) sx1) (s6.trans (l7.same.trans l8.same))
          exact ⟨_, _, _, _, _, rfl, sA8 _ _ (neD _ (List.mem_of_getElem? hq)) hD3, fun j q hj h => sA8.draw (neI i j _ _ hq h (by omega)) (hdr3 j q hj h)⟩
      · rintro σ H2 ⟨y1, y2, y3, y4, y5, rfl, hD2, hdr⟩
        clear hdr hD2 neI neD start fst
        refine ⟨15, rfl, by decide, fun H3 p3 ts et hp3 ht s3 => ?_⟩
        refine ⟨_, rfl, sl2, fun t1 ht1 => ⟨Nat.le_of_lt (sl_line' (by show 1 < 100000; omega)), fun g1 hg1 => ?_⟩⟩
        have l1 := ((Loc.refl H3).alloc (o := .tup [.int 15, .int 16]) ht1).alloc (o := .lst [.ref t1]) hg1
        have tsl : ts.length ≤ 225 := by rw [← vals_len ts, et]; exact every_len
        refine ⟨p3, g1, _, _, rfl, rfl, l1.same _ _ hp3, l1.at0, by rw [refs_len]; exact Nat.le_of_lt (sl_line' (by show ts.length + 1 < 100000; omega)), fun o ho => ?_⟩
        have l2 := l1.alloc (o := .lst (refs ts ++ [.ref t1])) ho
        have po : IsPairs K _ o (everyL 15 ++ [(15, 16)]) := ⟨ts ++ [(t1, 15, 16)], by unfold vals at et ⊢; rw [List.map_append, et]; rfl, by rw [refs_app]; exact SqL.of l2.at0, fun x hx => by
          rcases List.mem_append.mp hx with hx | hx
          · exact Same.sqT l2.same (ht x hx)
          · cases List.mem_singleton.mp hx
            exact SqT.of (l2.atIx (i := 2) rfl)⟩
        have pe : IsPairs K _ p3 (everyL 15) := ⟨ts, et, SqL.of (l2.same _ _ hp3), fun x hx => Same.sqT l2.same (ht x hx)⟩
        refine ⟨16, o, _, rfl, by decide, by decide, by rw [List.length_append]; have := every_len; simp; omega, every_more_valid, po, fun H5 p5 us5 e5 u5 l5 => ?_⟩
        rw [every_one] at e5
        refine ⟨sl2, fun t6 ht6 => ⟨Nat.le_of_lt (sl_line' (by show 1 < 100000; omega)), fun g6 hg6 => ?_⟩⟩
        have l6 := ((Loc.refl H5).alloc (o := .tup [.int 15, .int 16]) ht6).alloc (o := .lst [.ref t6]) hg6
        have q5 : IsPairs K _ p5 [(15, 16)] := ⟨us5, e5, l6.same.seq (SqL.of l5.at0), fun x hx => Same.sqT l6.same (u5 x hx)⟩
        have q6 : IsPairs K _ g6 [(15, 16)] := ⟨[(t6, 15, 16)], rfl, SqL.of l6.at0, fun x hx => by cases List.mem_singleton.mp hx; exact SqT.of (l6.atIx (i := 1) rfl)⟩
        refine ⟨_, _, q5.dp, q6.dp, shaped_dP _, shaped_dP _, ?_⟩
        rw [eqv_dP, decide_eq_true rfl]
        have pe6 := (pe.grow l5.same).grow l6.same
        clear q5 q6 pe po l2 l1
        refine ⟨_, rfl, iteFF rfl ⟨_, rfl, 16, p3, _, rfl, by decide, by decide, Nat.le_trans every_len (by decide), every_valid (by decide), pe6, fun H7 p7 us7 e7 u7 l7 => ⟨Nat.zero_le _, fun g8 hg8 => ?_⟩⟩⟩
        rw [every_none] at e7
        have q7 : IsPairs K (upd H7 g8 (.lst [])) p7 [] := ⟨us7, e7, (sA hg8).seq (SqL.of l7.at0), fun x hx => Same.sqT (sA hg8) (u7 x hx)⟩
        refine ⟨_, dP [], q7.dp, IsPairs.dp (ps := []) (IsPairs.nil (SqL.of upd_same)), shaped_dP _, shaped_dP _, ?_⟩
        rw [eqv_dP, decide_eq_true rfl]
        refine ⟨_, rfl, iteFF rfl ?_⟩
        clear l5 l6 l7 q7 pe6
        refine ⟨sl2, fun tB_0 hB_0 => ⟨sl2, fun tB_1 hB_1 => ⟨sl2, fun tB_2 hB_2 => ⟨sl2, fun tB_3 hB_3 => ⟨Nat.le_of_lt (sl_line' (by simp)), fun a_B ha_B => ?_⟩⟩⟩⟩⟩
        have l_B := (((((Loc.refl _).alloc (o := .tup [.int 1, .int 2]) hB_0).alloc (o := .tup [.int 1, .int 3]) hB_1).alloc (o := .tup [.int 2, .int 3]) hB_2).alloc (o := .tup [.int 3, .int 4]) hB_3).alloc (o := .lst [.ref tB_0, .ref tB_1, .ref tB_2, .ref tB_3]) ha_B
        have p_B : IsPairs K _ a_B [(1, 2), (1, 3), (2, 3), (3, 4)] := ⟨[(tB_0, 1, 2), (tB_1, 1, 3), (tB_2, 2, 3), (tB_3, 3, 4)], rfl, SqL.of (l_B.atIx (i := 0) rfl), fun x hx => by
          simp only [List.mem_cons, List.not_mem_nil, or_false] at hx
          rcases hx with rfl | rfl | rfl | rfl
          · exact .inl (.inl (l_B.atIx (i := 4) rfl))
          · exact .inl (.inl (l_B.atIx (i := 3) rfl))
          · exact .inl (.inl (l_B.atIx (i := 2) rfl))
          · exact .inl (.inl (l_B.atIx (i := 1) rfl))⟩
        have eB : brsL 4 [(1, 2), (1, 3), (2, 3), (3, 4)] = [(3, 4)] := by decide +kernel
        refine ⟨4, a_B, [(1, 2), (1, 3), (2, 3), (3, 4)], rfl, by decide, by decide, by decide, ⟨by unfold ValidL; decide, by unfold ltP; decide⟩, p_B, fun H9 p9 us9 e9 u9 l9 => ?_⟩
        rw [eB] at e9
        refine ⟨sl2, fun t6 ht6 => ⟨Nat.le_of_lt (sl_line' (by show 1 < 100000; omega)), fun g6 hg6 => ?_⟩⟩
        have l6 := ((Loc.refl H9).alloc (o := .tup [.int 3, .int 4]) ht6).alloc (o := .lst [.ref t6]) hg6
        have q5 : IsPairs K _ p9 [(3, 4)] := ⟨us9, e9, l6.same.seq (SqL.of l9.at0), fun x hx => Same.sqT l6.same (u9 x hx)⟩
        have q6 : IsPairs K _ g6 [(3, 4)] := ⟨[(t6, 3, 4)], rfl, SqL.of l6.at0, fun x hx => by cases List.mem_singleton.mp hx; exact SqT.of (l6.atIx (i := 1) rfl)⟩
        refine ⟨_, _, q5.dp, q6.dp, shaped_dP _, shaped_dP _, ?_⟩
        rw [eqv_dP, decide_eq_true rfl]
        refine ⟨_, rfl, iteT ⟨Nat.zero_le _, fun gC hgC => ⟨1, gC, [], rfl, by decide, by decide, by decide, validW_nil, IsPairs.nil (SqL.of upd_same), fun HA pA usA eA uA lA => ⟨Nat.zero_le _, fun gD hgD => ?_⟩⟩⟩⟩
        have qA : IsPairs K (upd HA gD (.lst [])) pA [] := ⟨usA, eA, (sA hgD).seq (SqL.of lA.at0), fun x hx => Same.sqT (sA hgD) (uA x hx)⟩
        refine ⟨_, dP [], qA.dp, IsPairs.dp (ps := []) (IsPairs.nil (SqL.of upd_same)), shaped_dP _, shaped_dP _, ?_⟩
        rw [eqv_dP, decide_eq_true rfl]
        exact q _
end

theorem all_mk {l : PySem.W.OpenLaw} {w : World} {K : PySem.W.Frag} {h : Heap} {mg : Str → Option Value} {fa : Addr} (X : K.In h) (G : h.Ns mainGlobals mg) (hfa : mg "law" = some (.ref fa))
    {oc1 kV1 dc1 pm1 cd1 ct1 : Value} {od1 an1 : Option Addr} {sl1 : Array (Option Value)} {f1 : Addr}
    (a1 : PySem.W.nsIn K mainGlobals "is_whole" = some (some (.ref f1)))
    (l1 : K.lookup f1 = some ⟨oc1, od1, .func (PySem.W.fnOf "is_whole" "is_whole" (defArgs s_is_whole) (defBody s_is_whole) (defScope s_is_whole) .none kV1 dc1 pm1 an1 cd1 ct1), sl1⟩)
    (c1 : PySem.W.codeIn K cd1 "is_whole" = true)
    (k1 : PySem.W.keepIn K (.ref f1) = true)
    {oc2 kV2 dc2 pm2 cd2 ct2 : Value} {od2 an2 : Option Addr} {sl2 : Array (Option Value)} {f2 : Addr}
    (a2 : PySem.W.nsIn K mainGlobals "neighbours_of" = some (some (.ref f2)))
    (l2 : K.lookup f2 = some ⟨oc2, od2, .func (PySem.W.fnOf "neighbours_of" "neighbours_of" (defArgs s_neighbours_of) (defBody s_neighbours_of) (defScope s_neighbours_of) .none kV2 dc2 pm2 an2 cd2 ct2), sl2⟩)
    (c2 : PySem.W.codeIn K cd2 "neighbours_of" = true)
    (k2 : PySem.W.keepIn K (.ref f2) = true)
    {oc3 kV3 dc3 pm3 cd3 ct3 : Value} {od3 an3 : Option Addr} {sl3 : Array (Option Value)} {f3 : Addr}
    (a3 : PySem.W.nsIn K mainGlobals "ways_after" = some (some (.ref f3)))
    (l3 : K.lookup f3 = some ⟨oc3, od3, .func (PySem.W.fnOf "ways_after" "ways_after" (defArgs s_ways_after) (defBody s_ways_after) (defScope s_ways_after) .none kV3 dc3 pm3 an3 cd3 ct3), sl3⟩)
    (c3 : PySem.W.codeIn K cd3 "ways_after" = true)
    (k3 : PySem.W.keepIn K (.ref f3) = true)
    {oc4 kV4 dc4 pm4 cd4 ct4 : Value} {od4 an4 : Option Addr} {sl4 : Array (Option Value)} {f4 : Addr}
    (a4 : PySem.W.nsIn K mainGlobals "_law_draws" = some (some (.ref f4)))
    (l4 : K.lookup f4 = some ⟨oc4, od4, .func (PySem.W.fnOf "_law_draws" "_law_draws" (defArgs s__law_draws) (defBody s__law_draws) (defScope s__law_draws) .none kV4 dc4 pm4 an4 cd4 ct4), sl4⟩)
    (c4 : PySem.W.codeIn K cd4 "_law_draws" = true)
    (k4 : PySem.W.keepIn K (.ref f4) = true)
    {oc5 kV5 dc5 pm5 cd5 ct5 : Value} {od5 an5 : Option Addr} {sl5 : Array (Option Value)} {f5 : Addr}
    (a5 : PySem.W.nsIn K mainGlobals "_law_next" = some (some (.ref f5)))
    (l5 : K.lookup f5 = some ⟨oc5, od5, .func (PySem.W.fnOf "_law_next" "_law_next" (defArgs s__law_next) (defBody s__law_next) (defScope s__law_next) .none kV5 dc5 pm5 an5 cd5 ct5), sl5⟩)
    (c5 : PySem.W.codeIn K cd5 "_law_next" = true)
    (k5 : PySem.W.keepIn K (.ref f5) = true)
    {oc6 kV6 dc6 pm6 cd6 ct6 : Value} {od6 an6 : Option Addr} {sl6 : Array (Option Value)} {f6 : Addr}
    (a6 : PySem.W.nsIn K mainGlobals "_law_pieces" = some (some (.ref f6)))
    (l6 : K.lookup f6 = some ⟨oc6, od6, .func (PySem.W.fnOf "_law_pieces" "_law_pieces" (defArgs s__law_pieces) (defBody s__law_pieces) (defScope s__law_pieces) .none kV6 dc6 pm6 an6 cd6 ct6), sl6⟩)
    (c6 : PySem.W.codeIn K cd6 "_law_pieces" = true)
    (k6 : PySem.W.keepIn K (.ref f6) = true)
    {oc7 kV7 dc7 pm7 cd7 ct7 : Value} {od7 an7 : Option Addr} {sl7 : Array (Option Value)} {f7 : Addr}
    (a7 : PySem.W.nsIn K mainGlobals "_law_ends" = some (some (.ref f7)))
    (l7 : K.lookup f7 = some ⟨oc7, od7, .func (PySem.W.fnOf "_law_ends" "_law_ends" (defArgs s__law_ends) (defBody s__law_ends) (defScope s__law_ends) .none kV7 dc7 pm7 an7 cd7 ct7), sl7⟩)
    (c7 : PySem.W.codeIn K cd7 "_law_ends" = true)
    (k7 : PySem.W.keepIn K (.ref f7) = true)
    {oc8 kV8 dc8 pm8 cd8 ct8 : Value} {od8 an8 : Option Addr} {sl8 : Array (Option Value)} {f8 : Addr}
    (a8 : PySem.W.nsIn K mainGlobals "_law_rounds" = some (some (.ref f8)))
    (l8 : K.lookup f8 = some ⟨oc8, od8, .func (PySem.W.fnOf "_law_rounds" "_law_rounds" (defArgs s__law_rounds) (defBody s__law_rounds) (defScope s__law_rounds) .none kV8 dc8 pm8 an8 cd8 ct8), sl8⟩)
    (c8 : PySem.W.codeIn K cd8 "_law_rounds" = true)
    (k8 : PySem.W.keepIn K (.ref f8) = true)
    {oc9 kV9 dc9 pm9 cd9 ct9 : Value} {od9 an9 : Option Addr} {sl9 : Array (Option Value)} {f9 : Addr}
    (a9 : PySem.W.nsIn K mainGlobals "_law_every" = some (some (.ref f9)))
    (l9 : K.lookup f9 = some ⟨oc9, od9, .func (PySem.W.fnOf "_law_every" "_law_every" (defArgs s__law_every) (defBody s__law_every) (defScope s__law_every) .none kV9 dc9 pm9 an9 cd9 ct9), sl9⟩)
    (c9 : PySem.W.codeIn K cd9 "_law_every" = true)
    (k9 : PySem.W.keepIn K (.ref f9) = true)
    {oc10 kV10 dc10 pm10 cd10 ct10 : Value} {od10 an10 : Option Addr} {sl10 : Array (Option Value)} {f10 : Addr}
    (a10 : PySem.W.nsIn K mainGlobals "check_cells" = some (some (.ref f10)))
    (l10 : K.lookup f10 = some ⟨oc10, od10, .func (PySem.W.fnOf "check_cells" "check_cells" (defArgs s_check_cells) (defBody s_check_cells) (defScope s_check_cells) .none kV10 dc10 pm10 an10 cd10 ct10), sl10⟩)
    (c10 : PySem.W.codeIn K cd10 "check_cells" = true)
    (k10 : PySem.W.keepIn K (.ref f10) = true)
    {oc11 kV11 dc11 pm11 cd11 ct11 : Value} {od11 an11 : Option Addr} {sl11 : Array (Option Value)} {f11 : Addr}
    (a11 : PySem.W.nsIn K mainGlobals "is_exchange" = some (some (.ref f11)))
    (l11 : K.lookup f11 = some ⟨oc11, od11, .func (PySem.W.fnOf "is_exchange" "is_exchange" (defArgs s_is_exchange) (defBody s_is_exchange) (defScope s_is_exchange) .none kV11 dc11 pm11 an11 cd11 ct11), sl11⟩)
    (c11 : PySem.W.codeIn K cd11 "is_exchange" = true)
    (k11 : PySem.W.keepIn K (.ref f11) = true)
    {oc12 kV12 dc12 pm12 cd12 ct12 : Value} {od12 an12 : Option Addr} {sl12 : Array (Option Value)} {f12 : Addr}
    (a12 : PySem.W.nsIn K mainGlobals "pieces_of" = some (some (.ref f12)))
    (l12 : K.lookup f12 = some ⟨oc12, od12, .func (PySem.W.fnOf "pieces_of" "pieces_of" (defArgs s_pieces_of) (defBody s_pieces_of) (defScope s_pieces_of) .none kV12 dc12 pm12 an12 cd12 ct12), sl12⟩)
    (c12 : PySem.W.codeIn K cd12 "pieces_of" = true)
    (k12 : PySem.W.keepIn K (.ref f12) = true)
    {oc13 kV13 dc13 pm13 cd13 ct13 : Value} {od13 an13 : Option Addr} {sl13 : Array (Option Value)} {f13 : Addr}
    (a13 : PySem.W.nsIn K mainGlobals "ends_after" = some (some (.ref f13)))
    (l13 : K.lookup f13 = some ⟨oc13, od13, .func (PySem.W.fnOf "ends_after" "ends_after" (defArgs s_ends_after) (defBody s_ends_after) (defScope s_ends_after) .none kV13 dc13 pm13 an13 cd13 ct13), sl13⟩)
    (c13 : PySem.W.codeIn K cd13 "ends_after" = true)
    (k13 : PySem.W.keepIn K (.ref f13) = true)
    {oc14 kV14 dc14 pm14 cd14 ct14 : Value} {od14 an14 : Option Addr} {sl14 : Array (Option Value)} {f14 : Addr}
    (a14 : PySem.W.nsIn K mainGlobals "_law_web" = some (some (.ref f14)))
    (l14 : K.lookup f14 = some ⟨oc14, od14, .func (PySem.W.fnOf "_law_web" "_law_web" (defArgs s__law_web) (defBody s__law_web) (defScope s__law_web) .none kV14 dc14 pm14 an14 cd14 ct14), sl14⟩)
    (c14 : PySem.W.codeIn K cd14 "_law_web" = true)
    (k14 : PySem.W.keepIn K (.ref f14) = true)
    {oc15 kV15 dc15 pm15 cd15 ct15 : Value} {od15 an15 : Option Addr} {sl15 : Array (Option Value)} {f15 : Addr}
    (a15 : PySem.W.nsIn K mainGlobals "_law_log" = some (some (.ref f15)))
    (l15 : K.lookup f15 = some ⟨oc15, od15, .func (PySem.W.fnOf "_law_log" "_law_log" (defArgs s__law_log) (defBody s__law_log) (defScope s__law_log) .none kV15 dc15 pm15 an15 cd15 ct15), sl15⟩)
    (c15 : PySem.W.codeIn K cd15 "_law_log" = true)
    (k15 : PySem.W.keepIn K (.ref f15) = true)
    {oc16 kV16 dc16 pm16 cd16 ct16 : Value} {od16 an16 : Option Addr} {sl16 : Array (Option Value)} {f16 : Addr}
    (a16 : PySem.W.nsIn K mainGlobals "_law_side" = some (some (.ref f16)))
    (l16 : K.lookup f16 = some ⟨oc16, od16, .func (PySem.W.fnOf "_law_side" "_law_side" (defArgs s__law_side) (defBody s__law_side) (defScope s__law_side) .none kV16 dc16 pm16 an16 cd16 ct16), sl16⟩)
    (c16 : PySem.W.codeIn K cd16 "_law_side" = true)
    (k16 : PySem.W.keepIn K (.ref f16) = true)
    {oc17 kV17 dc17 pm17 cd17 ct17 : Value} {od17 an17 : Option Addr} {sl17 : Array (Option Value)} {f17 : Addr}
    (a17 : PySem.W.nsIn K mainGlobals "check_web" = some (some (.ref f17)))
    (l17 : K.lookup f17 = some ⟨oc17, od17, .func (PySem.W.fnOf "check_web" "check_web" (defArgs s_check_web) (defBody s_check_web) (defScope s_check_web) .none kV17 dc17 pm17 an17 cd17 ct17), sl17⟩)
    (c17 : PySem.W.codeIn K cd17 "check_web" = true)
    (k17 : PySem.W.keepIn K (.ref f17) = true)
    {oc18 kV18 dc18 pm18 cd18 ct18 : Value} {od18 an18 : Option Addr} {sl18 : Array (Option Value)} {f18 : Addr}
    (a18 : PySem.W.nsIn K mainGlobals "is_tree_web" = some (some (.ref f18)))
    (l18 : K.lookup f18 = some ⟨oc18, od18, .func (PySem.W.fnOf "is_tree_web" "is_tree_web" (defArgs s_is_tree_web) (defBody s_is_tree_web) (defScope s_is_tree_web) .none kV18 dc18 pm18 an18 cd18 ct18), sl18⟩)
    (c18 : PySem.W.codeIn K cd18 "is_tree_web" = true)
    (k18 : PySem.W.keepIn K (.ref f18) = true)
    {oc19 kV19 dc19 pm19 cd19 ct19 : Value} {od19 an19 : Option Addr} {sl19 : Array (Option Value)} {f19 : Addr}
    (a19 : PySem.W.nsIn K mainGlobals "bridges_of" = some (some (.ref f19)))
    (l19 : K.lookup f19 = some ⟨oc19, od19, .func (PySem.W.fnOf "bridges_of" "bridges_of" (defArgs s_bridges_of) (defBody s_bridges_of) (defScope s_bridges_of) .none kV19 dc19 pm19 an19 cd19 ct19), sl19⟩)
    (c19 : PySem.W.codeIn K cd19 "bridges_of" = true)
    (k19 : PySem.W.keepIn K (.ref f19) = true)
    {oc20 kV20 dc20 pm20 cd20 ct20 : Value} {od20 an20 : Option Addr} {sl20 : Array (Option Value)} {f20 : Addr}
    (a20 : PySem.W.nsIn K mainGlobals "check_log" = some (some (.ref f20)))
    (l20 : K.lookup f20 = some ⟨oc20, od20, .func (PySem.W.fnOf "check_log" "check_log" (defArgs s_check_log) (defBody s_check_log) (defScope s_check_log) .none kV20 dc20 pm20 an20 cd20 ct20), sl20⟩)
    (c20 : PySem.W.codeIn K cd20 "check_log" = true)
    (k20 : PySem.W.keepIn K (.ref f20) = true)
    {oc21 kV21 dc21 pm21 cd21 ct21 : Value} {od21 an21 : Option Addr} {sl21 : Array (Option Value)} {f21 : Addr}
    (a21 : PySem.W.nsIn K mainGlobals "_law_bridges" = some (some (.ref f21)))
    (l21 : K.lookup f21 = some ⟨oc21, od21, .func (PySem.W.fnOf "_law_bridges" "_law_bridges" (defArgs s__law_bridges) (defBody s__law_bridges) (defScope s__law_bridges) .none kV21 dc21 pm21 an21 cd21 ct21), sl21⟩)
    (c21 : PySem.W.codeIn K cd21 "_law_bridges" = true)
    (k21 : PySem.W.keepIn K (.ref f21) = true)
    {oc22 kV22 dc22 pm22 cd22 ct22 : Value} {od22 an22 : Option Addr} {sl22 : Array (Option Value)} {f22 : Addr}
    (a22 : PySem.W.nsIn K mainGlobals "is_tree" = some (some (.ref f22)))
    (l22 : K.lookup f22 = some ⟨oc22, od22, .func (PySem.W.fnOf "is_tree" "is_tree" (defArgs s_is_tree) (defBody s_is_tree) (defScope s_is_tree) .none kV22 dc22 pm22 an22 cd22 ct22), sl22⟩)
    (c22 : PySem.W.codeIn K cd22 "is_tree" = true)
    (k22 : PySem.W.keepIn K (.ref f22) = true)
    {oc23 kV23 dc23 pm23 cd23 ct23 : Value} {od23 an23 : Option Addr} {sl23 : Array (Option Value)} {f23 : Addr}
    (a23 : PySem.W.nsIn K mainGlobals "bridges" = some (some (.ref f23)))
    (l23 : K.lookup f23 = some ⟨oc23, od23, .func (PySem.W.fnOf "bridges" "bridges" (defArgs s_bridges) (defBody s_bridges) (defScope s_bridges) .none kV23 dc23 pm23 an23 cd23 ct23), sl23⟩)
    (c23 : PySem.W.codeIn K cd23 "bridges" = true)
    (k23 : PySem.W.keepIn K (.ref f23) = true)
    {oc24 kV24 dc24 pm24 cd24 ct24 : Value} {od24 an24 : Option Addr} {sl24 : Array (Option Value)} {f24 : Addr}
    (a24 : PySem.W.nsIn K mainGlobals "ends" = some (some (.ref f24)))
    (l24 : K.lookup f24 = some ⟨oc24, od24, .func (PySem.W.fnOf "ends" "ends" (defArgs s_ends) (defBody s_ends) (defScope s_ends) .none kV24 dc24 pm24 an24 cd24 ct24), sl24⟩)
    (c24 : PySem.W.codeIn K cd24 "ends" = true)
    (k24 : PySem.W.keepIn K (.ref f24) = true)
    {oc25 kV25 dc25 pm25 cd25 ct25 : Value} {od25 an25 : Option Addr} {sl25 : Array (Option Value)} {f25 : Addr}
    (a25 : PySem.W.nsIn K mainGlobals "ways" = some (some (.ref f25)))
    (l25 : K.lookup f25 = some ⟨oc25, od25, .func (PySem.W.fnOf "ways" "ways" (defArgs s_ways) (defBody s_ways) (defScope s_ways) .none kV25 dc25 pm25 an25 cd25 ct25), sl25⟩)
    (c25 : PySem.W.codeIn K cd25 "ways" = true)
    (k25 : PySem.W.keepIn K (.ref f25) = true)
    {oc26 kV26 dc26 pm26 cd26 ct26 : Value} {od26 an26 : Option Addr} {sl26 : Array (Option Value)} {f26 : Addr}
    (a26 : PySem.W.nsIn K mainGlobals "_law_over_right" = some (some (.ref f26)))
    (l26 : K.lookup f26 = some ⟨oc26, od26, .func (PySem.W.fnOf "_law_over_right" "_law_over_right" (defArgs s__law_over_right) (defBody s__law_over_right) (defScope s__law_over_right) .none kV26 dc26 pm26 an26 cd26 ct26), sl26⟩)
    (c26 : PySem.W.codeIn K cd26 "_law_over_right" = true)
    (k26 : PySem.W.keepIn K (.ref f26) = true)
    {oc27 kV27 dc27 pm27 cd27 ct27 : Value} {od27 an27 : Option Addr} {sl27 : Array (Option Value)} {f27 : Addr}
    (a27 : PySem.W.nsIn K mainGlobals "_law_right" = some (some (.ref f27)))
    (l27 : K.lookup f27 = some ⟨oc27, od27, .func (PySem.W.fnOf "_law_right" "_law_right" (defArgs s__law_right) (defBody s__law_right) (defScope s__law_right) .none kV27 dc27 pm27 an27 cd27 ct27), sl27⟩)
    (c27 : PySem.W.codeIn K cd27 "_law_right" = true)
    (k27 : PySem.W.keepIn K (.ref f27) = true)
    {oc28 kV28 dc28 pm28 cd28 ct28 : Value} {od28 an28 : Option Addr} {sl28 : Array (Option Value)} {f28 : Addr}
    (a28 : PySem.W.nsIn K mainGlobals "law" = some (some (.ref f28)))
    (l28 : K.lookup f28 = some ⟨oc28, od28, .func (PySem.W.fnOf "law" "law" (defArgs s_law) (defBody s_law) (defScope s_law) .none kV28 dc28 pm28 an28 cd28 ct28), sl28⟩)
    (c28 : PySem.W.codeIn K cd28 "law" = true)
    (k28 : PySem.W.keepIn K (.ref f28) = true)
    (z_bool : PySem.W.nsIn K mainGlobals "bool" = some none)
    (z_enumerate : PySem.W.nsIn K mainGlobals "enumerate" = some none)
    (z_int : PySem.W.nsIn K mainGlobals "int" = some none)
    (z_isinstance : PySem.W.nsIn K mainGlobals "isinstance" = some none)
    (z_len : PySem.W.nsIn K mainGlobals "len" = some none)
    (z_list : PySem.W.nsIn K mainGlobals "list" = some none)
    (z_max : PySem.W.nsIn K mainGlobals "max" = some none)
    (z_min : PySem.W.nsIn K mainGlobals "min" = some none)
    (z_range : PySem.W.nsIn K mainGlobals "range" = some none)
    (z_repr : PySem.W.nsIn K mainGlobals "repr" = some none)
    (z_set : PySem.W.nsIn K mainGlobals "set" = some none)
    (z_sorted : PySem.W.nsIn K mainGlobals "sorted" = some none)
    (z_tuple : PySem.W.nsIn K mainGlobals "tuple" = some none)
    (z_zip : PySem.W.nsIn K mainGlobals "zip" = some none)
    {tg_MOST_CELLS : Nat}
    (g_MOST_CELLS : PySem.W.nsIn K mainGlobals "MOST_CELLS" = some (some (.int 16 tg_MOST_CELLS)))
    : ∃ fd : FuncData, (∀ (s : Shared) (u : Value), BindsTo s fd ⟨[u], []⟩ [("_law_script", u)]) ∧ ∀ base : Heap, K.In base → base.Ns mainGlobals mg → FG l.prog w K mg base CX0 7 fa fd ["_law_script"] (sp_law K) := by
  have e := hfa.symm.trans (PySem.W.mg_of X G a28)
  cases e
  have F1 := fun_mk (st := s_is_whole) l1 c1 k1
  have F2 := fun_mk (st := s_neighbours_of) l2 c2 k2
  have F3 := fun_mk (st := s_ways_after) l3 c3 k3
  have F4 := fun_mk (st := s__law_draws) l4 c4 k4
  have F5 := fun_mk (st := s__law_next) l5 c5 k5
  have F6 := fun_mk (st := s__law_pieces) l6 c6 k6
  have F7 := fun_mk (st := s__law_ends) l7 c7 k7
  have F8 := fun_mk (st := s__law_rounds) l8 c8 k8
  have F9 := fun_mk (st := s__law_every) l9 c9 k9
  have F10 := fun_mk (st := s_check_cells) l10 c10 k10
  have F11 := fun_mk (st := s_is_exchange) l11 c11 k11
  have F12 := fun_mk (st := s_pieces_of) l12 c12 k12
  have F13 := fun_mk (st := s_ends_after) l13 c13 k13
  have F14 := fun_mk (st := s__law_web) l14 c14 k14
  have F15 := fun_mk (st := s__law_log) l15 c15 k15
  have F16 := fun_mk (st := s__law_side) l16 c16 k16
  have F17 := fun_mk (st := s_check_web) l17 c17 k17
  have F18 := fun_mk (st := s_is_tree_web) l18 c18 k18
  have F19 := fun_mk (st := s_bridges_of) l19 c19 k19
  have F20 := fun_mk (st := s_check_log) l20 c20 k20
  have F21 := fun_mk (st := s__law_bridges) l21 c21 k21
  have F22 := fun_mk (st := s_is_tree) l22 c22 k22
  have F23 := fun_mk (st := s_bridges) l23 c23 k23
  have F24 := fun_mk (st := s_ends) l24 c24 k24
  have F25 := fun_mk (st := s_ways) l25 c25 k25
  have F26 := fun_mk (st := s__law_over_right) l26 c26 k26
  have F27 := fun_mk (st := s__law_right) l27 c27 k27
  have F28 := fun_mk (st := s_law) l28 c28 k28
  have z_bool' := PySem.W.mg_none_of X G z_bool
  have z_enumerate' := PySem.W.mg_none_of X G z_enumerate
  have z_int' := PySem.W.mg_none_of X G z_int
  have z_isinstance' := PySem.W.mg_none_of X G z_isinstance
  have z_len' := PySem.W.mg_none_of X G z_len
  have z_list' := PySem.W.mg_none_of X G z_list
  have z_max' := PySem.W.mg_none_of X G z_max
  have z_min' := PySem.W.mg_none_of X G z_min
  have z_range' := PySem.W.mg_none_of X G z_range
  have z_repr' := PySem.W.mg_none_of X G z_repr
  have z_set' := PySem.W.mg_none_of X G z_set
  have z_sorted' := PySem.W.mg_none_of X G z_sorted
  have z_tuple' := PySem.W.mg_none_of X G z_tuple
  have z_zip' := PySem.W.mg_none_of X G z_zip
  have g_MOST_CELLS' := PySem.W.mg_of X G g_MOST_CELLS
  have k_bridges_web_cells : KwOk "bridges" s_bridges ["cells", "web"] ["web", "cells"] turn2 turn2 := ⟨fun _ _ _ _ _ _ ws hl => match ws, hl with | [_, _], _ => rfl, fun h => turn2_vals h⟩
  refine ⟨PySem.W.fnOf "law" "law" (defArgs s_law) (defBody s_law) (defScope s_law) .none kV28 dc28 pm28 an28 cd28 ct28, fun s v => .of_eq rfl, fun base _ _ => ?_⟩
  have C1 : CalG l.prog w K mg base 1 "is_whole" s_is_whole ["thing"] (sp_is_whole K) := ⟨⟨f1, _, ok_is_whole (P := l.prog) (w := w) (K := K) (mg := mg) (base := base) (k := 0) (F := F1) (z_int := z_int') (z_isinstance := z_isinstance') (z_bool := z_bool'), PySem.W.mg_of X G a1, F1⟩, fun _ _ _ _ _ _ us hl => match us, hl with | [_], _ => rfl⟩
  have C2 : CalG l.prog w K mg base 1 "neighbours_of" s_neighbours_of ["cells", "web"] (sp_neighbours_of K) := ⟨⟨f2, _, ok_neighbours_of (P := l.prog) (w := w) (K := K) (mg := mg) (base := base) (k := 0) (F := F2) (z_range := z_range') (z_sorted := z_sorted'), PySem.W.mg_of X G a2, F2⟩, fun _ _ _ _ _ _ us hl => match us, hl with | [_, _], _ => rfl⟩
  have C3 : CalG l.prog w K mg base 1 "ways_after" s_ways_after ["cells", "log"] (sp_ways_after K) := ⟨⟨f3, _, ok_ways_after (P := l.prog) (w := w) (K := K) (mg := mg) (base := base) (k := 0) (F := F3) (z_range := z_range') (z_list := z_list'), PySem.W.mg_of X G a3, F3⟩, fun _ _ _ _ _ _ us hl => match us, hl with | [_, _], _ => rfl⟩
  have C4 : CalG l.prog w K mg base 1 "_law_draws" s__law_draws ["_law_cell"] sp__law_draws := ⟨⟨f4, _, ok__law_draws (P := l.prog) (w := w) (K := K) (mg := mg) (base := base) (k := 0) (F := F4) (z_int := z_int'), PySem.W.mg_of X G a4, F4⟩, fun _ _ _ _ _ _ us hl => match us, hl with | [_], _ => rfl⟩
  have C5 : CalG l.prog w K mg base 1 "_law_next" s__law_next ["_law_draws_here"] sp__law_next := ⟨⟨f5, _, ok__law_next (P := l.prog) (w := w) (K := K) (mg := mg) (base := base) (k := 0) (F := F5) (z_int := z_int'), PySem.W.mg_of X G a5, F5⟩, fun _ _ _ _ _ _ us hl => match us, hl with | [_], _ => rfl⟩
  have C6 : CalG l.prog w K mg base 1 "_law_pieces" s__law_pieces ["_law_size", "_law_some"] (sp__law_pieces K) := ⟨⟨f6, _, ok__law_pieces (P := l.prog) (w := w) (K := K) (mg := mg) (base := base) (k := 0) (F := F6) (z_list := z_list') (z_range := z_range') (z_int := z_int'), PySem.W.mg_of X G a6, F6⟩, fun _ _ _ _ _ _ us hl => match us, hl with | [_, _], _ => rfl⟩
  have C7 : CalG l.prog w K mg base 1 "_law_ends" s__law_ends ["_law_size", "_law_made"] (sp__law_ends K) := ⟨⟨f7, _, ok__law_ends (P := l.prog) (w := w) (K := K) (mg := mg) (base := base) (k := 0) (F := F7) (z_list := z_list') (z_range := z_range'), PySem.W.mg_of X G a7, F7⟩, fun _ _ _ _ _ _ us hl => match us, hl with | [_, _], _ => rfl⟩
  have C8 : CalG l.prog w K mg base 1 "_law_rounds" s__law_rounds ["_law_told"] (sp__law_rounds K) := ⟨⟨f8, _, ok__law_rounds (P := l.prog) (w := w) (K := K) (mg := mg) (base := base) (k := 0) (F := F8) (z_len := z_len') (z_range := z_range') (z_min := z_min') (z_int := z_int'), PySem.W.mg_of X G a8, F8⟩, fun _ _ _ _ _ _ us hl => match us, hl with | [_], _ => rfl⟩
  have C9 : CalG l.prog w K mg base 1 "_law_every" s__law_every ["_law_size"] (sp__law_every K) := ⟨⟨f9, _, ok__law_every (P := l.prog) (w := w) (K := K) (mg := mg) (base := base) (k := 0) (F := F9) (z_range := z_range'), PySem.W.mg_of X G a9, F9⟩, fun _ _ _ _ _ _ us hl => match us, hl with | [_], _ => rfl⟩
  have C10 : CalG l.prog w K mg base 2 "check_cells" s_check_cells ["cells"] sp_check_cells := ⟨⟨f10, _, ok_check_cells (P := l.prog) (w := w) (K := K) (mg := mg) (base := base) (k := 1) (F := F10) (c_is_whole := C1.mono (by decide)) (g_MOST_CELLS := ⟨_, g_MOST_CELLS'⟩), PySem.W.mg_of X G a10, F10⟩, fun _ _ _ _ _ _ us hl => match us, hl with | [_], _ => rfl⟩
  have C11 : CalG l.prog w K mg base 2 "is_exchange" s_is_exchange ["thing", "cells"] (sp_is_exchange K) := ⟨⟨f11, _, ok_is_exchange (P := l.prog) (w := w) (K := K) (mg := mg) (base := base) (k := 1) (F := F11) (z_tuple := z_tuple') (z_isinstance := z_isinstance') (z_len := z_len') (c_is_whole := C1.mono (by decide)), PySem.W.mg_of X G a11, F11⟩, fun _ _ _ _ _ _ us hl => match us, hl with | [_, _], _ => rfl⟩
  have C12 : CalG l.prog w K mg base 2 "pieces_of" s_pieces_of ["cells", "web"] (sp_pieces_of K) := ⟨⟨f12, _, ok_pieces_of (P := l.prog) (w := w) (K := K) (mg := mg) (base := base) (k := 1) (F := F12) (z_range := z_range') (z_sorted := z_sorted') (c_neighbours_of := C2.mono (by decide)), PySem.W.mg_of X G a12, F12⟩, fun _ _ _ _ _ _ us hl => match us, hl with | [_, _], _ => rfl⟩
  have C13 : CalG l.prog w K mg base 2 "ends_after" s_ends_after ["cells", "log"] (sp_ends_after K) := ⟨⟨f13, _, ok_ends_after (P := l.prog) (w := w) (K := K) (mg := mg) (base := base) (k := 1) (F := F13) (c_ways_after := C3.mono (by decide)), PySem.W.mg_of X G a13, F13⟩, fun _ _ _ _ _ _ us hl => match us, hl with | [_, _], _ => rfl⟩
  have C14 : CalG l.prog w K mg base 2 "_law_web" s__law_web ["_law_draws_here", "_law_most", "_law_many"] (sp__law_web K) := ⟨⟨f14, _, ok__law_web (P := l.prog) (w := w) (K := K) (mg := mg) (base := base) (k := 1) (F := F14) (z_int := z_int') (z_range := z_range') (z_min := z_min') (z_max := z_max') (z_set := z_set') (z_sorted := z_sorted') (c__law_next := C5.mono (by decide)), PySem.W.mg_of X G a14, F14⟩, fun _ _ _ _ _ _ us hl => match us, hl with | [_, _, _], _ => rfl⟩
  have C15 : CalG l.prog w K mg base 2 "_law_log" s__law_log ["_law_draws_here", "_law_some"] (sp__law_log K) := ⟨⟨f15, _, ok__law_log (P := l.prog) (w := w) (K := K) (mg := mg) (base := base) (k := 1) (F := F15) (z_list := z_list') (z_int := z_int') (z_len := z_len') (c__law_next := C5.mono (by decide)), PySem.W.mg_of X G a15, F15⟩, fun _ _ _ _ _ _ us hl => match us, hl with | [_, _], _ => rfl⟩
  have C16 : CalG l.prog w K mg base 2 "_law_side" s__law_side ["_law_size", "_law_some", "_law_pair"] (sp__law_side K) := ⟨⟨f16, _, ok__law_side (P := l.prog) (w := w) (K := K) (mg := mg) (base := base) (k := 1) (F := F16) (c__law_pieces := C6.mono (by decide)), PySem.W.mg_of X G a16, F16⟩, fun _ _ _ _ _ _ us hl => match us, hl with | [_, _, _], _ => rfl⟩
  have C17 : CalG l.prog w K mg base 3 "check_web" s_check_web ["cells", "web"] (sp_check_web K) := ⟨⟨f17, _, ok_check_web (P := l.prog) (w := w) (K := K) (mg := mg) (base := base) (k := 2) (F := F17) (z_list := z_list') (z_isinstance := z_isinstance') (z_enumerate := z_enumerate') (c_check_cells := C10.mono (by decide)) (c_is_exchange := C11.mono (by decide)), PySem.W.mg_of X G a17, F17⟩, fun _ _ _ _ _ _ us hl => match us, hl with | [_, _], _ => rfl⟩
  have C18 : CalG l.prog w K mg base 3 "is_tree_web" s_is_tree_web ["cells", "web"] (sp_is_tree_web K) := ⟨⟨f18, _, ok_is_tree_web (P := l.prog) (w := w) (K := K) (mg := mg) (base := base) (k := 2) (F := F18) (z_len := z_len') (c_pieces_of := C12.mono (by decide)), PySem.W.mg_of X G a18, F18⟩, fun _ _ _ _ _ _ us hl => match us, hl with | [_, _], _ => rfl⟩
  have C19 : CalG l.prog w K mg base 3 "bridges_of" s_bridges_of ["cells", "web"] (sp_bridges_of K) := ⟨⟨f19, _, ok_bridges_of (P := l.prog) (w := w) (K := K) (mg := mg) (base := base) (k := 2) (F := F19) (c_pieces_of := C12.mono (by decide)), PySem.W.mg_of X G a19, F19⟩, fun _ _ _ _ _ _ us hl => match us, hl with | [_, _], _ => rfl⟩
  have C20 : CalG l.prog w K mg base 3 "check_log" s_check_log ["cells", "log"] (sp_check_log K) := ⟨⟨f20, _, ok_check_log (P := l.prog) (w := w) (K := K) (mg := mg) (base := base) (k := 2) (F := F20) (z_list := z_list') (z_isinstance := z_isinstance') (z_enumerate := z_enumerate') (c_check_cells := C10.mono (by decide)) (c_is_exchange := C11.mono (by decide)), PySem.W.mg_of X G a20, F20⟩, fun _ _ _ _ _ _ us hl => match us, hl with | [_, _], _ => rfl⟩
  have C21 : CalG l.prog w K mg base 3 "_law_bridges" s__law_bridges ["_law_size", "_law_some"] (sp__law_bridges K) := ⟨⟨f21, _, ok__law_bridges (P := l.prog) (w := w) (K := K) (mg := mg) (base := base) (k := 2) (F := F21) (c__law_side := C16.mono (by decide)), PySem.W.mg_of X G a21, F21⟩, fun _ _ _ _ _ _ us hl => match us, hl with | [_, _], _ => rfl⟩
  have C22 : CalG l.prog w K mg base 4 "is_tree" s_is_tree ["cells", "web"] (sp_is_tree K) := ⟨⟨f22, _, ok_is_tree (P := l.prog) (w := w) (K := K) (mg := mg) (base := base) (k := 3) (F := F22) (c_check_web := C17.mono (by decide)) (c_is_tree_web := C18.mono (by decide)), PySem.W.mg_of X G a22, F22⟩, fun _ _ _ _ _ _ us hl => match us, hl with | [_, _], _ => rfl⟩
  have C23 : CalG l.prog w K mg base 4 "bridges" s_bridges ["cells", "web"] (sp_bridges K) := ⟨⟨f23, _, ok_bridges (P := l.prog) (w := w) (K := K) (mg := mg) (base := base) (k := 3) (F := F23) (c_check_web := C17.mono (by decide)) (c_bridges_of := C19.mono (by decide)), PySem.W.mg_of X G a23, F23⟩, fun _ _ _ _ _ _ us hl => match us, hl with | [_, _], _ => rfl⟩
  have C24 : CalG l.prog w K mg base 4 "ends" s_ends ["cells", "log"] (sp_ends K) := ⟨⟨f24, _, ok_ends (P := l.prog) (w := w) (K := K) (mg := mg) (base := base) (k := 3) (F := F24) (c_check_log := C20.mono (by decide)) (c_ends_after := C13.mono (by decide)), PySem.W.mg_of X G a24, F24⟩, fun _ _ _ _ _ _ us hl => match us, hl with | [_, _], _ => rfl⟩
  have C25 : CalG l.prog w K mg base 4 "ways" s_ways ["cells", "log"] (sp_ways K) := ⟨⟨f25, _, ok_ways (P := l.prog) (w := w) (K := K) (mg := mg) (base := base) (k := 3) (F := F25) (c_check_log := C20.mono (by decide)) (c_ways_after := C3.mono (by decide)), PySem.W.mg_of X G a25, F25⟩, fun _ _ _ _ _ _ us hl => match us, hl with | [_, _], _ => rfl⟩
  have C26 : CalG l.prog w K mg base 5 "_law_over_right" s__law_over_right ["_law_size", "_law_some", "_law_made", "_law_pair"] (sp__law_over_right K) := ⟨⟨f26, _, ok__law_over_right (P := l.prog) (w := w) (K := K) (mg := mg) (base := base) (k := 4) (F := F26) (z_range := z_range') (z_len := z_len') (z_list := z_list') (z_zip := z_zip') (c_ends := C24.mono (by decide)) (c_ways := C25.mono (by decide)) (c__law_side := C16.mono (by decide)) (c__law_rounds := C8.mono (by decide)), PySem.W.mg_of X G a26, F26⟩, fun _ _ _ _ _ _ us hl => match us, hl with | [_, _, _, _], _ => rfl⟩
  have C27 : CalG l.prog w K mg base 6 "_law_right" s__law_right ["_law_size", "_law_some", "_law_made"] (sp__law_right K) := ⟨⟨f27, _, ok__law_right (P := l.prog) (w := w) (K := K) (mg := mg) (base := base) (k := 5) (F := F27) (z_repr := z_repr') (z_len := z_len') (c__law_bridges := C21.mono (by decide)) (c_bridges := C23.mono (by decide)) (k_bridges_web_cells := k_bridges_web_cells) (c_ends := C24.mono (by decide)) (c__law_ends := C7.mono (by decide)) (c__law_rounds := C8.mono (by decide)) (c_is_tree := C22.mono (by decide)) (c__law_over_right := C26.mono (by decide)), PySem.W.mg_of X G a27, F27⟩, fun _ _ _ _ _ _ us hl => match us, hl with | [_, _, _], _ => rfl⟩
  exact ok_law (P := l.prog) (w := w) (K := K) (mg := mg) (base := base) (k := 6) (F := F28) (z_range := z_range') (z_len := z_len') (c__law_draws := C4.mono (by decide)) (c__law_web := C14.mono (by decide)) (c__law_log := C15.mono (by decide)) (c__law_right := C27.mono (by decide)) (c_ends := C24.mono (by decide)) (c__law_rounds := C8.mono (by decide)) (c__law_every := C9.mono (by decide)) (c_bridges := C23.mono (by decide))
end UN
open PySem PySem.W PyProof.Rows
set_option maxHeartbeats 0 in
theorem PySem.Challenge.cw_unnoted_k18_whole_bridges_holds : PySem.Challenge.rw_unnoted_k18_whole_bridges.Holds := by
  w_on; o_law; k_head; (case hw => w_witness2)
  k_fill
  refine UN.walk_G (l := PySem.Challenge.rw_unnoted_k18_whole_bridges) (n := 63) (k := 7) (x := "_law_script") (sp := fun w => UN.sp_law _) rfl (by decide) rfl ⟨rfl, by decide, by decide⟩ (fun w h Y => PySem.W.kIn_of Y) ?F (fun _ _ a ns hl _ hS => ⟨a, ns, rfl, hl, hS, fun _ => rfl⟩)
  case F =>
    intro w mg fa h KX G hmg
    refine' UN.all_mk KX G hmg ?a1 ?l1 ?c1 ?k1 ?a2 ?l2 ?c2 ?k2 ?a3 ?l3 ?c3 ?k3 ?a4 ?l4 ?c4 ?k4 ?a5 ?l5 ?c5 ?k5 ?a6 ?l6 ?c6 ?k6 ?a7 ?l7 ?c7 ?k7 ?a8 ?l8 ?c8 ?k8 ?a9 ?l9 ?c9 ?k9 ?a10 ?l10 ?c10 ?k10 ?a11 ?l11 ?c11 ?k11 ?a12 ?l12 ?c12 ?k12 ?a13 ?l13 ?c13 ?k13 ?a14 ?l14 ?c14 ?k14 ?a15 ?l15 ?c15 ?k15 ?a16 ?l16 ?c16 ?k16 ?a17 ?l17 ?c17 ?k17 ?a18 ?l18 ?c18 ?k18 ?a19 ?l19 ?c19 ?k19 ?a20 ?l20 ?c20 ?k20 ?a21 ?l21 ?c21 ?k21 ?a22 ?l22 ?c22 ?k22 ?a23 ?l23 ?c23 ?k23 ?a24 ?l24 ?c24 ?k24 ?a25 ?l25 ?c25 ?k25 ?a26 ?l26 ?c26 ?k26 ?a27 ?l27 ?c27 ?k27 ?a28 ?l28 ?c28 ?k28 ?z_bool ?z_enumerate ?z_int ?z_isinstance ?z_len ?z_list ?z_max ?z_min ?z_range ?z_repr ?z_set ?z_sorted ?z_tuple ?z_zip ?g_MOST_CELLS
    (case a1 => k_is)
    (case l1 => k_is)
    (case c1 => k_is)
    (case k1 => k_is)
    (case a2 => k_is)
    (case l2 => k_is)
    (case c2 => k_is)
    (case k2 => k_is)
    (case a3 => k_is)
    (case l3 => k_is)
    (case c3 => k_is)
    (case k3 => k_is)
    (case a4 => k_is)
    (case l4 => k_is)
    (case c4 => k_is)
    (case k4 => k_is)
    (case a5 => k_is)
    (case l5 => k_is)
    (case c5 => k_is)
    (case k5 => k_is)
    (case a6 => k_is)
    (case l6 => k_is)
    (case c6 => k_is)
    (case k6 => k_is)
    (case a7 => k_is)
    (case l7 => k_is)
    (case c7 => k_is)
    (case k7 => k_is)
    (case a8 => k_is)
    (case l8 => k_is)
    (case c8 => k_is)
    (case k8 => k_is)
    (case a9 => k_is)
    (case l9 => k_is)
    (case c9 => k_is)
    (case k9 => k_is)
    (case a10 => k_is)
    (case l10 => k_is)
    (case c10 => k_is)
    (case k10 => k_is)
    (case a11 => k_is)
    (case l11 => k_is)
    (case c11 => k_is)
    (case k11 => k_is)
    (case a12 => k_is)
    (case l12 => k_is)
    (case c12 => k_is)
    (case k12 => k_is)
    (case a13 => k_is)
    (case l13 => k_is)
    (case c13 => k_is)
    (case k13 => k_is)
    (case a14 => k_is)
    (case l14 => k_is)
    (case c14 => k_is)
    (case k14 => k_is)
    (case a15 => k_is)
    (case l15 => k_is)
    (case c15 => k_is)
    (case k15 => k_is)
    (case a16 => k_is)
    (case l16 => k_is)
    (case c16 => k_is)
    (case k16 => k_is)
    (case a17 => k_is)
    (case l17 => k_is)
    (case c17 => k_is)
    (case k17 => k_is)
    (case a18 => k_is)
    (case l18 => k_is)
    (case c18 => k_is)
    (case k18 => k_is)
    (case a19 => k_is)
    (case l19 => k_is)
    (case c19 => k_is)
    (case k19 => k_is)
    (case a20 => k_is)
    (case l20 => k_is)
    (case c20 => k_is)
    (case k20 => k_is)
    (case a21 => k_is)
    (case l21 => k_is)
    (case c21 => k_is)
    (case k21 => k_is)
    (case a22 => k_is)
    (case l22 => k_is)
    (case c22 => k_is)
    (case k22 => k_is)
    (case a23 => k_is)
    (case l23 => k_is)
    (case c23 => k_is)
    (case k23 => k_is)
    (case a24 => k_is)
    (case l24 => k_is)
    (case c24 => k_is)
    (case k24 => k_is)
    (case a25 => k_is)
    (case l25 => k_is)
    (case c25 => k_is)
    (case k25 => k_is)
    (case a26 => k_is)
    (case l26 => k_is)
    (case c26 => k_is)
    (case k26 => k_is)
    (case a27 => k_is)
    (case l27 => k_is)
    (case c27 => k_is)
    (case k27 => k_is)
    (case a28 => k_is)
    (case l28 => k_is)
    (case c28 => k_is)
    (case k28 => k_is)
    (case z_bool => k_is)
    (case z_enumerate => k_is)
    (case z_int => k_is)
    (case z_isinstance => k_is)
    (case z_len => k_is)
    (case z_list => k_is)
    (case z_max => k_is)
    (case z_min => k_is)
    (case z_range => k_is)
    (case z_repr => k_is)
    (case z_set => k_is)
    (case z_sorted => k_is)
    (case z_tuple => k_is)
    (case z_zip => k_is)
    (case g_MOST_CELLS => k_is)
