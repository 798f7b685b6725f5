import PyProof.Rows.All
import Wide.All
import OpenK.AllK
import Wide.FinOn
import HandS.ForMost
import HandS.GenList
import HandS.AnyAll
import KE.GoesMore
import KE.GoesEnum
import KE.DataMinMax
import HandS.Iter
import PyProof.Lay0
import PyProof.P3Statements
import KE.KNestM
import HandS.TupAny
import HandS.TupMul
import HandS.Wide
import HandS.Zip
import HandS.IsInst
import HandS.Style
import HandS.Comp
import HandS.EndTab
import HandS.Words
import HandS.Defaults
import HandS.ExcOwn
import HandS.HeadEnd
import HandS.HeadHook1
import HandS.HeadHook2
import HandS.HeadHook3
import HandS.HeadHook4
import HandS.HeadWalk
import HandS.Head0
import HandS.Head1
import HandS.Head2
import PySem.Challenge.RW_gladlydone_k16_cells_told_worse
set_option Elab.async false
set_option autoImplicit false
set_option linter.all false
set_option exponentiation.threshold 100000

section
set_option Elab.async false
set_option linter.all false
set_option maxRecDepth 100000
set_option maxHeartbeats 4000000
namespace GX
open PySem PySem.Spec PyProof.Rows L2 GenW

/-- while the generator sleeps its consumer changes the objects at Sa alone -/
structure Slp (Own : List V → List (Addr × Obj) → Prop) (Sa : List Addr) (ys : List V) (s s' : Shared) : Prop where
  os : s'.os = s.os
  bare : AllBare s'.gens
  keep : ∀ b o, b ∉ Sa → s.heap.get? b = some o → s'.heap.get? b = some o
  own : ∃ pl, Own ys pl ∧ pl.map (·.1) = Sa ∧ ∀ p ∈ pl, s'.heap.get? p.1 = some p.2 ∧ ∀ v, p.2.data ≠ .cell v

theorem woken {X : Cx} {Own : List V → List (Addr × Obj) → Prop} {Sa : List Addr} {ys : List V} {pl : List (Addr × Obj)} {σ : L2.St} {H : Hp} {s s' : Shared}
    (hpn : ∀ b ∈ Sa, ∀ p ∈ X.pn, p.1 ≠ b) (hA : ∀ b ∈ Sa, Apart X b) (hpl : pl.map (·.1) = Sa) (I : Inv X pl σ H s) (z : Slp Own Sa ys s s') :
    ∃ pl', Own ys pl' ∧ pl'.map (·.1) = Sa ∧ Inv X pl' σ H s' := by
  obtain ⟨z1, z2, z3, pl', z4, z5, z6⟩ := z
  have mem : ∀ b ∈ Sa, ∃ o, (b, o) ∈ pl := fun b hb => by
    rw [← hpl] at hb
    obtain ⟨p, hp, e⟩ := List.mem_map.mp hb
    exact ⟨p.2, by rw [← e]; exact hp⟩
  have at_ : ∀ b ∈ Sa, H b = none ∧ b ≠ X.env.locals ∧ b ∉ X.fs := fun b hb => by
    obtain ⟨o, hm⟩ := mem b hb
    obtain ⟨_, h2, h3, h4, _⟩ := I.pin (b, o) (List.mem_append_right _ hm)
    exact ⟨h2, h3, h4⟩
  have nt : ∀ b u, H b = some u → b ∉ Sa := fun b u q hb => by rw [(at_ b hb).1] at q; cases q
  have I0 : Inv X [] σ H s := I.pins_of fun p hp => absurd hp (by simp)
  obtain ⟨hh, g, d, t, o⟩ := s'
  have ho : o = s.os := z1
  subst ho
  have J : Inv X [] σ H { s with heap := hh, gens := g, drawn := d, toks := t } := by
    refine I0.step (g' := g) (t' := t) (d' := d) (ch := Sa) (fun b hb => ?_)
      (fun b ob _ _ hc q _ => z3 b ob hc q) (fun b ob _ _ hc q _ => ⟨ob.slots, z3 b ob hc q⟩) (fun _ _ _ _ n => n) (fun b ob hc q => ⟨ob, z3 b ob hc q⟩)
      (fun _ _ q => q) (fun _ _ _ q => q) (fun b ps q => ⟨#[], by rw [q]; simp⟩) (fun m hm => ?_) (fun b u q => ?_) z2
    · refine ⟨.inr (hA b hb).1, (hA b hb).2.1, (hA b hb).2.2, fun p hp => ?_⟩
      rcases List.mem_append.mp hp with hp | hp
      · exact hpn b hb p hp
      · exact absurd hp (by simp)
    · obtain ⟨ob, es, ep, ho, r⟩ := hm
      exact ⟨ob, es, ep, z3 _ ob (fun hb => (at_ _ hb).2.1 rfl) ho, r⟩
    · refine (I0.hok b u q).stay (fun c v hc y => z3 c v ?_ y) (fun _ y => y) fun _ _ y => y
      rcases hc with y | y
      · rw [y]; exact nt b u q
      · exact nt c _ y
  refine ⟨pl', z4, z5, J.pins_of fun p hp => ?_⟩
  have hb : p.1 ∈ Sa := by rw [← z5]; exact List.mem_map.mpr ⟨p, hp, rfl⟩
  obtain ⟨h1, h2, h3⟩ := at_ p.1 hb
  exact ⟨(z6 p hp).1, h1, h2, h3, (z6 p hp).2⟩

/-- a consumer: what its objects are behind ys, whether it goes on -/
structure Con where
  Sa : List Addr
  Own : List V → List (Addr × Obj) → Prop
  Yl : List V → Hp → Prop
  Go : List V → Prop
  Dn : List V → Hp → Prop

def CY (X : Cx) (C : Con) (a : Addr) (g : Nat) : Protocol := fun n s₀ v s kap =>
  ∃ ys x pl σ H, 1 ≤ n ∧ n + 1 + ys.length = sizeLine ∧ RelV x v ∧ (∀ p ∈ pl, s₀.heap.get? p.1 = some p.2) ∧ C.Own ys pl ∧ pl.map (·.1) = C.Sa ∧ Inv X pl σ H s ∧ s.heap.IsGen a g ∧ C.Yl (ys ++ [x]) H ∧ (C.Go (ys ++ [x]) → ∀ s', Slp C.Own C.Sa (ys ++ [x]) s s' → kap (.send .none) s')
def CF (X : Cx) (C : Con) (n : Nat) (s₀ s : Shared) : Prop := ∃ ys pl σ H, n + ys.length = sizeLine ∧ (∀ p ∈ pl, s₀.heap.get? p.1 = some p.2) ∧ C.Own ys pl ∧ pl.map (·.1) = C.Sa ∧ Inv X pl σ H s ∧ C.Dn ys H
def CR (X : Cx) (C : Con) : GenEnd := fun n s₀ r s => ((r = .ok (.ret .none) ∨ r = .ok .next) ∧ CF X C n s₀ s) ∨ ∃ e, r = .error e ∧ (fun (_ : Value) (_ : Shared) => False) e s

/-- the reading of a generator's turns -/
def tGenL (C : Con) (J : It) (g : TG) (tt : TT) (te : TE) (vs : List Nat) (σw : L2.St) (W : Nat → Nat → List V → Hp → Prop) : Prop :=
  ∀ i m ys H, W i m ys H → (J.stop i H ∧ C.Dn ys H) ∨ (J.go i H ∧ ∃ Nx : List V → Hp → Prop, (∀ ys' H', Nx ys' H' → ∃ m', m' < m ∧ W (i + 1) m' ys' H') ∧
    ∀ x H', J.yld i H x H' → g x σw H' fun σ2 H2 => wipe σ2 vs = σw ∧ tt σ2 H2 fun b H3 =>
      if b = true then te σ2 H3 fun y H4 => ys.length + 1 < sizeLine ∧ C.Yl (ys ++ [y]) H4 ∧ (C.Go (ys ++ [y]) → Nx (ys ++ [y]) H4) else Nx ys H3)

theorem gen_over {A : Around} {elt tg iter : Expr} {ifs : List Expr} {scope : Scope} {pos : Pos} {it acc : Value} {env : Env} :
    A.over (.compLoop (.GeneratorExp elt [⟨tg, iter, ifs, 0⟩] scope pos) 0 it acc env) [] = A.deeper env := by
  first
    | rfl
    | (obtain ⟨hd, d, fr, gs, u⟩ := A; simp [Around.over, Around.deeper, marksOver, frameCount, unitsOf, envsOf, guardsOf, pushEnvs, pushGuards, Code.envs, Code.env?, Code.isFrame, Code.guards, Code.isGuard, Code.weight, Code.frames, Code.isCreation, Code.isCaller, Code.cUnits])
theorem gen_over0 {A : Around} {elt tg iter : Expr} {ifs : List Expr} {scope : Scope} {pos : Pos} {it acc : Value} {env : Env} :
    A.over (.compStart (.GeneratorExp elt [⟨tg, iter, ifs, 0⟩] scope pos) 0 it acc env) [] = A.deeper env := by
  first
    | rfl
    | (obtain ⟨hd, d, fr, gs, u⟩ := A; simp [Around.over, Around.deeper, marksOver, frameCount, unitsOf, envsOf, guardsOf, pushEnvs, pushGuards, Code.envs, Code.env?, Code.isFrame, Code.guards, Code.isGuard, Code.weight, Code.frames, Code.isCreation, Code.isCaller, Code.cUnits])

section
variable {X : Cx} {C : Con} {a : Addr} {gn : Nat} {A : Around} {elt tg iter : Expr} {ifs : List Expr} {scope : Scope} {pos : Pos} {it : Addr} {fp : List Addr} {tn : Nat → Heap → Prop} {J : It} {g : TG} {tt : TT} {te : TE} {vs : List Nat} {σw : L2.St}

theorem seg_loop (hc : X.calm = true) (T : Turn X.prog X.w X.K tg J fp it tn) (pg : PG X tg g) (pt : PTs X ifs tt) (pe : PE X elt te) (hco : X.env.scope.isCoroutine = false)
    (hxe : X.xe = fun _ _ => False) (hex : X.ex = fp) (hA : A.deeper X.env = X.A) (hag : ∃ go, (a, go) ∈ X.pn ∧ (∀ h : Heap, h.get? a = some go → h.IsGen a gn))
    (hSa : ∀ b ∈ C.Sa, Apart X b ∧ (∀ p ∈ X.pn, p.1 ≠ b) ∧ b ∉ fp) (hpf : ∀ p ∈ X.pn, p.1 ∉ fp) {W : Nat → Nat → List V → Hp → Prop} (turn : tGenL C J g tt te vs σw W) (hvs : wipe σw vs = σw) :
    ∀ (m i n : Nat) (ys : List V) (s₀ s : Shared) (H : Hp) (pl : List (Addr × Obj)), n + ys.length = sizeLine → W i m ys H → (∀ p ∈ pl, s₀.heap.get? p.1 = some p.2) → C.Own ys pl → pl.map (·.1) = C.Sa → Inv X pl σw H s → tn i s.heap → (∀ b ∈ fp, H b = none) →
      Seg (model X.prog X.w) A (CR X C) (CY X C a gn) n s₀ (.compLoop (.GeneratorExp elt [⟨tg, iter, ifs, 0⟩] scope pos) 0 (.ref it) .none X.env)
        ((model X.prog X.w).den (.compLoop (.GeneratorExp elt [⟨tg, iter, ifs, 0⟩] scope pos) 0 (.ref it) .none X.env)) [] s := by
  have stat : ∀ {pl : List (Addr × Obj)} {σ' : L2.St} {H' : Hp} {s' : Shared}, pl.map (·.1) = C.Sa → Inv X pl σ' H' s' → (∀ b ∈ fp, H' b = none) → ∀ b ∈ fp, FpOk X pl H' b := fun {pl σ' H' s'} hpl I' hn b hb => by
    have hb' : b ∈ X.ex := by rw [hex]; exact hb
    refine ⟨hn b hb, (I'.ok.exf b hb').1, I'.ok.exfs b hb', .inl hb', fun x c e => (I'.ok.exf b hb').2 x c e, fun p hp e => ?_⟩
    rcases List.mem_append.mp hp with hp | hp
    · exact hpf p hp (by rw [e]; exact hb)
    · exact (hSa p.1 (by rw [← hpl]; exact List.mem_map.mpr ⟨p, hp, rfl⟩)).2.2 (by rw [e]; exact hb)
  intro m
  induction m using Nat.strongRecOn with
  | ind m ih =>
    intro i n ys s₀ s H pl hn hw h0 hown hpl I st hfp
    show Seg _ A _ _ _ s₀ _ ((compTurn (.GeneratorExp elt [⟨tg, iter, ifs, 0⟩] scope pos) 0 (.ref it) .none X.env).onRaise (leaving X.env)) [] s
    rw [compTurn_gen, Sem.onRaise_eq_wrap]
    refine seg_bind_wrap (wpAny_standAt ?_)
    rcases turn i m ys H hw with ⟨stop, dn⟩ | ⟨go, Nx, hNx, step⟩
    · have td := T.done X rfl rfl rfl hc i pl s σw H (fun _ _ => False) I (stat hpl I hfp) st stop
      refine seg_bind_wrap ?_
      rw [gen_over, hA]
      refine thnF td fun r s1 ⟨hr, I1⟩ => ?_
      subst hr
      exact seg_end (.ok .next) (.inl ⟨.inr rfl, ys, pl, σw, H, hn, h0, hown, hpl, I1, dn⟩)
    · have ti := T.item X rfl rfl rfl hc i pl s σw H (fun _ _ => False) I (stat hpl I hfp) st go
      refine seg_bind_wrap ?_
      rw [gen_over, hA]
      refine thnF ti fun r s1 ⟨u, hr, h1⟩ => ?_
      subst hr
      refine seg_bind_wrap ?_
      rw [gen_over, hA]
      refine thnF h1 fun _ s2 ⟨x, H2, I2, r2, y2, st2, n2⟩ => ?_
      have I2' := I2.pinned (stat hpl I2 n2) (T.obj _ _ st2)
      refine seg_bind_wrap ?_
      rw [gen_over, hA]
      have hrun := pg.run _ s2 _ H2 x u _ I2' r2 (step x H2 y2)
      rw [hxe] at hrun
      refine thnF hrun fun _ s3 ⟨σ3, H3, I3, hw3, q3⟩ => ?_
      refine seg_bind_wrap ?_
      rw [gen_over, hA]
      have hrun2 := pt.run _ s3 σ3 H3 _ I3 q3
      rw [hxe] at hrun2
      refine thnF hrun2 fun b s4 ⟨H4, I4, q4⟩ => ?_
      -- the turn's end
      have hl3 : σw.length = σ3.length := by rw [← hw3, wipe_length]
      have back : ∀ {pl' : List (Addr × Obj)} {s' : Shared} {H' : Hp}, Inv X pl' σ3 H' s' → Inv X pl' σw H' s' := fun {pl' s' H'} I' => I'.weak hl3 fun j v e => by
        rw [← hw3] at e
        exact (wipe_some e).1
      have pin' : ∀ {s' : Shared} {H' : Hp}, Inv X (pl ++ pinsAt fp s2.heap) σ3 H' s' → ∀ b ∈ fp, ∀ o, s2.heap.get? b = some o → s'.heap.get? b = some o ∧ H' b = none := fun {s' H'} I' b hb o e =>
        let z := I'.pin (b, o) (List.mem_append_right _ (List.mem_append_right _ (mem_pinsAt hb e)))
        ⟨z.1, z.2.1⟩
      have fpn : ∀ {s' : Shared} {H' : Hp}, Inv X (pl ++ pinsAt fp s2.heap) σ3 H' s' → ∀ b ∈ fp, H' b = none := fun {s' H'} I' b hb => by
        obtain ⟨o, e, _⟩ := T.obj _ _ st2 b hb
        exact (pin' I' b hb o e).2
      cases b with
      | false =>
        simp only [Bool.false_eq_true, if_false] at q4 ⊢
        obtain ⟨m', hm, w'⟩ := hNx ys H4 q4
        exact seg_again rfl (ih m' hm (i + 1) n ys s₀ s4 H4 pl hn w' h0 hown hpl (back I4).unpinned (T.keep _ _ _ st2 fun b hb o e => (pin' I4 b hb o e).1) (fpn I4))
      | true =>
        simp only [if_true] at q4 ⊢
        have hy : ∀ v, yieldOut X.env v = yieldValue v := fun v => by simp only [yieldOut, hco, Bool.false_eq_true, if_false]
        simp only [hy]
        rw [Sem.bind_eq_wrap', Sem.bind_eq_wrap', Sem.wrap_wrap, Sem.wrap_wrap]
        refine seg_wrap ?_
        rw [gen_over, hA]
        have hrun3 := pe.run _ s4 σ3 H4 _ I4 q4
        rw [hxe] at hrun3
        refine thnF hrun3 fun v s5 ⟨y, H5, I5, r5, hlt, yl, cont⟩ => ?_
        obtain ⟨n, rfl⟩ : ∃ k, n = k + 1 := ⟨n - 1, by omega⟩
        have hgen : s5.heap.IsGen a gn := by
          obtain ⟨go, hm, hg⟩ := hag
          exact hg _ (I5.pin (a, go) (List.mem_append_left _ hm)).1
        refine seg_at (seg_yield rfl rfl rfl ⟨ys, y, pl, σ3, H5, by omega, hn, r5, h0, hown, hpl, I5.unpinned, hgen, yl, fun hgo s6 z => ?_⟩)
        obtain ⟨pl', o6, e6, I6⟩ := woken (fun b hb => (hSa b hb).2.1) (fun b hb => (hSa b hb).1) hpl I5.unpinned z
        obtain ⟨m', hm, w'⟩ := hNx (ys ++ [y]) H5 (cont hgo)
        refine seg_again rfl (ih m' hm (i + 1) n (ys ++ [y]) s6 s6 H5 pl' ?_ w' (fun p hp => (I6.pin p (List.mem_append_right _ hp)).1) o6 e6 (back I6) (T.keep _ _ _ st2 fun b hb o e => z.keep b o (fun hz => (hSa b hz).2.2 hb) (pin' I5 b hb o e).1) (fpn I5))
        rw [List.length_append, List.length_singleton]; omega
end
end GX
end

section
set_option Elab.async false
set_option linter.all false
set_option maxRecDepth 100000
set_option maxHeartbeats 4000000
namespace GX
open PySem PySem.Spec PyProof.Rows L2 GenW

abbrev gEnv (scope : Scope) (cells : List (Str × Addr)) (L : Addr) (code : Value) (bi : Addr) (env : Env) : Env :=
  newEnv scope L env.globals cells (env.qual ++ "<genexpr>.") none code none bi

theorem newEnv_gen {M : Model} {A : Around} {E : Value → Shared → Prop} {s : Shared} {scope : Scope} {closure : List (Str × Addr)} {env : Env} {code itv : Value} {bi : Addr} {Q : Env → Shared → Prop}
    (hk : scope.kind = .function) (h0 : scope.names.lookup (".0" : Str) = some NameKind.local)
    (h : ∀ h' tk, (∃ m, h'.Ns s.heap.objs.size m) → Heap.SameBut s.heap.objs.size (pushCells (s.heap.push { cls := .type "frame", data := .dict #[] }) scope.names) h' →
      Q (gEnv scope (cellsFrom (s.heap.objs.size + 1) scope.names closure) s.heap.objs.size code bi env) { s with heap := h', toks := tk }) :
    wpAny M A (newFunctionEnv scope env.globals closure [(".0", itv)] (env.qual ++ "<genexpr>.") none code none bi) Q E s := by
  simp only [newFunctionEnv, Option.isSome_none, Bool.false_eq_true, if_false]
  refine wpAny_bind (wpAny_alloc ?_)
  refine wpAny_bind (wpAny_layCells _ (fun name kind cells => by cases hkc : kind == NameKind.cell <;> simp [hkc]) _ _ _ _ ?_)
  rw [show ({ s with heap := s.heap.push { cls := .type "frame", data := .dict #[] } } : Shared).heap.objs.size = s.heap.objs.size + 1 from Heap.size_push ..]
  rw [List.forIn_cons]
  refine wpAny_bind (wpAny_bind (wpAny_bind (wpAny_storeName_local (m := fun _ => none) h0 ((Heap.Ns.new s.heap (.type "frame")).keeps (pushCells_keeps _ _)) (fun h' hn hs => ?_) (by rw [hk]; rfl))))
  refine wpAny_pure ?_
  simp only [List.forIn_nil]
  refine wpAny_pure (wpAny_pure ?_)
  exact h h' _ ⟨_, hn⟩ hs

/-- the context of a generator's frame -/
abbrev Cxg (X : Cx) (A : Around) (s : Shared) (H : Hp) (scope : Scope) (cenv : Env) (fp : List Addr) (pn : List (Addr × Obj)) : Cx :=
  { X with s_0 := s, H_0 := H, env := cenv, outer := X.stack, stack := cenv :: X.stack, A := A.deeper cenv, ex := fp, fn := fun x => scope.names.lookup x == some .cell, pn := pn, xe := fun _ _ => False }

/-- the names of a generator's scope: its own (with their places), or captured -/
structure GenOk (N : List Str) (sc scope : Scope) (own : List (Str × Nat)) : Prop where
  blk : BlkOk N sc scope own
  co : scope.isCoroutine = false
  dot : scope.names.lookup (".0" : Str) = some NameKind.local

section
variable {X : Cx} {pins : List (Addr × Obj)} {σ : L2.St} {H : Hp} {s : Shared}

theorem gen_start {A : Around} {scope : Scope} {own : List (Str × Nat)} {fp : List Addr} {code : Value} {bi : Addr} {pn pl : List (Addr × Obj)} {s6 : Shared} {h' : Heap}
    (I : Inv X pins σ H s) (ok : GenOk X.N X.env.scope scope own) (hN : X.N.Nodup) (hfp : ∀ b ∈ fp, FpOk X pins H b ∧ b < s.heap.objs.size)
    (hA : A.frames = some X.stack) (hh : A.handled = none) (hbi : bi = builtinsNs)
    (hns : ∃ m, h'.Ns s.heap.objs.size m) (hsb : Heap.SameBut s.heap.objs.size (pushCells (s.heap.push { cls := .type "frame", data := .dict #[] }) scope.names) h')
    (k6 : ∀ b o, h'.get? b = some o → s6.heap.get? b = some o) (os6 : s6.os = s.os) (b6 : AllBare s6.gens)
    (hpin : ∀ p ∈ pn ++ pl, s6.heap.get? p.1 = some p.2 ∧ h'.objs.size ≤ p.1 ∧ ∀ v, p.2.data ≠ .cell v) :
    Inv (Cxg X A s H scope (gEnv scope (cellsFrom (s.heap.objs.size + 1) scope.names (cloFrom X.env.cells scope.names [])) s.heap.objs.size code bi X.env) fp pn) pl (wipe σ (own.map (·.2))) H s6 := by
  have hfree : ∀ y ∈ scope.names, y.2 = .free → ∃ c, X.env.cells.lookup y.1 = some c := fun y hy e => by
    rcases ok.blk.free y hy e with k | k
    · exact I.ok.has _ (.inl k)
    · exact I.ok.has _ (.inr k)
  generalize hcenv : gEnv scope (cellsFrom (s.heap.objs.size + 1) scope.names (cloFrom X.env.cells scope.names [])) s.heap.objs.size code bi X.env = cenv
  have szle : (pushCells (s.heap.push { cls := .type "frame", data := .dict #[] }) scope.names).objs.size = h'.objs.size := hsb.1.symm
  have szs : s.heap.objs.size + 1 ≤ h'.objs.size := by
    rw [← szle, ← Heap.size_push s.heap { cls := .type "frame", data := .dict #[] }]
    exact pushCells_size _ _
  have kp1 : ∀ b o, b ≠ s.heap.objs.size → (pushCells (s.heap.push { cls := .type "frame", data := .dict #[] }) scope.names).get? b = some o → h'.get? b = some o := fun b o hb e => (hsb.2 b hb).trans e
  have kp : ∀ b o, s.heap.get? b = some o → s6.heap.get? b = some o := fun b o e =>
    k6 b o (kp1 b o (Nat.ne_of_lt (Heap.lt_size e)) (pushCells_keeps _ _ _ _ (Heap.get?_push_of_some _ e)))
  have hL : cenv.locals = s.heap.objs.size := by rw [← hcenv]; rfl
  have hcl : cenv.cells = cellsFrom (s.heap.objs.size + 1) scope.names (cloFrom X.env.cells scope.names []) := by rw [← hcenv]; rfl
  have hsc : cenv.scope = scope := by rw [← hcenv]; rfl
  rw [← Heap.size_push s.heap { cls := .type "frame", data := .dict #[] }] at hcl
  have cm : ∀ {y c}, (y, c) ∈ cloFrom X.env.cells scope.names [] → X.env.cells.lookup y = some c ∧ c < s.heap.objs.size := fun {y c} hm => by
    rcases cloFrom_mem hm with hm | ⟨h1, rfl⟩
    · cases hm
    · obtain ⟨c, hc⟩ := hfree _ h1 rfl
      rw [hc]
      obtain ⟨w, z⟩ := I.cell _ _ hc
      exact ⟨rfl, z.lt⟩
  have mem : ∀ {y c}, cenv.cells.lookup y = some c → (X.env.cells.lookup y = some c ∧ c < s.heap.objs.size) ∨ (s.heap.objs.size + 1 ≤ c ∧ CellAt s6.heap c none) := fun {y c} e => by
    rw [hcl] at e
    rcases cells_mem (PySem.mem_of_lookup e) with hm | ⟨_, h2, h3⟩
    · exact .inl (cm hm)
    · rw [Heap.size_push] at h2
      obtain ⟨oc, e1, e2⟩ := h3
      exact .inr ⟨h2, oc, k6 _ _ (kp1 _ _ (Nat.ne_of_gt h2) e1), e2⟩
  have look : ∀ {y}, scope.names.lookup y = some .free → ∃ c, cenv.cells.lookup y = some c ∧ X.env.cells.lookup y = some c := fun {y} hl => by
    have hy : (y, NameKind.free) ∈ scope.names := PySem.mem_of_lookup hl
    obtain ⟨c', e'⟩ := mem_lookup (cells_acc (names := scope.names) (n := (s.heap.push { cls := .type "frame", data := .dict #[] }).objs.size) (cloFrom_has (cells := X.env.cells) (acc := []) hy))
    rw [← hcl] at e'
    refine ⟨c', e', ?_⟩
    rw [hcl] at e'
    rcases cells_mem (PySem.mem_of_lookup e') with hm | ⟨h1, _, _⟩
    · exact (cm hm).1
    · have := ok.blk.uniq _ h1
      rw [hl] at this; cases this
  have okB : (Cxg X A s H scope cenv fp pn).Ok := by
    refine ⟨I.ok.mod, by show cenv.scope.kind = _; rw [hsc]; exact ok.blk.kind, by show cenv.globals = _; rw [← hcenv]; exact I.ok.glob, by show cenv.builtins = _; rw [← hcenv]; exact hbi, by show s.heap.objs.size ≤ cenv.locals; rw [hL]; exact Nat.le_refl _,
      fun y z c e1 e2 => ?_, fun y hy => ?_, fun y c z e => ?_, fun _ => hh, ?_, .inr ⟨rfl, by show cenv.frame = some cenv.locals; rw [← hcenv]; rfl⟩, fun b hb => ⟨?_, fun y c e z => ?_⟩, I.bs, Nat.le_trans I.ok.bsz I.sz, fun b o e hb => ?_, fun b hb z => ?_, I.stack, I.stkFree⟩
    · have e1 : cenv.cells.lookup y = some c := e1
      have e2 : cenv.cells.lookup z = some c := e2
      rw [hcl] at e1 e2
      refine cells_inj (fun p hp => ?_) (fun y z c a b => I.ok.inj y z c (cm a).1 (cm b).1) (PySem.mem_of_lookup e1) (PySem.mem_of_lookup e2)
      rw [Heap.size_push]
      exact Nat.lt_succ_of_lt (cm (y := p.1) (c := p.2) hp).2
    · show ∃ c, cenv.cells.lookup y = some c
      have hy' : scope.names.lookup y = some .cell ∨ scope.names.lookup y = some .free := by
        have hy : cenv.scope.names.lookup y = some .cell ∨ cenv.scope.names.lookup y = some .free := hy
        rw [hsc] at hy; exact hy
      rcases hy' with e | e
      · obtain ⟨c, hm⟩ := cells_has (n := (s.heap.push { cls := .type "frame", data := .dict #[] }).objs.size) (acc := cloFrom X.env.cells scope.names []) (PySem.mem_of_lookup e)
        obtain ⟨c', e'⟩ := mem_lookup hm
        exact ⟨c', by rw [hcl]; exact e'⟩
      · obtain ⟨c, h1, _⟩ := look e
        exact ⟨c, h1⟩
    · have z : (scope.names.lookup y == some NameKind.cell) = true := z
      have z : scope.names.lookup y = some .cell := by simpa using z
      have e : cenv.cells.lookup y = some c := e
      rw [hcl] at e
      rcases cells_mem (PySem.mem_of_lookup e) with hm | ⟨_, h2, _⟩
      · rcases cloFrom_mem hm with hm | ⟨h1, _⟩
        · cases hm
        · have q := ok.blk.uniq _ h1
          rw [z] at q; cases q
      · rw [Heap.size_push] at h2
        exact Nat.le_of_succ_le h2
    · show (A.deeper cenv).frames = some (cenv :: X.stack)
      unfold Around.deeper
      rw [hA]; rfl
    · show b ≠ cenv.locals
      rw [hL]; exact Nat.ne_of_lt (hfp b hb).2
    · have e : cenv.cells.lookup y = some c := e
      rcases mem e with ⟨h1, _⟩ | ⟨h1, _⟩
      · exact (hfp b hb).1.2.2.2.2.1 y c h1 z
      · have h2 : s.heap.objs.size + 1 ≤ b := by rw [← z]; exact h1
        exact absurd (Nat.lt_of_lt_of_le (hfp b hb).2 (Nat.le_of_succ_le h2)) (Nat.lt_irrefl _)
    · rcases (hfp b hb).1.2.2.2.1 with z | z
      · exact I.ok.noex b o e z
      · exact absurd (Nat.lt_of_lt_of_le (Heap.lt_size e) (Nat.le_trans I.ok.bsz z)) (Nat.lt_irrefl _)
    · rcases List.mem_cons.mp (I.stkSub b z) with z | z
      · exact (hfp b hb).1.2.1 z
      · exact (hfp b hb).1.2.2.1 z
  have young : ∀ b, s.heap.objs.size ≤ b → H b = none ∧ b ∉ frs X.stack := fun b hb => by
    refine ⟨I.hok.fresh hb, fun hm => ?_⟩
    obtain ⟨_, o, ho, _⟩ := I.stack.mem hm
    exact absurd (Nat.lt_of_lt_of_le (Heap.lt_size ho) hb) (Nat.lt_irrefl _)
  refine ⟨okB, os6, b6, Un.kept kp, ?_, fun y c e => ?_, ?_, fun y c e => ?_, fun p hp => ?_, I.hok.kept kp, by rw [wipe_length]; exact I.len⟩
  · obtain ⟨m, hm⟩ := hns
    refine ⟨m, ?_, fun i y av e1 e2 e3 => ?_⟩
    · show Heap.Ns _ cenv.locals _
      rw [hL]
      exact hm.keeps k6
    · obtain ⟨e2, hne⟩ := wipe_some e2
      have hfr : scope.names.lookup y = some .free := by
        have e3' : Vis scope y := by
          have e3 : Vis cenv.scope y := e3
          rw [hsc] at e3; exact e3
        have no : ∀ k', scope.names.lookup y = some k' → ¬ (k' = .local ∨ k' = .cell) := fun k' e hh => by
          rcases ok.blk.own _ (PySem.mem_of_lookup e) hh with e' | e'
          · obtain ⟨p, hp, hpy⟩ := List.mem_map.mp e'
            have e3 := ok.blk.ix p hp
            have : p.1 = y := hpy
            rw [this] at e3
            exact hne (List.mem_map.mpr ⟨p, hp, nodup_ix hN e3 e1⟩)
          · exact e' (List.mem_of_getElem? e1)
        rcases e3' with e | e | e
        · exact absurd (.inl rfl) (no _ e)
        · exact absurd (.inr rfl) (no _ e)
        · exact e
      obtain ⟨m, hn, hl⟩ := I.loc
      have hvis : Vis X.env.scope y := (ok.blk.free _ (PySem.mem_of_lookup hfr) rfl).elim (fun k => .inr (.inl k)) (fun k => .inr (.inr k))
      obtain ⟨w, r, q⟩ := hl i y av e1 e2 hvis
      refine ⟨w, r, .inr ⟨.inr (by show cenv.scope.names.lookup y = _; rw [hsc]; exact hfr), ?_⟩⟩
      obtain ⟨c, h1, h2⟩ := look hfr
      rcases q with ⟨k, _⟩ | ⟨_, c', e', z⟩
      · have k : X.env.scope.names.lookup y = some .local := k
        rcases ok.blk.free _ (PySem.mem_of_lookup hfr) rfl with k' | k' <;> rw [show X.env.scope.names.lookup y = _ from k'] at k <;> cases k
      · rw [h2] at e'; cases e'
        exact ⟨c, h1, z.keeps kp⟩
  · have e : cenv.cells.lookup y = some c := e
    rcases mem e with ⟨h1, _⟩ | ⟨_, z⟩
    · obtain ⟨w, z⟩ := I.cell y c h1
      exact ⟨w, z.keeps kp⟩
    · exact ⟨_, z⟩
  · show H cenv.locals = none
    rw [hL]; exact I.hok.fresh (Nat.le_refl _)
  · have e : cenv.cells.lookup y = some c := e
    rcases mem e with ⟨h1, _⟩ | ⟨h1, _⟩
    · exact I.freeC y c h1
    · exact I.hok.fresh (Nat.le_of_succ_le h1)
  · obtain ⟨h1, h2, h3⟩ := hpin p hp
    obtain ⟨y1, y2⟩ := young p.1 (by omega)
    refine ⟨h1, y1, ?_, y2, h3⟩
    show p.1 ≠ cenv.locals
    rw [hL]
    exact fun e => by have h2' : h'.objs.size ≤ s.heap.objs.size := by rw [← e]; exact h2
                      omega
end

section
variable {X : Cx} {C : Con} {a : Addr} {gn : Nat} {A : Around} {elt tg iter : Expr} {ifs : List Expr} {scope : Scope} {pos : Pos} {it : Addr} {fp : List Addr} {tn : Nat → Heap → Prop} {J : It} {g : TG} {tt : TT} {te : TE} {vs : List Nat} {σw : L2.St}
theorem seg_first (hc : X.calm = true) (T : Turn X.prog X.w X.K tg J fp it tn) (pg : PG X tg g) (pt : PTs X ifs tt) (pe : PE X elt te) (hco : X.env.scope.isCoroutine = false)
    (hxe : X.xe = fun _ _ => False) (hex : X.ex = fp) (hA : A.deeper X.env = X.A) (hag : ∃ go, (a, go) ∈ X.pn ∧ (∀ h : Heap, h.get? a = some go → h.IsGen a gn))
    (hSa : ∀ b ∈ C.Sa, Apart X b ∧ (∀ p ∈ X.pn, p.1 ≠ b) ∧ b ∉ fp) (hpf : ∀ p ∈ X.pn, p.1 ∉ fp) {W : Nat → Nat → List V → Hp → Prop} (turn : tGenL C J g tt te vs σw W) (hvs : wipe σw vs = σw)
    {m : Nat} {s : Shared} {H : Hp} {pl : List (Addr × Obj)} (hw : W 0 m [] H) (hown : C.Own [] pl) (hpl : pl.map (·.1) = C.Sa) (I : Inv X pl σw H s) (st : tn 0 s.heap) (hfp : ∀ b ∈ fp, H b = none) :
      Seg (model X.prog X.w) A (CR X C) (CY X C a gn) sizeLine s (.compStart (.GeneratorExp elt [⟨tg, iter, ifs, 0⟩] scope pos) 0 (.ref it) .none X.env)
        ((model X.prog X.w).den (.compStart (.GeneratorExp elt [⟨tg, iter, ifs, 0⟩] scope pos) 0 (.ref it) .none X.env)) [] s := by
  have loop := seg_loop (pos := pos) (scope := scope) (iter := iter) hc T pg pt pe hco hxe hex hA hag hSa hpf turn hvs m 0 sizeLine [] s s H pl (Nat.add_zero _) hw (fun p hp => (I.pin p (List.mem_append_right _ hp)).1) hown hpl I st hfp
  show Seg _ A _ _ _ s _ ((compStart (.GeneratorExp elt [⟨tg, iter, ifs, 0⟩] scope pos) 0 (.ref it) .none X.env).onRaise (leaving X.env)) [] s
  unfold compStart
  rw [Sem.onRaise_eq_wrap]
  show Seg _ A _ _ _ s _ ((ask >>= _).wrap _ _ _ _) [] s
  refine seg_bind_wrap (wpAny_askSetting ?_)
  split
  · exact seg_again rfl loop
  · first
      | exact seg_bind_wrap (wpAny_rule (seg_bind_wrap (wpAny_standAt (seg_bind_wrap (T.self _ 0 s _ _ st (seg_again rfl loop))))))
      | (refine seg_bind_wrap (wpAny_rule ?_); show Seg _ A _ _ _ s _ ((standAt iter.pos >>= _).wrap _ _ _ _) [] s; exact seg_bind_wrap (wpAny_standAt (seg_bind_wrap (T.self _ 0 s _ _ st (seg_again rfl loop)))))
end
end GX
end

section
set_option Elab.async false
set_option linter.all false
set_option maxRecDepth 100000
set_option maxHeartbeats 4000000
namespace GX
open PySem PySem.Spec PyProof.Rows L2 GenW

/-- a code object whose table of inner codes is at P -/
def CodeObj (o : Obj) (P : Addr) : Prop :=
  ∃ vs file tf flags tg inF text tt, o.cls = .type "code" ∧ o.data = .fields vs ∧ vs[11]? = some (.ref P) ∧ vs.getD 11 .none = .ref P ∧ vs.getD 18 .none = .str file tf ∧
    vs.getD 7 .none = .int flags tg ∧ vs.getD 9 .none = .bool inF ∧ vs.getD 10 .none = .int text tt
/-- the code that runs: the module's own, or one that was made by the run -/
def CodeAt (base : Heap) (H : Hp) (cv : Value) : Prop :=
  ∃ c P, cv = .ref c ∧ c ≠ P ∧ (∃ ps, H P = some (.tbl ps)) ∧ (PySem.W.CodeHd base c P ∨ ∃ o, H c = some (.ext fun h => h.get? c = some o) ∧ CodeObj o P)
/-- every table that is tracked is a good one -/
def TabAll (H : Hp) : Prop := ∀ P ps, H P = some (.tbl ps) → TriplesOk ps.toList ∧ ∀ pos cv, codeAmong pos ps.toList = some cv →
  ∃ c P' o, cv = .ref c ∧ c ≠ P' ∧ H c = some (.ext fun h => h.get? c = some o) ∧ CodeObj o P' ∧ ∃ ps', H P' = some (.tbl ps')
/-- what was tracked stays, but what stands at al, and tables that grow -/
def Grow (al : List Addr) (H H' : Hp) : Prop := ∀ b o, H b = some o → b ∈ al ∨ H' b = some o ∨ ((∃ ps, o = .tbl ps) ∧ ∃ ps', H' b = some (.tbl ps'))
theorem Grow.refl {al : List Addr} (H : Hp) : Grow al H H := fun _ _ e => .inr (.inl e)
theorem Grow.trans {al : List Addr} {H H1 H2 : Hp} (a : Grow al H H1) (b : Grow al H1 H2) : Grow al H H2 := fun c o e => by
  rcases a c o e with h | h | ⟨h, ps', h'⟩
  · exact .inl h
  · exact b c o h
  · rcases b c _ h' with h2 | h2 | ⟨_, h2⟩
    · exact .inl h2
    · exact .inr (.inr ⟨h, ps', h2⟩)
    · exact .inr (.inr ⟨h, h2⟩)
theorem Grow.mono {al al' : List Addr} {H H1 : Hp} (a : Grow al H H1) (h : ∀ b ∈ al, b ∈ al') : Grow al' H H1 := fun c o e => by
  rcases a c o e with h1 | h1 | h1
  · exact .inl (h _ h1)
  · exact .inr (.inl h1)
  · exact .inr (.inr h1)
theorem CodeAt.grow {base : Heap} {H H' : Hp} {cv : Value} {al : List Addr} (x : CodeAt base H cv) (g : Grow al H H') (na : ∀ b ∈ al, ∃ xs, H b = some (.lst xs)) : CodeAt base H' cv := by
  obtain ⟨c, P, e, hne, ⟨ps, hP⟩, h⟩ := x
  have key : ∀ b o, H b = some o → (∀ xs, o ≠ .lst xs) → H' b = some o ∨ ((∃ ps, o = .tbl ps) ∧ ∃ ps', H' b = some (.tbl ps')) := fun b o hb hn => by
    rcases g b o hb with h1 | h1 | h1
    · obtain ⟨xs, h2⟩ := na b h1
      rw [hb] at h2; cases h2
      exact absurd rfl (hn xs)
    · exact .inl h1
    · exact .inr h1
  refine ⟨c, P, e, hne, ?_, ?_⟩
  · rcases key P _ hP (fun xs z => by cases z) with h1 | ⟨_, h1⟩
    · exact ⟨ps, h1⟩
    · exact h1
  · rcases h with h | ⟨o, ho, hc⟩
    · exact .inl h
    · rcases key c _ ho (fun xs z => by cases z) with h1 | ⟨⟨ps', h1⟩, _⟩
      · exact .inr ⟨o, h1, hc⟩
      · cases h1

/-- the module's builtins -/
def BmAt (base : Heap) (mg : Str → Option Value) : Prop := ∃ (bm : Addr) (ob : Obj), mg "__builtins__" = some (.ref bm) ∧ bm ≠ builtinsNs ∧ base.get? bm = some ob ∧ ob.cls = .type "module" ∧ ob.dict = some builtinsNs ∧ ob.data = .plain

section
variable {X : Cx} {pins : List (Addr × Obj)} {σ : L2.St} {H : Hp} {s : Shared}
theorem CodeAt.hd {cv : Value} {H : Hp} (x : CodeAt X.base H cv) (I : Inv X pins σ H s) : ∃ c P ps, cv = .ref c ∧ H P = some (.tbl ps) ∧ PySem.W.CodeHd s.heap c P := by
  obtain ⟨c, P, e, hne, ⟨ps, hP⟩, h⟩ := x
  refine ⟨c, P, ps, e, hP, ?_⟩
  rcases h with h | ⟨o, ho, vs, file, tf, flags, tg, inF, text, tt, h1, h2, h3, h4, h5, h6, h7, h8⟩
  · exact h.keeps I.bk
  · have q := (I.hok c _ ho).1
    exact ⟨o, vs, file, tf, flags, tg, inF, text, tt, q, h1, h2, h3, h4, h5, h6, h7, h8, hne⟩

/-- a new code has come into the table at P -/
theorem Inv.coded {P c' P' : Addr} {ps : Array Value} {l col : Value} {o' : Obj} {h' : Heap} {tk : Nat} (I : Inv X pins σ H s) (hP : H P = some (.tbl ps)) (hx : Heap.ExtBut P s.heap h')
    (hc : s.heap.objs.size ≤ c') (hP' : s.heap.objs.size ≤ P') (hne : c' ≠ P') (ho : h'.get? c' = some o') (ht : h'.get? P' = some { cls := .none, data := .fields #[] })
    (hT : h'.get? P = some { cls := .none, data := .fields (ps ++ #[l, col, .ref c']) }) :
    Inv X pins σ (upd (upd (upd H P (.tbl (ps ++ #[l, col, .ref c']))) c' (.ext fun h => h.get? c' = some o')) P' (.tbl #[])) { s with heap := h', toks := tk } := by
  have lt : ∀ b u, H b = some u → b < s.heap.objs.size := fun b u e => I.hok.lt e
  have hPlt := lt P _ hP
  have n1 : ∀ {b : Addr}, b < s.heap.objs.size → b ≠ c' := fun h => Nat.ne_of_lt (Nat.lt_of_lt_of_le h hc)
  have n2 : ∀ {b : Addr}, b < s.heap.objs.size → b ≠ P' := fun h => Nat.ne_of_lt (Nat.lt_of_lt_of_le h hP')
  have old : ∀ {b : Addr}, b < s.heap.objs.size → b ≠ P → upd (upd (upd H P (.tbl (ps ++ #[l, col, .ref c']))) c' (.ext fun h => h.get? c' = some o')) P' (.tbl #[]) b = H b := fun hb hn => by
    rw [upd_ne (n2 hb), upd_ne (n1 hb), upd_ne hn]
  have nP : ∀ {b u}, H b = some u → (∀ q, u ≠ .tbl q) → b ≠ P := fun e q z => by
    rw [z, hP] at e; exact q _ (Option.some.inj e).symm
  have nN : ∀ {b}, H b = none → b ≠ P := fun e z => by rw [z, hP] at e; cases e
  refine I.un (t' := tk) ⟨fun b o e n _ _ => hx b o (nN n) e, fun b o e n _ _ => ⟨o.slots, hx b o (nN n) e⟩, fun b o e n _ => by rw [old (Heap.lt_size e) (nN n)]; exact n, fun b o e _ => ?_,
    fun b xs e => by rw [old (lt b _ e) (nP e fun q z => by cases z)]; exact e, fun b o u e => by rw [old (lt b _ e) (nP e fun q z => by cases z)]; exact e, fun b qs e => ?_⟩ (fun b u e => ?_)
  · by_cases hb : b = P
    · rw [hb]; exact ⟨_, hT⟩
    · exact ⟨o, hx b o hb e⟩
  · by_cases hb : b = P
    · rw [hb, hP] at e; cases e
      rw [hb, upd_ne (n2 hPlt), upd_ne (n1 hPlt), upd_same]
      exact ⟨_, rfl⟩
    · rw [old (lt b _ e) hb, e]
      exact ⟨#[], by simp⟩
  · by_cases h1 : b = P'
    · subst h1
      rw [upd_same] at e; cases e
      exact ht
    · rw [upd_ne h1] at e
      by_cases h2 : b = c'
      · subst h2
        rw [upd_same] at e; cases e
        exact ⟨ho, ⟨_, ho⟩, fun h1 h2 q k => k _ q⟩
      · rw [upd_ne h2] at e
        by_cases h3 : b = P
        · subst h3
          rw [upd_same] at e; cases e
          exact hT
        · rw [upd_ne h3] at e
          refine (I.hok b u e).stay (fun d v hd q => hx d v ?_ q) (fun d q => by rw [old (lt d _ q) (nP q fun q z => by cases z)]; exact q) fun d xs q => by rw [old (lt d _ q) (nP q fun q z => by cases z)]; exact q
          rcases hd with z | z
          · rw [z]; exact h3
          · exact nP z fun q z => by cases z

/-- the generator stands, not begun -/
structure MadeAt (X : Cx) (pins : List (Addr × Obj)) (σ : L2.St) (H : Hp) (J : It) (elt tg iter : Expr) (ifs : List Expr) (scope : Scope) (own : List (Str × Nat)) (pos : Pos) (a : Addr) (gn : Nat) (s5 : Shared) : Prop where
  inv : Inv X pins σ H s5
  isgen : s5.heap.IsGen a gn
  lt : a < s5.heap.objs.size
  run : ∃ (s4 : Shared) (cl : List (Str × Addr)) (L : Addr) (cv : Value) (it : Addr) (fp : List Addr) (tn : Nat → Heap → Prop) (go : Obj),
    s5.gens[gn]? = some (.fresh (.compStart (.GeneratorExp elt [⟨tg, iter, ifs, 0⟩] scope pos) 0 (.ref it) .none (gEnv scope cl L cv builtinsNs X.env))) ∧ CodeAt X.base H cv ∧
    ∀ (C : Con) (Ac : Around) (s6 : Shared) (pl : List (Addr × Obj)) (g : TG) (tt : TT) (te : TE) (W : Nat → Nat → List V → Hp → Prop) (m : Nat), Ac.handled = none → Ac.frames = some X.stack →
      (∀ b o, s5.heap.get? b = some o → s6.heap.get? b = some o) → s6.os = s5.os → AllBare s6.gens → C.Own [] pl → pl.map (·.1) = C.Sa →
      (∀ p ∈ pl, s6.heap.get? p.1 = some p.2 ∧ s5.heap.objs.size ≤ p.1 ∧ ∀ v, p.2.data ≠ .cell v) →
      PG (Cxg X Ac s4 H scope (gEnv scope cl L cv builtinsNs X.env) fp [(a, go)]) tg g → PTs (Cxg X Ac s4 H scope (gEnv scope cl L cv builtinsNs X.env) fp [(a, go)]) ifs tt → PE (Cxg X Ac s4 H scope (gEnv scope cl L cv builtinsNs X.env) fp [(a, go)]) elt te →
      tGenL C J g tt te (own.map (·.2)) (wipe σ (own.map (·.2))) W → W 0 m [] H →
      Seg (model X.prog X.w) Ac (CR (Cxg X Ac s4 H scope (gEnv scope cl L cv builtinsNs X.env) fp [(a, go)]) C) (CY (Cxg X Ac s4 H scope (gEnv scope cl L cv builtinsNs X.env) fp [(a, go)]) C a gn) sizeLine s6
        (.compStart (.GeneratorExp elt [⟨tg, iter, ifs, 0⟩] scope pos) 0 (.ref it) .none (gEnv scope cl L cv builtinsNs X.env))
        ((model X.prog X.w).den (.compStart (.GeneratorExp elt [⟨tg, iter, ifs, 0⟩] scope pos) 0 (.ref it) .none (gEnv scope cl L cv builtinsNs X.env))) [] s6 ∧
      ∀ {pl' : List (Addr × Obj)} {σ' : L2.St} {H' : Hp} {s' : Shared}, Inv (Cxg X Ac s4 H scope (gEnv scope cl L cv builtinsNs X.env) fp [(a, go)]) pl' σ' H' s' → Inv X pins σ H' s'

theorem wipe_wipe (σ : L2.St) (vs : List Nat) : wipe (wipe σ vs) vs = wipe σ vs := by
  have key : ∀ (ws : List Nat), (∀ v ∈ ws, v ∈ vs) → wipe (wipe σ vs) ws = wipe σ vs := by
    intro ws
    induction ws with
    | nil => intro _; rfl
    | cons v r ih =>
      intro h
      show (wipe (wipe σ vs) r).set v none = wipe σ vs
      rw [ih fun x hx => h x (List.mem_cons_of_mem _ hx)]
      refine List.ext_getElem? fun i => ?_
      by_cases hi : v = i
      · subst hi
        by_cases hv : v < (wipe σ vs).length
        · rw [List.getElem?_set_self hv]
          cases e : (wipe σ vs)[v]? with
          | none => rw [List.getElem?_eq_none_iff] at e; omega
          | some q =>
            cases q with
            | none => rfl
            | some q => exact absurd (h v List.mem_cons_self) (wipe_some e).2
        · rw [List.getElem?_eq_none (by simpa using hv), List.getElem?_eq_none (Nat.le_of_not_lt hv)]
      · rw [List.getElem?_set_ne hi]
  exact key vs fun _ h => h
end
end GX
end

section
set_option Elab.async false
set_option linter.all false
set_option maxRecDepth 100000
set_option maxHeartbeats 4000000
namespace GX
open PySem PySem.Spec PyProof.Rows L2 GenW

section
variable {X : Cx} {pins : List (Addr × Obj)} {σ : L2.St} {H : Hp} {s : Shared}
theorem gen_made {k : Nat} {elt tg iter : Expr} {ifs : List Expr} {scope : Scope} {own : List (Str × Nat)} {pos : Pos} {wi : TI} {R : It → Hp → Prop} {Q' : Value → Shared → Prop}
    (hN : X.N.Nodup) (hr : Room k X.A) (bm : BmAt X.base X.mg) (ok : GenOk X.N X.env.scope scope own) (hcalm : X.calm = true) (hi : PI X tg iter wi) (hs : ∀ x, genFold iter X.env x = pure x)
    (I : Inv X pins σ H s) (h : wi σ H fun J H1 => CodeAt X.base H1 X.env.code ∧ TabAll H1 ∧ R J H1)
    (hQ : ∀ J H1 H2 a gn s5, R J H1 → Grow [] H1 H2 → TabAll H2 → MadeAt X pins σ H2 J elt tg iter ifs scope own pos a gn s5 → Q' (.ref a) s5) :
    wpAny (model X.prog X.w) X.A (eval (.GeneratorExp elt [⟨tg, iter, ifs, 0⟩] scope pos) X.env) Q' X.xe s := by
  have hfree : ∀ y ∈ scope.names, y.2 = .free → ∃ c, X.env.cells.lookup y.1 = some c := fun y hy e => by
    rcases ok.blk.free y hy e with k | k
    · exact I.ok.has _ (.inl k)
    · exact I.ok.has _ (.inr k)
  rw [eval_GeneratorExp1 _ _ _ _ _ _ _ ok.co, closure_ok hfree]
  refine wpAny_bind (thn (hi.run pins s σ H _ I h) fun xv s1 hx => ?_)
  refine wpAny_bind (wpAny_standAt ?_)
  refine wpAny_bind (wpAny_of_eq (hs xv) ?_)
  refine wpAny_bind (wpAny_holding (thn hx fun itv s2 h2 => ?_))
  obtain ⟨it, fp, tn, J, H1, e, I2, T, st2, f2, hcode, htab, hR⟩ := h2
  subst e
  refine wpAny_bind (wpAny_enterFrame I2.nolimit hr.depth ?_)
  refine wpAny_bind (wpAny_pure ?_)
  have sz : ∀ b ∈ fp, b < s2.heap.objs.size := fun b hb => by
    obtain ⟨o, e, _⟩ := T.obj _ _ st2 b hb
    exact Heap.lt_size e
  have key : ∀ (cv : Value) (s3 : Shared) (H2 : Hp), Inv X pins σ H2 s3 → Grow [] H1 H2 → TabAll H2 → CodeAt X.base H2 cv → tn 0 s3.heap → (∀ b ∈ fp, FpOk X pins H2 b ∧ b < s3.heap.objs.size) →
      wpAny (model X.prog X.w) X.A (builtinsFor X.env.globals X.env.builtins >>= fun bi => newFunctionEnv scope X.env.globals (cloFrom X.env.cells scope.names []) [(".0", .ref it)] (X.env.qual ++ "<genexpr>.") none cv none bi >>= fun cenv =>
        newGenerator (.compStart (.GeneratorExp elt [⟨tg, iter, ifs, 0⟩] scope pos) 0 (.ref it) .none cenv) "<genexpr>" (X.env.qual ++ "<genexpr>")) Q' X.xe s3 := by
    intro cv s3 H2 I3 hg ht hcv st3 f3
    obtain ⟨bmA, ob, e1, e2, e3, e4, e5, e6⟩ := bm
    refine wpAny_bind (wpAny_builtinsFor (m := X.mg) (by rw [I3.ok.glob]; exact I3.mod.glob.keeps I3.bk) e1 e2 (I3.bk _ _ e3) e4 e5 e6 ?_)
    refine wpAny_bind (newEnv_gen ok.blk.kind ok.dot fun h' tk hns hsb => ?_)
    simp only [newGenerator, newFields]
    refine wpAny_bind (wpAny_newGen (wpAny_bind (wpAny_mkText (wpAny_bind (wpAny_mkText (wpAny_newObj_type ?_ (by size_fits)))))))
    have szle : (pushCells (s3.heap.push { cls := .type "frame", data := .dict #[] }) scope.names).objs.size = h'.objs.size := hsb.1.symm
    have szs : s3.heap.objs.size + 1 ≤ h'.objs.size := by
      rw [← szle, ← Heap.size_push s3.heap { cls := .type "frame", data := .dict #[] }]
      exact pushCells_size _ _
    have kp1 : ∀ b o, s3.heap.get? b = some o → h'.get? b = some o := fun b o e => (hsb.2 b (Nat.ne_of_lt (Heap.lt_size e))).trans (pushCells_keeps _ _ _ _ (Heap.get?_push_of_some _ e))
    generalize hgo : ({ cls := .type "generator", data := .fields _ } : Obj) = go
    have hgen : ∀ hh : Heap, hh.get? h'.objs.size = some go → hh.IsGen h'.objs.size s3.gens.size := fun hh e => ⟨go, _, _, e, by rw [← hgo], by rw [← hgo]; rfl, by rw [← hgo]⟩
    have hgc : ∀ v, go.data ≠ .cell v := fun v q => by rw [← hgo] at q; cases q
    have hpush : (h'.push go).get? h'.objs.size = some go := Heap.get?_push_size _ (by rw [← hgo]; rfl)
    have kp2 : ∀ b o, s3.heap.get? b = some o → (h'.push go).get? b = some o := fun b o e => Heap.get?_push_of_some _ (kp1 b o e)
    refine hQ J H1 H2 h'.objs.size s3.gens.size _ hR hg ht ⟨?_, hgen _ hpush, by show h'.objs.size < (h'.push go).objs.size; rw [Heap.size_push]; exact Nat.lt_succ_self _, ?_⟩
    · exact I3.call' (ch := []) rfl (Un.kept kp2) (I3.hok.kept kp2) (AllBare.push I3.bare rfl) fun b z => by simp at z
    · refine ⟨s3, _, _, cv, it, fp, tn, go, Array.getElem?_push_size .., hcv, fun C Ac s6 pl g tt te W m hh hfr k6 os6 b6 hown hpl hp pg pt pe turn hw => ?_⟩
      have I6 := gen_start (A := Ac) (fp := fp) (code := cv) (bi := builtinsNs) (pn := [(h'.objs.size, go)]) (pl := pl) (s6 := s6) I3 ok hN f3 hfr hh rfl hns hsb (fun b o e => k6 b o (Heap.get?_push_of_some _ e)) os6 b6 (fun p hpm => by
        rcases List.mem_append.mp hpm with z | z
        · rw [List.mem_singleton.mp z]
          exact ⟨k6 _ _ hpush, Nat.le_refl _, hgc⟩
        · obtain ⟨z1, z2, z3⟩ := hp p z
          have z2' : (h'.push go).objs.size ≤ p.1 := z2
          rw [Heap.size_push] at z2'
          exact ⟨z1, Nat.le_of_succ_le z2', z3⟩)
      have szb : ∀ b ∈ C.Sa, h'.objs.size + 1 ≤ b ∧ ∃ o, s6.heap.get? b = some o ∧ ∀ v, o.data ≠ .cell v := fun b hb => by
        rw [← hpl] at hb
        obtain ⟨p, hpm, e⟩ := List.mem_map.mp hb
        obtain ⟨z1, z2, z3⟩ := hp p hpm
        have z2' : (h'.push go).objs.size ≤ p.1 := z2
        rw [Heap.size_push] at z2'
        rw [← e]
        exact ⟨z2', p.2, z1, z3⟩
      refine ⟨seg_first (X := Cxg X Ac s3 H2 scope (gEnv scope (cellsFrom (s3.heap.objs.size + 1) scope.names (cloFrom X.env.cells scope.names [])) s3.heap.objs.size cv builtinsNs X.env) fp [(h'.objs.size, go)]) hcalm T pg pt pe ok.co rfl rfl rfl ⟨go, List.mem_singleton.mpr rfl, fun hh e => hgen hh e⟩ (fun b hb => ?_) (fun p hpm hf => ?_) turn (wipe_wipe _ _) hw hown hpl I6 (T.keep _ _ _ st3 fun b _ o e => k6 b o (kp2 b o e)) fun b hb => (f3 b hb).1.1, fun {pl' σ' H' s'} I' => ?_⟩
      · obtain ⟨z1, o, z2, z3⟩ := szb b hb
        refine ⟨⟨Nat.le_of_succ_le (Nat.le_trans szs (Nat.le_of_succ_le z1)), ?_, fun x c e q => ?_⟩, fun p hpm => ?_, fun hf => ?_⟩
        · exact Nat.ne_of_gt (Nat.lt_of_succ_le (Nat.le_trans szs (Nat.le_of_succ_le z1)))
        · obtain ⟨v, oc, e1, e2⟩ := I6.cell x c e
          rw [q, z2] at e1; cases e1
          exact z3 _ e2
        · rw [List.mem_singleton.mp hpm]
          exact Nat.ne_of_lt (Nat.lt_of_succ_le z1)
        · exact absurd (Nat.lt_of_lt_of_le (f3 b hf).2 (Nat.le_of_succ_le (Nat.le_trans szs (Nat.le_of_succ_le z1)))) (Nat.lt_irrefl _)
      · rw [List.mem_singleton.mp hpm] at hf
        exact absurd (Nat.lt_of_lt_of_le (f3 _ hf).2 (Nat.le_of_succ_le szs)) (Nat.lt_irrefl _)
      · exact I3.call' (ch := fp) I'.os I'.base I'.hok I'.bare fun b hb => ⟨(f3 b hb).1.2.2.2.1, (f3 b hb).1.2.1, (f3 b hb).1.2.2.2.2.1, (f3 b hb).1.2.2.2.2.2⟩
  obtain ⟨c, P, ps, hcv, hP, hd⟩ := hcode.hd I2
  have hPs : s2.heap.get? P = some { cls := .none, data := .fields ps } := I2.hok P _ hP
  obtain ⟨ht1, ht2⟩ := htab P ps hP
  cases hf : codeAmong pos ps.toList with
  | some cv =>
    refine wpAny_bind (wpAny_genexprCode_hit hcv (hd.code hPs ht1) hf ?_)
    obtain ⟨c', P', o', q1, q2, q3, q4, q5⟩ := ht2 pos cv hf
    exact key cv s2 H1 I2 (.refl _) htab ⟨c', P', q1, q2, q5, .inr ⟨o', q3, q4⟩⟩ st2 fun b hb => ⟨f2 b hb, sz b hb⟩
  | none =>
    refine wpAny_bind (wpAny_genexprCodeX hcv (hd.code hPs ht1) (hd.tab hPs) hf fun c' h' tk hx hge hlt hco' _ htab' hnew => ?_)
    obtain ⟨P', hP', hc1, ht1'⟩ := hnew
    obtain ⟨o', vs, file, tf, flags, tg', inF, text, tt, z1, z2, z3, z4, z5, z6, z7, z8, z9, zne⟩ := PySem.W.CodeHd.of hc1 ht1'
    have htr : TriplesOk (ps ++ #[rawInt pos.line, rawInt pos.col, .ref c']).toList := by
      obtain ⟨_, _, _, _, _, _, _, _, _, _, _, _, _, _, _, _, _, _, _, htr, _⟩ := hco'
      exact htr
    have I3 := Inv.coded (tk := tk) I2 hP hx hge hP' zne z1 ht1'.2 htab'.2
    have lt : ∀ b u, H1 b = some u → b < s2.heap.objs.size := fun b u e => I2.hok.lt e
    have n1 : ∀ {b : Addr}, b < s2.heap.objs.size → b ≠ c' := fun h => Nat.ne_of_lt (Nat.lt_of_lt_of_le h hge)
    have n2 : ∀ {b : Addr}, b < s2.heap.objs.size → b ≠ P' := fun h => Nat.ne_of_lt (Nat.lt_of_lt_of_le h hP')
    have hPlt := lt P _ hP
    generalize hH2 : upd (upd (upd H1 P (.tbl (ps ++ #[rawInt pos.line, rawInt pos.col, .ref c']))) c' (.ext fun h => h.get? c' = some o')) P' (.tbl #[]) = H2 at I3
    have old : ∀ {b : Addr}, b < s2.heap.objs.size → b ≠ P → H2 b = H1 b := fun hb hn => by
      rw [← hH2, upd_ne (n2 hb), upd_ne (n1 hb), upd_ne hn]
    have atP : H2 P = some (.tbl (ps ++ #[rawInt pos.line, rawInt pos.col, .ref c'])) := by rw [← hH2, upd_ne (n2 hPlt), upd_ne (n1 hPlt), upd_same]
    have atP' : H2 P' = some (.tbl #[]) := by rw [← hH2, upd_same]
    have atc : H2 c' = some (.ext fun h => h.get? c' = some o') := by rw [← hH2, upd_ne zne, upd_same]
    have grow : Grow [] H1 H2 := fun b o e => by
      by_cases hb : b = P
      · rw [hb, hP] at e; cases e
        exact .inr (.inr ⟨⟨ps, rfl⟩, _, by rw [hb]; exact atP⟩)
      · exact .inr (.inl (by rw [old (lt b _ e) hb]; exact e))
    have cobj : CodeObj o' P' := ⟨vs, file, tf, flags, tg', inF, text, tt, z2, z3, z4, z5, z6, z7, z8, z9⟩
    have tabs : TabAll H2 := fun Pa qs e => by
      by_cases h1 : Pa = P'
      · rw [h1, atP'] at e; cases e
        exact ⟨trivial, fun pos cv z => by cases z⟩
      · by_cases h2 : Pa = P
        · rw [h2, atP] at e; cases e
          refine ⟨htr, fun pos' cv z => ?_⟩
          have hl : (ps ++ #[rawInt pos.line, rawInt pos.col, Value.ref c']).toList = ps.toList ++ [rawInt pos.line, rawInt pos.col, .ref c'] := by simp
          rw [hl] at z
          have split : ∀ (l : List Value), TriplesOk l → codeAmong pos' (l ++ [rawInt pos.line, rawInt pos.col, .ref c']) = some cv → codeAmong pos' l = some cv ∨ cv = .ref c' := by
            intro l
            fun_induction TriplesOk l with
            | case1 =>
              intro _ z
              simp only [List.nil_append, codeAmong, rawInt] at z
              split at z
              · cases z; exact .inr rfl
              · cases z
            | case2 a t b u x rest ih =>
              intro hl z
              simp only [List.cons_append, codeAmong] at z ⊢
              split at z
              · rename_i hc; rw [if_pos hc]; exact .inl z
              · rename_i hc; rw [if_neg hc]; exact ih hl z
            | case3 l h1 h2 => intro hl; exact hl.elim
          rcases split _ ht1 z with z | z
          · obtain ⟨c2, P2, o2, q1, q2, q3, q4, ps2, q5⟩ := ht2 pos' cv z
            refine ⟨c2, P2, o2, q1, q2, ?_, q4, ?_⟩
            · rw [old (lt c2 _ q3) (fun z => by rw [z, hP] at q3; cases q3)]; exact q3
            · by_cases hb : P2 = P
              · exact ⟨_, by rw [hb]; exact atP⟩
              · exact ⟨ps2, by rw [old (lt P2 _ q5) hb]; exact q5⟩
          · exact ⟨c', P', o', z, zne, atc, cobj, _, atP'⟩
        · have hPa : Pa ≠ c' := fun z => by rw [z, atc] at e; cases e
          have e' : H1 Pa = some (.tbl qs) := by
            rw [← hH2, upd_ne h1, upd_ne hPa, upd_ne h2] at e; exact e
          obtain ⟨k1, k2⟩ := htab Pa qs e'
          refine ⟨k1, fun pos' cv z => ?_⟩
          obtain ⟨c2, P2, o2, q1, q2, q3, q4, ps2, q5⟩ := k2 pos' cv z
          refine ⟨c2, P2, o2, q1, q2, ?_, q4, ?_⟩
          · rw [old (lt c2 _ q3) (fun z => by rw [z, hP] at q3; cases q3)]; exact q3
          · by_cases hb : P2 = P
            · exact ⟨_, by rw [hb]; exact atP⟩
            · exact ⟨ps2, by rw [old (lt P2 _ q5) hb]; exact q5⟩
    refine key (.ref c') { s2 with heap := h', toks := tk } H2 I3 grow tabs ⟨c', P', rfl, zne, ⟨_, atP'⟩, .inr ⟨o', atc, cobj⟩⟩ (T.keep _ _ _ st2 fun b hb o e => hx b o (fun z => ?_) e) fun b hb => ⟨⟨?_, (f2 b hb).2⟩, ?_⟩
    · have := (f2 b hb).1
      rw [z, hP] at this; cases this
    · rw [old (sz b hb) (fun z => by have := (f2 b hb).1; rw [z, hP] at this; cases this)]
      exact (f2 b hb).1
    · obtain ⟨o, e, _⟩ := T.obj _ _ st2 b hb
      exact Heap.lt_size (hx b o (fun z => by have := (f2 b hb).1; rw [z, hP] at this; cases this) e)
end
end GX
end

section
set_option Elab.async false
set_option linter.all false
set_option maxRecDepth 100000
set_option maxHeartbeats 4000000
namespace GX
open PySem PySem.Spec PyProof.Rows L2 GenW

/-- the generator a sleeps (or has not begun), n more items at most -/
def GAt (X : Cx) (C : Con) (a : Addr) (gn : Nat) (Ac : Around) (n : Nat) (s : Shared) : Prop :=
  s.heap.IsGen a gn ∧ s.heap.NoLimit ∧ ∃ gs, s.gens[gn]? = some gs ∧ gs.Goes (model X.prog X.w) Ac (CR X C) (CY X C a gn) n (.send .none) (s.setGen gn .running)

def NextQ (X : Cx) (C : Con) (a : Addr) (gn : Nat) (Ac : Around) (n : Nat) (s : Shared) (r : Option Value) (s' : Shared) : Prop :=
  (r = none ∧ ∃ ys pl σ H, n + ys.length = sizeLine ∧ (∀ p ∈ pl, s.heap.get? p.1 = some p.2) ∧ C.Own ys pl ∧ pl.map (·.1) = C.Sa ∧ Inv X pl σ H s' ∧ C.Dn ys H) ∨
  ∃ v m ys x pl σ H, r = some v ∧ n = m + 1 ∧ 1 ≤ m ∧ m + 1 + ys.length = sizeLine ∧ RelV x v ∧ (∀ p ∈ pl, s.heap.get? p.1 = some p.2) ∧ C.Own ys pl ∧ pl.map (·.1) = C.Sa ∧ Inv X pl σ H s' ∧ C.Yl (ys ++ [x]) H ∧
    (C.Go (ys ++ [x]) → ∀ s'', Slp C.Own C.Sa (ys ++ [x]) s' s'' → s''.gens = s'.gens → GAt X C a gn Ac m s'')

theorem Inv.regen {X : Cx} {pl : List (Addr × Obj)} {σ : L2.St} {H : Hp} {s : Shared} {g : Nat} {gs : GenState} {h' : Heap} (I : Inv X pl σ H s) (hb : gs.bare = true) (k : ∀ b o, s.heap.get? b = some o → h'.get? b = some o) : Inv X pl σ H { s.setGen g gs with heap := h' } :=
  I.call' (ch := []) rfl (Un.kept k) (I.hok.kept k) (allBare_setGen I.bare hb) fun b z => by simp at z

theorem next_step {X : Cx} {C : Con} {a : Addr} {gn : Nat} {A : Around} {n : Nat} {s : Shared} {E : Value → Shared → Prop} (hh : A.handled = none) (hd : A.depth < recursionLimit) (haS : a ∉ C.Sa) (hcS : cStatics ∉ C.Sa)
    (h : GAt X C a gn A.in1 n s) : wpAny (model X.prog X.w) A (pyNext (.ref a)) (NextQ X C a gn A.in1 n s) E s := by
  obtain ⟨hg, hl, gs, hgs, hgo⟩ := h
  have hgl : gn < s.gens.size := (Array.getElem?_eq_some_iff.mp hgs).1
  refine wpAny_gsz (n := gn + 1) hgl (next_genG (F := CF X C) (Er := fun _ _ => False) hh hl hd hg hgs hgo (fun v s₁ gs' hb hv => ?_) (fun s₁ hp h' hk => ?_) fun e s₁ he => he.elim)
  · intro hsz
    obtain ⟨ys, x, pl, σ, H, h1, h2, h3, h0, h4, h5, h6, h7, h8, h9⟩ := hv
    obtain ⟨m, rfl⟩ : ∃ m, n = m + 1 := ⟨n - 1, by omega⟩
    have hsz1 : gn < s₁.gens.size := by
      have q : (s₁.setGen gn gs').gens.size = s₁.gens.size := setGen_size _ _ _
      have hsz' : gn + 1 ≤ (s₁.setGen gn gs').gens.size := hsz
      omega
    refine .inr ⟨v, m, ys, x, pl, σ, H, rfl, rfl, h1, h2, h3, h0, h4, h5, Inv.regen (h' := s₁.heap) h6 hb fun _ _ e => e, h8, fun go s'' z hge => ?_⟩
    obtain ⟨z1, z2, z3, z4⟩ := z
    refine ⟨?_, ?_, gs', by rw [hge]; exact setGen_at hsz1, h9 go _ ⟨z1, allBare_setGen z2 rfl, z3, z4⟩⟩
    · obtain ⟨o, nm, qn, ho, r⟩ := h7
      exact ⟨o, nm, qn, z3 a o haS ho, r⟩
    · obtain ⟨mc, hns, hnn⟩ := h6.nolimit
      exact ⟨mc, hns.at' fun o e => z3 _ o hcS e, hnn⟩
  · intro _
    obtain ⟨ys, pl, σ, H, h1, h0, h2, h3, h4, h5⟩ := hp
    exact .inl ⟨rfl, ys, pl, σ, H, h1, h0, h2, h3, Inv.regen h4 rfl hk, h5⟩

/-- truth, in any around: nothing but the tokens moves -/
theorem truthy_at {X : Cx} {pins : List (Addr × Obj)} {σ : L2.St} {H : Hp} {s : Shared} {A : Around} {E : Value → Shared → Prop} {x : V} {v : Value} {k : Bool} {Q : Bool → Shared → Prop} (I : Inv X pins σ H s) (rx : RelV x v) (e : TruV X.K x H k)
    (h : ∀ tk, Q k { s with toks := tk }) : wpAny (model X.prog X.w) A (truthy v) Q E s := by
  have hl := line63
  have hs : sizeLine = 16777216 := sizeLine_eq
  cases x with
  | non =>
    cases rx
    obtain rfl : k = false := e
    exact truthy_none (h s.toks)
  | bl b =>
    cases rx
    obtain rfl : k = b := e
    exact wpAny_truthy_bool (h s.toks)
  | int i =>
    obtain ⟨t, rfl⟩ := rx
    obtain rfl : k = (i != 0) := e
    exact PySem.P.truthy_int (h s.toks)
  | str y =>
    obtain ⟨t, rfl⟩ := rx
    obtain ⟨hy, rfl⟩ : y.length ≤ sizeLine ∧ k = ((y.length : Int) != 0) := e
    exact PySem.P.truthy_str (by omega) (h _)
  | byt y =>
    obtain ⟨t, rfl⟩ := rx
    obtain ⟨hy, rfl⟩ : y.size ≤ sizeLine ∧ k = ((y.size : Int) != 0) := e
    exact PySem.W.truthy_bytes (by omega) (h _)
  | ref p =>
    cases rx
    have e' : (∃ xs, SqL X.K H p xs ∧ k = !xs.isEmpty) ∨ (∃ xs, SqT X.K H p xs ∧ k = !xs.isEmpty) ∨ ∃ kvs, H p = some (.dK kvs) ∧ k = !kvs.isEmpty := e
    rcases e' with ⟨xs, hx, rfl⟩ | ⟨xs, hx, rfl⟩ | ⟨kvs, hx, rfl⟩
    · obtain ⟨its, r, pl, hz⟩ := I.list hx
      have hlen := r.length
      exact wpAny_truthy_list pl.isList (by simp only [List.size_toArray]; omega) (by rw [isEmpty_of r]; exact h _)
    · obtain ⟨its, r, pl, hz⟩ := I.tuple hx
      have hlen := r.length
      exact truthy_tuple pl (by simp only [List.size_toArray]; omega) (by rw [isEmpty_of r]; exact h _)
    · obtain ⟨hz, hS, vs, r, m⟩ : kvs.length ≤ sizeLine ∧ (p == sysModules) = false ∧ ∃ vs, KV kvs vs ∧ s.heap.DictOf (mixKind X.prog X.w) p vs := I.hok p _ hx
      have hlen : kvs.length = vs.length := Paired.length r
      exact wpAny_truthy_dict hS m (by omega) (by rw [isEmpty_kv r]; exact h _)
  | _ => exact (show False from e).elim

/-! ### all, any -/
/-- st: the truth that ends it -/
def cTest (K : PySem.W.Frag) (st : Bool) (Go : List V → Prop) (Qf : Bool → Hp → Prop) : Con where
  Sa := []
  Own := fun _ pl => pl = []
  Yl := fun zs H => ∃ x b, zs.getLast? = some x ∧ TruV K x H b ∧ ((b = (!st) ∧ Go zs) ∨ (b = st ∧ Qf st H))
  Go := Go
  Dn := fun _ H => Qf (!st) H

section
variable {X : Cx} {a : Addr} {gn : Nat} {A : Around} {Go : List V → Prop} {Qf : Bool → Hp → Prop} {R : Result → Shared → Prop}
theorem all_loop (hh : A.handled = none) (hd : A.depth < recursionLimit) (hR : ∀ b pl σ H s', Inv X pl σ H s' → Qf b H → R (.ok (.ret (.bool b))) s') :
    ∀ (n : Nat) (s : Shared), GAt X (cTest X.K false Go Qf) a gn A.in1.in1 n s → codeAny (model X.prog X.w) A (.builtin "all.loop" ⟨[.ref a], []⟩) R s := by
  intro n
  induction n using Nat.strongRecOn with
  | ind n ih =>
    intro s hg
    refine codeAny_builtin F.entry_all_loop ?_
    rw [Around.under_plainId F.plain_all_loop _]
    show wpAny _ A.in1 (pyNext (.ref a) >>= _) _ _ s
    refine wpAny_bind (wpAny_mono (next_step (A := A.in1) hh hd (by simp [cTest]) (by simp [cTest]) hg (E := fun _ _ => False)) (fun r s' h => ?_) fun _ _ z => z.elim)
    rcases h with ⟨rfl, ys, pl, σ, H, h1, _, h2, h3, h4, h5⟩ | ⟨v, m, ys, x, pl, σ, H, rfl, rfl, h1, h2, h3, _, h4, h5, h6, ⟨y, b, e1, e2, e3⟩, h8⟩
    · exact wpAny_bind (wpAny_rule (wpAny_pure (hR true pl σ H s' h4 h5)))
    · have ey : y = x := by
        rw [List.getLast?_append] at e1
        simpa using e1.symm
      subst ey
      refine wpAny_bind (wpAny_holding (truthy_at h6 h3 e2 fun tk => ?_))
      refine wpAny_bind (wpAny_letGo ?_)
      rcases e3 with ⟨rfl, go⟩ | ⟨rfl, q⟩
      · simp only [Bool.not_false, if_true]
        exact wpAny_pure ⟨plainId_quiet F.plain_all_loop _, ih m (Nat.lt_succ_self _) _ (h8 go _ ⟨rfl, h6.bare, fun b o _ e => e, [], rfl, rfl, fun p hp => absurd hp (by simp)⟩ rfl)⟩
      · simp only [Bool.false_eq_true, if_false]
        exact wpAny_bind (wpAny_rule (wpAny_pure (hR false pl σ H _ (h6.tok tk) q)))
theorem any_loop (hh : A.handled = none) (hd : A.depth < recursionLimit) (hR : ∀ b pl σ H s', Inv X pl σ H s' → Qf b H → R (.ok (.ret (.bool b))) s') :
    ∀ (n : Nat) (s : Shared), GAt X (cTest X.K true Go Qf) a gn A.in1.in1 n s → codeAny (model X.prog X.w) A (.builtin "any.loop" ⟨[.ref a], []⟩) R s := by
  intro n
  induction n using Nat.strongRecOn with
  | ind n ih =>
    intro s hg
    refine codeAny_builtin F.entry_any_loop ?_
    rw [Around.under_plainId F.plain_any_loop _]
    show wpAny _ A.in1 (pyNext (.ref a) >>= _) _ _ s
    refine wpAny_bind (wpAny_mono (next_step (A := A.in1) hh hd (by simp [cTest]) (by simp [cTest]) hg (E := fun _ _ => False)) (fun r s' h => ?_) fun _ _ z => z.elim)
    rcases h with ⟨rfl, ys, pl, σ, H, h1, _, h2, h3, h4, h5⟩ | ⟨v, m, ys, x, pl, σ, H, rfl, rfl, h1, h2, h3, _, h4, h5, h6, ⟨y, b, e1, e2, e3⟩, h8⟩
    · exact wpAny_bind (wpAny_rule (wpAny_pure (hR false pl σ H s' h4 h5)))
    · have ey : y = x := by
        rw [List.getLast?_append] at e1
        simpa using e1.symm
      subst ey
      refine wpAny_bind (wpAny_holding (truthy_at h6 h3 e2 fun tk => ?_))
      refine wpAny_bind (wpAny_letGo ?_)
      rcases e3 with ⟨rfl, go⟩ | ⟨rfl, q⟩
      · simp only [Bool.not_true, Bool.false_eq_true, if_false]
        exact wpAny_pure ⟨plainId_quiet F.plain_any_loop _, ih m (Nat.lt_succ_self _) _ (h8 go _ ⟨rfl, h6.bare, fun b o _ e => e, [], rfl, rfl, fun p hp => absurd hp (by simp)⟩ rfl)⟩
      · simp only [if_true]
        exact wpAny_bind (wpAny_rule (wpAny_pure (hR true pl σ H _ (h6.tok tk) q)))
end

/-! ### tuple -/
def cTup (S : Addr) (Qt : List V → Hp → Prop) : Con where
  Sa := [S]
  Own := fun ys pl => ∃ (acc : Array Value) (c : Nat), pl = [(S, lstObj acc c)] ∧ Vals ys acc.toList
  Yl := fun _ _ => True
  Go := fun _ => True
  Dn := Qt

section
variable {X : Cx} {a : Addr} {gn : Nat} {A : Around} {S : Addr} {Qt : List V → Hp → Prop} {R : Result → Shared → Prop} {res : Value}
theorem extend_loop (hh : A.handled = none) (hd : A.depth < recursionLimit) (hSa : a ≠ S) (hSc : cStatics ≠ S)
    (hR : ∀ ys acc c pl σ H s', Inv X pl σ H s' → s'.heap.get? S = some (lstObj acc c) → Vals ys acc.toList → ys.length ≤ sizeLine → Qt ys H → H S = none → R (.ok (.ret res)) s') :
    ∀ (n : Nat) (s : Shared), GAt X (cTup S Qt) a gn A.in1.in1 n s → codeAny (model X.prog X.w) A (.builtin "list.extend.loop" ⟨[.ref S, .ref a, res], []⟩) R s := by
  intro n
  induction n using Nat.strongRecOn with
  | ind n ih =>
    intro s hg
    refine codeAny_builtin F.entry_extend_loop ?_
    rw [Around.under_plainId F.plain_extend_loop _]
    show wpAny _ A.in1 (pyNext (.ref a) >>= _) _ _ s
    refine wpAny_bind (wpAny_mono (next_step (A := A.in1) hh hd (by simpa [cTup] using hSa) (by simpa [cTup] using hSc) hg (E := fun _ _ => False)) (fun r s' h => ?_) fun _ _ z => z.elim)
    rcases h with ⟨rfl, ys, pl, σ, H, h1, _, ⟨acc, c, rfl, hv⟩, h3, h4, h5⟩ | ⟨v, m, ys, x, pl, σ, H, rfl, rfl, h1, h2, h3, _, ⟨acc, c, rfl, hv⟩, h5, h6, _, h8⟩
    · have hp := h4.pin (S, lstObj acc c) (List.mem_append_right _ List.mem_cons_self)
      exact wpAny_pure (hR ys acc c _ σ H s' h4 hp.1 hv (by omega) h5 hp.2.1)
    · have hp := h6.pin (S, lstObj acc c) (List.mem_append_right _ List.mem_cons_self)
      have hasz : acc.size = ys.length := by
        have e1 := hv.length
        have e2 : acc.toList.length = acc.size := by simp
        omega
      show wpAny _ A.in1 (updateSeq S (·.push v) >>= _) _ _ _
      refine wpAny_bind ?_
      refine wpAny_updateSeq hp.1 rfl (wpAny_pure ⟨plainId_quiet F.plain_extend_loop _, ?_⟩) (by omega) (by show (acc.push v).size ≤ sizeLine + 1; rw [Array.size_push]; omega)
      refine ih m (Nat.lt_succ_self _) _ (h8 trivial _ ⟨rfl, h6.bare, fun b o hb e => (Heap.get?_update_other _ _ (fun z => hb (by rw [← z]; exact List.mem_cons_self))).trans e, ?_⟩ rfl)
      obtain ⟨c', hS2⟩ : ∃ c', (s'.heap.update S (Obj.mapSeq (·.push v))).get? S = some (lstObj (acc.push v) c') := ⟨_, Heap.get?_update_self _ hp.1 rfl⟩
      refine ⟨[(S, lstObj (acc.push v) c')], ⟨acc.push v, c', rfl, ?_⟩, rfl, fun p hpm => ?_⟩
      · rw [Array.toList_push]
        exact hv.append (.cons h3 .nil)
      · rw [List.mem_singleton.mp hpm]
        exact ⟨hS2, fun v q => by cases q⟩
end
end GX
end

section
set_option Elab.async false
set_option linter.all false
set_option maxRecDepth 100000
set_option maxHeartbeats 4000000
namespace GX
open PySem PySem.Spec PyProof.Rows L2 GenW

/-! ### sum -/
def vint : V → Int
  | .int i => i
  | _ => 0
def isum (ys : List V) : Int := (ys.map vint).sum
theorem isum_snoc (ys : List V) (i : Int) : isum (ys ++ [.int i]) = isum ys + i := by
  simp [isum, vint]
abbrev sumObj (z : Int) (t : Tok) (c : Nat) : Obj := { cls := .type "list", dict := none, data := .seq #[.int z t] c, slots := #[] }
def cSum (S : Addr) (Qs : Int → Hp → Prop) : Con where
  Sa := [S]
  Own := fun ys pl => ∃ (t : Tok) (c : Nat), pl = [(S, sumObj (isum ys) t c)]
  Yl := fun zs _ => ∃ i, zs.getLast? = some (.int i)
  Go := fun _ => True
  Dn := fun ys H => Qs (isum ys) H

section
variable {X : Cx} {a : Addr} {gn : Nat} {A : Around} {S : Addr} {Qs : Int → Hp → Prop} {R : Result → Shared → Prop}
theorem sum_loop (hh : A.handled = none) (hd : A.depth < recursionLimit) (hSa : a ≠ S) (hSc : cStatics ≠ S)
    (hR : ∀ z t pl σ H s', Inv X pl σ H s' → Qs z H → R (.ok (.ret (.int z t))) s') :
    ∀ (n : Nat) (s : Shared) (z : Int) (t : Tok) (c : Nat) (st : Int), (st = 0 ∨ st = 2) → s.heap.get? S = some (sumObj z t c) → GAt X (cSum S Qs) a gn A.in1.in1 n s → codeAny (model X.prog X.w) A (.builtin "sum.loop" ⟨[.ref a, .ref S, rawInt st, rawInt 0], []⟩) R s := by
  intro n
  induction n using Nat.strongRecOn with
  | ind n ih =>
    intro s z t c st hst hS hg
    refine codeAny_builtin F.entry_sum_loop ?_
    rw [Around.under_plainId F.plain_sum_loop _]
    show wpAny _ A.in1 (seqItems? (.ref S) >>= _) _ _ s
    refine wpAny_bind (wpAny_seqItems hS rfl ?_)
    show wpAny _ A.in1 (tryCatch (pyNext (.ref a)) _ >>= _) _ _ s
    refine wpAny_bind (wpAny_tryCatch (wpAny_mono (next_step (A := A.in1) hh hd (by simpa [cSum] using hSa) (by simpa [cSum] using hSc) hg) (fun r s' h => ?_) fun _ _ z => z))
    rcases h with ⟨rfl, ys, pl, σ, H, h1, h0, ⟨t', c', rfl⟩, h3, h4, h5⟩ | ⟨v, m, ys, x, pl, σ, H, rfl, rfl, h1, h2, h3, h0, ⟨t', c', rfl⟩, h5, h6, ⟨i, e1⟩, h8⟩
    · have e0 := h0 (S, sumObj (isum ys) t' c') List.mem_cons_self
      rw [show s.heap.get? (S, sumObj (isum ys) t' c').1 = some (sumObj z t c) from hS] at e0
      cases e0
      exact wpAny_pure (hR _ t _ σ H s' h4 h5)
    · have e0 := h0 (S, sumObj (isum ys) t' c') List.mem_cons_self
      rw [show s.heap.get? (S, sumObj (isum ys) t' c').1 = some (sumObj z t c) from hS] at e0
      cases e0
      have ex : x = .int i := by
        rw [List.getLast?_append] at e1
        simpa using e1
      subst ex
      obtain ⟨ti, rfl⟩ := h3
      have hp := h6.pin (S, sumObj (isum ys) t c) (List.mem_append_right _ List.mem_cons_self)
      have hS' : s'.heap.get? S = some (sumObj (isum ys) t c) := hp.1
      have fin : ∀ (h' : Heap) (tk : Nat) (t'' : Tok) (c'' : Nat), (∀ b o, b ≠ S → s'.heap.get? b = some o → h'.get? b = some o) → h'.get? S = some (sumObj (isum ys + i) t'' c'') →
          GAt X (cSum S Qs) a gn A.in1.in1 m { s' with heap := h', toks := tk } := fun h' tk t'' c'' k e => by
        refine h8 trivial _ ⟨rfl, h6.bare, fun b o hb q => k b o (fun z => hb (by rw [z]; exact List.mem_cons_self)) q, [(S, sumObj (isum ys + i) t'' c'')], ⟨t'', c'', by rw [isum_snoc]⟩, rfl, fun p hpm => ?_⟩ rfl
        rw [List.mem_singleton.mp hpm]
        exact ⟨e, fun v q => by cases q⟩
      have up : ∀ (h : Heap) (f : Obj → Obj) (b : Addr) (o : Obj), b ≠ S → h.get? b = some o → (h.update S f).get? b = some o := fun h f b o hb e => (Heap.get?_update_other _ _ (Ne.symm hb)).trans e
      -- the long road: a sum of any size
      have far : ∀ st', (st' = 2) → wpAny (model X.prog X.w) A.in1 (updateSeq S (fun _ => #[Value.int (isum ys + i) s'.toks]) >>= fun _ => letGo [Value.int (isum ys) t, Value.int i ti] >>= fun _ => updateSeq S (fun _ => #[Value.int (isum ys + i) s'.toks]) >>= fun _ =>
          again (.builtin "sum.loop" ⟨[.ref a, .ref S, rawInt st', rawInt 0], []⟩)) (fun x s'' => match x with
            | .done f => R (.ok f) s''
            | .again c => c.quiet = true ∧ codeAny (model X.prog X.w) A c R s'') (fun e s'' => R (.error e) s'') { s' with toks := s'.toks + 1 } := by
        rintro st' rfl
        refine wpAny_bind (wpAny_updateSeq hS' rfl ?_)
        have hS₂ := Heap.get?_update_self (Obj.mapSeq fun _ => #[Value.int (isum ys + i) s'.toks]) hS' rfl
        refine wpAny_bind (wpAny_letGo ?_)
        refine wpAny_bind (wpAny_updateSeq hS₂ rfl (wpAny_pure ⟨plainId_quiet F.plain_sum_loop _, ?_⟩))
        have hS₃ := Heap.get?_update_self (Obj.mapSeq fun _ => #[Value.int (isum ys + i) s'.toks]) hS₂ rfl
        exact ih m (Nat.lt_succ_self _) _ _ _ _ 2 (.inr rfl) hS₃ (fin _ _ _ _ (fun b o hb e => up _ _ b o hb (up _ _ b o hb e)) hS₃)
      rcases hst with rfl | rfl
      · show wpAny _ A.in1 (if (_ : Bool) = true then (mkInt (isum ys + i) >>= _) else _) _ _ _
        split
        · refine wpAny_bind (wpAny_mkInt ?_)
          show wpAny _ A.in1 (updateSeq S (fun _ => #[.int (isum ys + i) s'.toks]) >>= _) _ _ _
          refine wpAny_bind (wpAny_updateSeq hS' rfl (wpAny_pure ⟨plainId_quiet F.plain_sum_loop _, ?_⟩))
          have hS₂ := Heap.get?_update_self (Obj.mapSeq fun _ => #[Value.int (isum ys + i) s'.toks]) hS' rfl
          exact ih m (Nat.lt_succ_self _) _ _ _ _ 0 (.inl rfl) hS₂ (fin _ _ _ _ (fun b o hb e => up _ _ b o hb e) hS₂)
        · refine wpAny_bind (wpAny_rule ?_)
          refine wpAny_bind (wpAny_attempt (wpAny_holding (wpAny_add_int ?_)))
          exact far 2 rfl
      · show wpAny _ A.in1 ((holding [Value.int i ti] (binaryOp .Add (.int (isum ys) t) (.int i ti))).attempt >>= _) _ _ _
        refine wpAny_bind (wpAny_attempt (wpAny_holding (wpAny_add_int ?_)))
        exact far 2 rfl
end
end GX
end

section
set_option Elab.async false
set_option linter.all false
set_option maxRecDepth 100000
set_option maxHeartbeats 4000000
namespace GX
open PySem PySem.Spec PyProof.Rows L2 GenW

/-- Xg is the context of a generator's frame that X has made, woken within Ac -/
def IsG (X Xg : Cx) (Ac : Around) (H : Hp) (scope : Scope) : Prop :=
  ∃ s4 cl L cv fp pn, Xg = Cxg X Ac s4 H scope (gEnv scope cl L cv builtinsNs X.env) fp pn ∧ CodeAt X.base H cv
/-- how the generator's turns are read by the consumer -/
def Reads (X : Cx) (C : Con) (Ac : Around) (H : Hp) (J : It) (elt tg : Expr) (ifs : List Expr) (scope : Scope) (own : List (Str × Nat)) (σ : L2.St) : Prop :=
  ∀ Xg, IsG X Xg Ac H scope → ∃ g tt te W m, PG Xg tg g ∧ PTs Xg ifs tt ∧ PE Xg elt te ∧ tGenL C J g tt te (own.map (·.2)) (wipe σ (own.map (·.2))) W ∧ W 0 m [] H

section
variable {X : Cx} {pins : List (Addr × Obj)} {σ : L2.St} {H : Hp} {J : It} {elt tg iter : Expr} {ifs : List Expr} {scope : Scope} {own : List (Str × Nat)} {pos : Pos} {a : Addr} {gn : Nat} {s5 s6 : Shared} {C : Con} {Ac : Around}
theorem MadeAt.gat (M : MadeAt X pins σ H J elt tg iter ifs scope own pos a gn s5) (hh : Ac.handled = none) (hf : Ac.frames = some X.stack) (k6 : ∀ b o, s5.heap.get? b = some o → s6.heap.get? b = some o) (os6 : s6.os = s5.os) (g6 : s6.gens = s5.gens)
    {pl : List (Addr × Obj)} (hown : C.Own [] pl) (hpl : pl.map (·.1) = C.Sa) (hp : ∀ p ∈ pl, s6.heap.get? p.1 = some p.2 ∧ s5.heap.objs.size ≤ p.1 ∧ ∀ v, p.2.data ≠ .cell v)
    (rd : Reads X C Ac H J elt tg ifs scope own σ) :
    ∃ Xg, IsG X Xg Ac H scope ∧ GAt Xg C a gn Ac sizeLine s6 ∧ ∀ {pl' : List (Addr × Obj)} {σ' : L2.St} {H' : Hp} {s' : Shared}, Inv Xg pl' σ' H' s' → Inv X pins σ H' s' := by
  obtain ⟨hI, hgen, _, s4, cl, L, cv, it, fp, tn, go, e1, e2, run⟩ := M
  have hisg : IsG X (Cxg X Ac s4 H scope (gEnv scope cl L cv builtinsNs X.env) fp [(a, go)]) Ac H scope := ⟨s4, cl, L, cv, fp, _, rfl, e2⟩
  obtain ⟨g, tt, te, W, m, q1, q2, q3, q4, q5⟩ := rd _ hisg
  have b5 : AllBare s6.gens := by rw [g6]; exact hI.bare
  obtain ⟨r1, r2⟩ := run C Ac (s6.setGen gn .running) pl g tt te W m hh hf k6 os6 (allBare_setGen b5 rfl) hown hpl hp q1 q2 q3 q4 q5
  have e1' := e1
  rw [← g6] at e1'
  exact ⟨_, hisg, ⟨hgen.keeps k6, hI.nolimit.keeps k6, _, e1', rfl, r1⟩, r2⟩
theorem MadeAt.anew (M : MadeAt X pins σ H J elt tg iter ifs scope own pos a gn s5) : a < s5.heap.objs.size := M.lt

theorem call_all_g {E : Value → Shared → Prop} {Q : VK} {Go : List V → Prop} {k : Nat} (hr : Room k X.A) (M : MadeAt X pins σ H J elt tg iter ifs scope own pos a gn s5)
    (rd : Reads X (cTest X.K false Go fun b H' => Q (.bl b) H') X.A.in1.in1 H J elt tg ifs scope own σ) : wpAny (model X.prog X.w) X.A (call (.builtin "all") [.ref a]) (EP X pins σ Q) E s5 := by
  refine call_function_tree F.kind_all F.plain_all F.entry_all (F.args_all1 _) ?_
  unfold Builtin.«all»
  refine wpAny_bind (m := oneArg "all" _) (wpAny_pure ?_)
  refine wpAny_bind (wpAny_pyIter_gen M.isgen ?_)
  obtain ⟨Xg, hg, hat, back⟩ := M.gat (s6 := s5) (Ac := X.A.in1.in1) hr.hd M.inv.ok.frames (fun _ _ e => e) rfl rfl (pl := []) rfl rfl (fun p hp => absurd hp (by simp)) rd
  obtain ⟨s4, cl, L, cv, fp, pn, rfl, hcv⟩ := hg
  exact wpAny_pure ⟨plainId_quiet F.plain_all_loop _, all_loop (X := Cxg X X.A.in1.in1 s4 H scope (gEnv scope cl L cv builtinsNs X.env) fp pn) (A := X.A) hr.hd hr.depth (fun b pl σ' H' s' I' q => ⟨.bl b, H', back I', rfl, q⟩) sizeLine s5 hat⟩
theorem call_any_g {E : Value → Shared → Prop} {Q : VK} {Go : List V → Prop} {k : Nat} (hr : Room k X.A) (M : MadeAt X pins σ H J elt tg iter ifs scope own pos a gn s5)
    (rd : Reads X (cTest X.K true Go fun b H' => Q (.bl b) H') X.A.in1.in1 H J elt tg ifs scope own σ) : wpAny (model X.prog X.w) X.A (call (.builtin "any") [.ref a]) (EP X pins σ Q) E s5 := by
  refine call_function_tree F.kind_any F.plain_any F.entry_any (F.args_any1 _) ?_
  unfold Builtin.«any»
  refine wpAny_bind (m := oneArg "any" _) (wpAny_pure ?_)
  refine wpAny_bind (wpAny_pyIter_gen M.isgen ?_)
  obtain ⟨Xg, hg, hat, back⟩ := M.gat (s6 := s5) (Ac := X.A.in1.in1) hr.hd M.inv.ok.frames (fun _ _ e => e) rfl rfl (pl := []) rfl rfl (fun p hp => absurd hp (by simp)) rd
  obtain ⟨s4, cl, L, cv, fp, pn, rfl, hcv⟩ := hg
  exact wpAny_pure ⟨plainId_quiet F.plain_any_loop _, any_loop (X := Cxg X X.A.in1.in1 s4 H scope (gEnv scope cl L cv builtinsNs X.env) fp pn) (A := X.A) hr.hd hr.depth (fun b pl σ' H' s' I' q => ⟨.bl b, H', back I', rfl, q⟩) sizeLine s5 hat⟩

theorem call_sum_g {E : Value → Shared → Prop} {Q : VK} {k : Nat} (hr : Room k X.A) (M : MadeAt X pins σ H J elt tg iter ifs scope own pos a gn s5)
    (rd : ∀ S, Reads X (cSum S fun z H' => Q (.int z) H') X.A.in1.in1 H J elt tg ifs scope own σ) : wpAny (model X.prog X.w) X.A (call (.builtin "sum") [.ref a]) (EP X pins σ Q) E s5 := by
  refine call_function_tree F.kind_sum F.plain_sum F.entry_sum (F.args_sum1 _) ?_
  unfold Builtin.«sum»
  simp only [List.length_cons, List.length_nil]
  rw [if_neg (by decide)]
  refine wpAny_bind (wpAny_of_eq (show Builtin.Builtins.bindParams "sum" ["start"] 0 { } = pure [none] from rfl) ?_)
  refine wpAny_bind (wpAny_pyIter_gen M.isgen ?_)
  refine wpAny_bind (wpAny_mkInt ?_)
  refine wpAny_bind (wpAny_pure ?_)
  simp only [List.forIn_cons, List.forIn_nil]
  refine wpAny_bind (wpAny_bind (wpAny_bind (wpAny_isInstance (T := "int") (b := false) (typeIs_int _ _ _) F.sub_int_str ?_)))
  simp only [Bool.false_eq_true, if_false]
  refine wpAny_pure (wpAny_bind (wpAny_bind (wpAny_isInstance (T := "int") (b := false) (typeIs_int _ _ _) F.sub_int_bytes ?_)))
  simp only [Bool.false_eq_true, if_false]
  refine wpAny_pure (wpAny_bind (wpAny_bind (wpAny_isInstance (T := "int") (b := false) (typeIs_int _ _ _) F.sub_int_bytearray ?_)))
  simp only [Bool.false_eq_true, if_false]
  refine wpAny_pure (wpAny_pure ?_)
  refine wpAny_bind (wpAny_newObj_type ?_)
  have hcl : cStatics < s5.heap.objs.size := let ⟨_, hn, _⟩ := M.inv.nolimit; hn.lt
  generalize hs6 : ({ s5 with heap := s5.heap.push { cls := .type "list", data := .seq [Value.int 0 s5.toks].toArray }, toks := s5.toks + 1 } : Shared) = s6
  have hS : s6.heap.get? s5.heap.objs.size = some (sumObj 0 s5.toks 0) := by rw [← hs6]; exact Heap.get?_push_size _ rfl
  obtain ⟨Xg, hg, hat, back⟩ := M.gat (s6 := s6) (Ac := X.A.in1.in1) hr.hd M.inv.ok.frames (fun b o e => by rw [← hs6]; exact Heap.get?_push_of_some _ e) (by rw [← hs6]) (by rw [← hs6]) (C := cSum s5.heap.objs.size fun z H' => Q (.int z) H') (pl := [(s5.heap.objs.size, sumObj 0 s5.toks 0)]) ⟨s5.toks, 0, rfl⟩ rfl (fun p hp => by
    rw [List.mem_singleton.mp hp]
    exact ⟨hS, Nat.le_refl _, fun v q => by cases q⟩) (rd s5.heap.objs.size)
  obtain ⟨s4, cl, L, cv, fp, pn, rfl, hcv⟩ := hg
  refine wpAny_pure ⟨plainId_quiet F.plain_sum_loop _, ?_⟩
  exact sum_loop (X := Cxg X X.A.in1.in1 s4 H scope (gEnv scope cl L cv builtinsNs X.env) fp pn) (A := X.A) hr.hd hr.depth (Nat.ne_of_lt M.lt) (Nat.ne_of_lt hcl) (fun z t pl σ' H' s' I' q => ⟨.int z, H', back I', ⟨t, rfl⟩, q⟩) sizeLine s6 0 s5.toks 0 0 (.inl rfl) hS hat

/-- collect(g), the way of tuple(g): A is that of the collecting -/
theorem collect_g {A : Around} {E : Value → Shared → Prop} {Q : List Value → Shared → Prop} {Qt : List V → Hp → Prop} (hh : A.handled = none) (hd : A.depth < recursionLimit) (hf : A.frames = some X.stack) (M : MadeAt X pins σ H J elt tg iter ifs scope own pos a gn s5)
    (rd : ∀ S, Reads X (cTup S Qt) A.in1.in1 H J elt tg ifs scope own σ) (hQ : ∀ acc ys H' s', Inv X pins σ H' s' → Vals ys acc → ys.length ≤ sizeLine → Qt ys H' → Q acc s') :
    wpAny (model X.prog X.w) A (collect (.ref a)) Q E s5 := by
  have hSI : s5.heap.objs.size ≠ a := Nat.ne_of_gt M.lt
  have hcl : cStatics < s5.heap.objs.size := let ⟨_, hn, _⟩ := M.inv.nolimit; hn.lt
  unfold collect
  refine wpAny_bind (wpAny_runValue (codeAny_builtin F.entry_proto_collect ?_))
  rw [Around.under_plainId F.plain_proto_collect _]
  show wpAny _ A.in1 (newList [] >>= fun l => again (.builtin "list.__iadd__" ⟨[l, .ref a], []⟩)) _ _ s5
  refine wpAny_bind (wpAny_newObj_type ?_)
  refine wpAny_pure ⟨plainId_quiet F.plain_list_iadd _, codeAny_builtin F.entry_list_iadd ?_⟩
  rw [Around.under_plainId F.plain_list_iadd _]
  generalize hs6 : ({ s5 with heap := s5.heap.push { cls := .type "list", data := .seq ([] : List Value).toArray } } : Shared) = s6
  have k6 : ∀ b o, s5.heap.get? b = some o → s6.heap.get? b = some o := fun b o e => by rw [← hs6]; exact Heap.get?_push_of_some _ e
  show wpAny _ A.in1 (Builtin.List.listExtendWith (.ref s5.heap.objs.size) (.ref a) (.ref s5.heap.objs.size)) _ _ _
  unfold Builtin.List.listExtendWith
  refine wpAny_bind (wpAny_typeOf (Heap.IsGen.typeIs (M.isgen.keeps k6)) ?_)
  have h1 : Builtin.List.listSameRef (.ref s5.heap.objs.size) (.ref a) = false := by simp [Builtin.List.listSameRef, hSI]
  have h2 : (Value.type "generator" == Value.type "list") = false := by decide
  have h3 : (Value.type "generator" == Value.type "tuple") = false := by decide
  simp only [h1, h2, h3, Bool.or_false, Bool.false_eq_true, if_false]
  refine wpAny_bind (wpAny_pyIter_gen (M.isgen.keeps k6) ?_)
  refine wpAny_bind (wpAny_holding ?_)
  unfold Builtin.List.listLengthHint
  refine wpAny_bind (wpAny_specialOf (Heap.IsGen.typeIs (M.isgen.keeps k6)) F.gen_no_len ?_)
  show wpAny _ A.in1 (specialOf (Value.ref a) (Str.ofString "__length_hint__") >>= _) _ _ _
  refine wpAny_bind (wpAny_specialOf (Heap.IsGen.typeIs (M.isgen.keeps k6)) F.gen_no_hint ?_)
  refine wpAny_pure ?_
  show wpAny _ A.in1 (rule "list.extend.makes-room" >>= fun _ => Builtin.List.listTouch (.ref s5.heap.objs.size) >>= fun _ =>
    again (.builtin "list.extend.loop" ⟨[.ref s5.heap.objs.size, .ref a, .ref s5.heap.objs.size], []⟩)) _ _ _
  refine wpAny_bind (wpAny_rule ?_)
  have hS₁ : s6.heap.get? s5.heap.objs.size = some { cls := .type "list", data := .seq ([] : List Value).toArray } := by rw [← hs6]; exact Heap.get?_push_size _ rfl
  refine wpAny_bind ?_
  show wpAny _ A.in1 (updateSeq s5.heap.objs.size (·.push .none) >>= fun _ => updateSeq s5.heap.objs.size (·.pop)) _ _ _
  refine wpAny_bind (wpAny_updateSeq hS₁ rfl ?_)
  have hS₂ := Heap.get?_update_self (Obj.mapSeq (·.push Value.none)) hS₁ rfl
  refine wpAny_updateSeq hS₂ rfl ?_
  have hS₃ := Heap.get?_update_self (Obj.mapSeq (·.pop)) hS₂ rfl
  generalize hs7 : ({ s6 with heap := (s6.heap.update s5.heap.objs.size (Obj.mapSeq (·.push Value.none))).update s5.heap.objs.size (Obj.mapSeq (·.pop)) } : Shared) = s7
  obtain ⟨c7, hS7⟩ : ∃ c, s7.heap.get? s5.heap.objs.size = some (lstObj #[] c) := ⟨_, by rw [← hs7]; exact hS₃⟩
  have k7 : ∀ b o, s5.heap.get? b = some o → s7.heap.get? b = some o := fun b o e => by
    have hb := Ne.symm (Nat.ne_of_lt (Heap.lt_size e))
    rw [← hs7]
    exact (Heap.get?_update_other _ _ hb).trans ((Heap.get?_update_other _ _ hb).trans (k6 b o e))
  obtain ⟨Xg, hg, hat, back⟩ := M.gat (s6 := s7) (Ac := A.in1.in1) hh hf k7 (by rw [← hs7, ← hs6]) (by rw [← hs7, ← hs6]) (C := cTup s5.heap.objs.size Qt) (pl := [(s5.heap.objs.size, lstObj #[] c7)]) ⟨#[], c7, rfl, .nil⟩ rfl (fun p hp => by
    rw [List.mem_singleton.mp hp]
    exact ⟨hS7, Nat.le_refl _, fun v q => by cases q⟩) (rd s5.heap.objs.size)
  obtain ⟨s4, cl, L, cv, fp, pn, rfl, hcv⟩ := hg
  refine wpAny_pure ⟨plainId_quiet F.plain_extend_loop _, ?_⟩
  refine extend_loop (X := Cxg X A.in1.in1 s4 H scope (gEnv scope cl L cv builtinsNs X.env) fp pn) (A := A) hh hd (Nat.ne_of_lt M.lt) (Nat.ne_of_lt hcl) (fun ys acc c pl σ' H' s' I' e' rv hz q _ => ?_) sizeLine s7 hat
  show wpAny _ A (load s5.heap.objs.size >>= _) _ _ s'
  refine wpAny_bind (wpAny_load e' ?_)
  exact wpAny_pure (hQ acc.toList ys H' s' (back I') rv hz q)

theorem call_tuple_g {E : Value → Shared → Prop} {Q : VK} {k : Nat} (hr : Room k X.A) (M : MadeAt X pins σ H J elt tg iter ifs scope own pos a gn s5)
    (rd : ∀ S, Reads X (cTup S fun ys H' => ∀ p, H' p = none → Q (.ref p) (upd H' p (.tup ys))) X.A.in4 H J elt tg ifs scope own σ) :
    wpAny (model X.prog X.w) X.A (call (.type "tuple") [.ref a]) (EP X pins σ Q) E s5 := by
  refine callType_codes (Q₁ := fun obj s₁ => s₁.TypeIs obj "tuple" ∧ EP X pins σ Q obj s₁) F.called_tuple (F.typeCall_tuple_1 _) F.entry_object_init ?_ fun obj s₁ h₁ => ?_
  · refine codeAny_of_tree ?_
    show wpAny _ X.A.in1.in1 (do checkBuiltinCall "tuple.__new__" ⟨[.type "tuple", .ref a], []⟩; again (.builtin "tuple.__new__" ⟨[.type "tuple", .ref a], []⟩)) _ _ s5
    refine wpAny_bind (wpAny_of_eq (F.newCall_tuple_1 _) (wpAny_pure ⟨plainId_quiet F.plain_tuple_new _, codeAny_builtin F.entry_tuple_new ?_⟩))
    rw [Around.under_plainId F.plain_tuple_new _]
    have hsub := sub_tuple_self
    have hinit := init_tuple_lookup
    have hmh := madeHere_tuple
    have hTI := Heap.IsGen.typeIs M.isgen
    wp_walk using wpAny_typeOf hTI, collect_g (A := X.A.in1.in1) (Qt := fun ys H' => ∀ p, H' p = none → Q (.ref p) (upd H' p (.tup ys))) hr.hd hr.depth M.inv.ok.frames M rd
    intro acc ys H' s' I' rv hz q
    show wpAny _ _ (Builtin.Tuple.tupleExact acc.toArray >>= fun v => ret v) _ _ _
    unfold Builtin.Tuple.tupleExact
    have hl := rv.length
    refine wpAny_bind (wpAny_newObj_type ?_ (by show acc.toArray.size ≤ sizeLine; rw [List.size_toArray]; omega))
    refine wpAny_pure ⟨⟨_, Heap.get?_push_size _ rfl, rfl⟩, ?_⟩
    have hn : H' s'.heap.objs.size = none := I'.hok.fresh (Nat.le_refl _)
    exact ⟨.ref s'.heap.objs.size, upd H' s'.heap.objs.size (.tup ys), I'.laid (t' := s'.toks) (fun b o e => Heap.get?_push_of_some _ e) (Nat.le_refl _) ⟨hz, acc, rv, ⟨_, Heap.get?_push_size _ rfl, rfl, _, rfl⟩⟩, rfl, q _ hn⟩
  · exact ⟨h₁.1, F.args_object_init_2 obj _, object_init_meets F.called_tuple.init.lookup F.called_tuple.made (by decide) X.prog X.w X.A.in1 _ s₁ ⟨h₁.1, rfl, h₁.2⟩⟩
end
end GX
end

section
set_option Elab.async false
set_option autoImplicit false
set_option linter.all false
set_option maxRecDepth 100000
set_option maxHeartbeats 4000000
/-! enumerate of a tuple; max and min of a tuple of ints. -/
namespace E1
open PySem PySem.Spec PyProof.Rows L2 GX PySem.W
theorem meets_enum_of {v : Value} {o : Obj} {Hh : Heap → Prop} (B : Begins v o Hh) :
    Meets (Builtin.«enumerate.__new__» ⟨[.type "enumerate", v], []⟩) (fun _ R s => Hh s.heap ∧
      R (.ok (.ret (.ref (s.heap.push o).objs.size))) { s with heap := (s.heap.push o).push { cls := .type "enumerate", data := .fields #[.none, .bool false, .ref s.heap.objs.size, rawInt 0, .none, .none] } }) :=
  .of_wp fun prog w A R s h => by
    obtain ⟨hp, g, d, tk, os⟩ := s
    obtain ⟨h1, h⟩ := h
    have hsub := sub_enumerate
    have it_ : ∀ {A' : Around} {E : Value → Shared → Prop} {Q : Value → Shared → Prop}, Q (.ref hp.objs.size) ⟨hp.push o, g, d, tk, os⟩ → wpAny (model prog w) A' (pyIter v) Q E ⟨hp, g, d, tk, os⟩ :=
      fun q => B.iter prog w _ _ ⟨hp, g, d, tk, os⟩ _ h1 q
    wp_walk using it_
    refine wpAny_stack_any fun st => wpAny_pure ?_
    split
    · rename_i c _ _ _ _ _
      cases (c == Value.type "enumerate") <;> (wp_walk using it_; exact ⟨_, rfl, h⟩)
    · wp_walk using it_
      exact ⟨_, rfl, h⟩
theorem call_enum_tup {prog : Program} {w : World} {A : Around} {E : Value → Shared → Prop} {s : Shared} {l : Addr} {items : Array Value} {Q : Value → Shared → Prop} (hL : s.heap.IsTuple l items)
    (h : ∀ h', IsEnum h' (s.heap.objs.size + 1) s.heap.objs.size 0 .none → h'.IsTupleIter s.heap.objs.size l 0 → (∀ b o, s.heap.get? b = some o → h'.get? b = some o) → Q (.ref (s.heap.objs.size + 1)) { s with heap := h' }) :
    wpAny (model prog w) A (call (.type "enumerate") [.ref l]) Q E s := by
  refine callType_new F.called_enumerate (by decide) (F.typeCall_enumerate_1 _) (F.newCall_enumerate_1 _) (fun obj => F.args_object_init_2 obj _) F.entry_enumerate_new
    (meets_enum_of (begins_tuple l items)) ⟨hL, ?_⟩
  generalize hob : ({ cls := .type "tuple_iterator", data := .fields #[.ref l, .int 0 0] } : Obj) = ob
  have hf : ob.isFreed = false := by rw [← hob]; rfl
  have hz : (s.heap.push ob).objs.size = s.heap.objs.size + 1 := Heap.size_push ..
  show _ ∧ _
  rw [hz]
  have he : IsEnum ((s.heap.push ob).push { cls := .type "enumerate", data := .fields #[.none, .bool false, .ref s.heap.objs.size, rawInt 0, .none, .none] }) (s.heap.objs.size + 1) s.heap.objs.size 0 .none := by
    have := Heap.get?_push_size (s.heap.push ob) (o := { cls := .type "enumerate", data := .fields #[.none, .bool false, .ref s.heap.objs.size, rawInt 0, .none, .none] }) rfl
    rw [hz] at this
    exact this
  refine ⟨⟨_, he, rfl⟩, h _ he ?_ fun b o x => Heap.get?_push_of_some _ (Heap.get?_push_of_some _ x)⟩
  subst hob
  exact ⟨_, Heap.get?_push_of_some _ (Heap.get?_push_size _ rfl), rfl, rfl⟩
/-- the tuple at a, each item in a new pair -/
def IteT (K : PySem.W.Frag) (a : Addr) : It :=
  ⟨fun i H => ∃ (xs : List V) (x : V), SqT K H a xs ∧ xs[i]? = some x, fun i H v H' => ∃ T x, v = .ref T ∧ H T = none ∧ H' = upd H T (.tup [.int (i : Nat), x]) ∧ ∀ xs, SqT K H a xs → xs[i]? = some x, fun i H => ∃ xs : List V, SqT K H a xs ∧ xs.length ≤ i⟩
theorem apart {h : Heap} {a e it : Addr} {c : Int} {old : Value} {i : Nat} {items : Array Value} (he : IsEnum h e it c old) (hi : h.IsTupleIter it a i) (ht : h.IsTuple a items) : e ≠ a ∧ it ≠ a := by
  obtain ⟨o, ho, hc, _⟩ := ht
  constructor
  · intro z
    rw [z] at he
    have he : h.get? a = some _ := he
    rw [ho] at he
    cases he
    exact absurd hc (by simp)
  · intro z
    obtain ⟨o2, h2, c2, _⟩ := hi
    rw [z, ho] at h2
    cases h2
    rw [hc] at c2
    exact absurd c2 (by simp)
theorem turn_enumT {P : Program} {w : World} {K : PySem.W.Frag} {elts : List Expr} {kk : Nat} {tpos : Pos} (a e it : Addr) :
    Turn P w K (.Tuple elts kk tpos) (IteT K a) [e, it] e (fun i h => (∃ old, IsEnum h e it ((i : Nat) : Int) old) ∧ h.IsTupleIter it a i ∧ e ≠ it) where
  mem := by simp
  obj := fun i h st b hb => by
    obtain ⟨⟨old, he⟩, ⟨o, ho, hc, hd⟩, _⟩ := st
    rcases (show b = e ∨ b = it by simpa using hb) with z | z
    · rw [z]; exact ⟨_, he, fun v q => nomatch q⟩
    · rw [z]; exact ⟨o, ho, fun v q => by rw [hd] at q; cases q⟩
  keep := fun i h h' st k => let ⟨⟨old, he⟩, hi, hne⟩ := st; ⟨⟨old, k e (by simp) _ he⟩, hi.at fun o q => k it (by simp) o q, hne⟩
  item := by
    intro X hP hw hK hc i pins s σ H E I hf st hg
    subst hP hw hK
    obtain ⟨⟨old, he⟩, hit, hne⟩ := st
    obtain ⟨xs, x, hq, hx⟩ := hg
    obtain ⟨its, rv, p, hz⟩ := I.tuple hq
    obtain ⟨u, hu, ru⟩ := rv.get hx
    have p' : s.heap.IsTuple a its.toArray := p
    obtain ⟨n1, n2⟩ := apart he hit p'
    have hel : e < s.heap.objs.size := Heap.lt_size he
    have hil : it < s.heap.objs.size := by obtain ⟨_, q, _⟩ := hit; exact Heap.lt_size q
    have hlt : i < its.toArray.size := by
      have := (List.getElem?_eq_some_iff.mp hu).1
      simpa using this
    refine wpAny_pyNext_enum_itemC (Draws.tuple (A := X.A.in1) (I.ok.hd hc) it a (Ne.symm n2) its.toArray) he ⟨hit, p'⟩ hlt hne (by simp [hne, n1]) fun x' h' tk hx' ho hst hT hsz hk => ?_
    have ex : x' = u := by
      have hx' : its.toArray[i]? = some x' := hx'
      have : its[i]? = some x' := by simpa using hx'
      rw [hu] at this; exact (Option.some.inj this).symm
    subst ex
    refine ⟨_, rfl, wpAny_letOwnedTupleGo_enum (s := { s with heap := h', toks := tk + 1 }) ho fun h'' he' sb => ?_⟩
    have hT2 : h''.get? s.heap.objs.size = some { cls := .type "tuple", data := .seq #[.int i tk, x'] } := (sb.2 _ (Nat.ne_of_gt hel)).trans hT
    have new : ObjOk X.prog X.w (upd H s.heap.objs.size (.tup [.int (i : Nat), x])) h'' s.heap.objs.size (.tup [.int (i : Nat), x]) :=
      ⟨by show 2 ≤ sizeLine; decide, [.int i tk, x'], .cons ⟨_, rfl⟩ (.cons ru .nil), ⟨_, hT2, rfl, _, rfl⟩⟩
    have I1 : Inv X pins σ (upd H s.heap.objs.size (.tup [.int (i : Nat), x])) { s with heap := h'', toks := tk + 1 } :=
      I.turnedNew (ch := [e, it]) (fun b ob hb q => (sb.2 b (fun z => hb (by simp [z]))).trans (hk b ob (fun z => hb (by simp [z])) (fun z => hb (by simp [z])) q)) hf (Nat.le_refl _) new
    refine ⟨.ref s.heap.objs.size, _, I1, rfl, ⟨_, x, rfl, I.hok.fresh (Nat.le_refl _), rfl, fun ys hy => ?_⟩, ⟨⟨x', ?_⟩, hst.1.at fun o q => (sb.2 it (Ne.symm hne)).trans q, hne⟩, fun b hb => ?_⟩
    · rw [I.tuple_inj hy hq]; exact hx
    · have e1 : ((i + 1 : Nat) : Int) = (i : Int) + 1 := by omega
      rw [e1]; exact he'
    · have hb' : b < s.heap.objs.size := by
        rcases (show b = e ∨ b = it by simpa using hb) with z | z
        · rw [z]; exact hel
        · rw [z]; exact hil
      rw [upd_ne (Nat.ne_of_lt hb')]
      exact (hf b hb).1
  done := by
    intro X hP hw hK hc i pins s σ H E I hf st hg
    subst hP hw hK
    obtain ⟨⟨old, he⟩, hit, hne⟩ := st
    obtain ⟨xs, hq, hx⟩ := hg
    obtain ⟨its, rv, p, hz⟩ := I.tuple hq
    have p' : s.heap.IsTuple a its.toArray := p
    obtain ⟨n1, n2⟩ := apart he hit p'
    obtain ⟨f0, f1, f2, f3, f4, f5⟩ := hf it (by simp)
    have hl := rv.length
    have hT : s.TypeIs (.ref e) "enumerate" := ⟨_, he, rfl⟩
    unfold pyNext
    refine wpAny_bind (wpAny_attempt (wpAny_callSpecial?_slot (name := Str.ofString "__next__") hT F.slot_enumerate_next
      (wpAny_call_entry F.slot_enumerate_next hT F.entry_enumerate_next ?_ (F.args_enumerate_next_1 _))))
    show wpAny _ _ (field (.ref e) 2 >>= _) _ _ _
    refine wpAny_bind (wpAny_field he rfl (x := .ref it) rfl ?_)
    refine wpAny_bind (wpAny_nextOf_tuple_end (I.ok.hd hc) hit p' (by simp; omega) fun h' x eb hx' => ?_)
    obtain ⟨o, ho, hoc⟩ := hx'
    refine wpAny_bind (wpAny_isInstance (T := "StopIteration") (b := true) ⟨o, ho, hoc⟩ isSubtype_stop ?_)
    exact wpAny_pure ⟨rfl, I.turned (t' := s.toks) (fun b o hb q => eb b o hb q) f0 f1 f3 f4 f5⟩
  self := fun A i s Q E st h => let ⟨⟨_, he⟩, _⟩ := st; wpAny_pyIter_enum he h
def iEnumT (K : PySem.W.Frag) (ta : TA) : TI := fun σ H R => ta σ H fun vs H1 => ∃ a xs, vs = [.ref a] ∧ SqT K H1 a xs ∧ R (IteT K a) H1
theorem pi_enumT {X : Cx} {e : Expr} {ta : TA} {p pos tpos : Pos} {elts : List Expr} {kk : Nat} (hg : Gl X "enumerate") (hm : X.mg "enumerate" = none) (ha : PA X [e] ta) (hs : starEach [e] X.env = [(false, eval e X.env)]) :
    PI X (.Tuple elts kk tpos) (.Call (.Name "enumerate" p) [e] [] pos) (iEnumT X.K ta) := by
  refine ⟨fun pins s σ H R I h => ?_⟩
  refine Call_ (ld_blt I hg hm boot_enumerate (PyProof.Rows.callWith_type1 (thn (ha.run pos pins s σ H _ I h) fun us s1 ⟨vs, H1, I1, r1, q1⟩ => ?_) hs rfl))
  obtain ⟨a, xs, ex, hq, q⟩ := q1
  subst ex
  cases r1 with
  | cons r rr =>
    cases rr
    cases r
    obtain ⟨its, rv, p', hz⟩ := I1.tuple hq
    refine call_enum_tup (items := its.toArray) p' fun h' he hit hk => wpAny_pyIter_enum he ?_
    have I2 : Inv X pins σ H1 { s1 with heap := h' } := I1.kept (t' := s1.toks) hk
    refine ⟨s1.heap.objs.size + 1, [s1.heap.objs.size + 1, s1.heap.objs.size], _, _, H1, rfl, I2, turn_enumT a (s1.heap.objs.size + 1) s1.heap.objs.size, ⟨⟨.none, he⟩, hit, Nat.succ_ne_self _⟩, fun b hb => ?_, q⟩
    have hle : s1.heap.objs.size ≤ b := by
      rcases (show b = s1.heap.objs.size + 1 ∨ b = s1.heap.objs.size by simpa using hb) with z | z
      · rw [z]; exact Nat.le_add_right _ _
      · rw [z]; exact Nat.le_refl _
    exact I1.fpOk hle (I1.hok.fresh hle)
/-! max, min of a tuple of ints -/
def rMaxT (K : PySem.W.Frag) : List V → Hp → VK → Prop := fun vs H Q => ∃ (a : Addr) (ns : List Int), vs = [V.ref a] ∧ SqT K H a (ns.map V.int) ∧ 0 < ns.length ∧ ∀ m, m ∈ ns → (∀ y, y ∈ ns → y ≤ m) → Q (.int m) H
theorem reads_ints {h : Heap} : ∀ {ns : List Int} {us : List Value}, IntsAre us ns → ∃ as, ReadsAll h us (ns.map PyData.int) as
  | [], _, .nil => ⟨_, .nil⟩
  | _ :: _, _, .cons n t r => let ⟨as, q⟩ := reads_ints r; ⟨_, .cons (.int n t) q⟩
theorem depth_ints : ∀ ns : List Int, PyData.depthAll (ns.map PyData.int) = 0
  | [] => rfl
  | n :: ns => by
    show max (PyData.depth (.int n)) (PyData.depthAll (ns.map PyData.int)) = 0
    rw [depth_ints ns]; rfl
theorem alike_ints (ns : List Int) : AlikeAll (ns.map PyData.int) := ⟨fun x hx y hy => by
  obtain ⟨i, _, rfl⟩ := List.mem_map.mp hx
  obtain ⟨j, _, rfl⟩ := List.mem_map.mp hy
  rfl, fun x hx => by
  obtain ⟨i, _, rfl⟩ := List.mem_map.mp hx
  exact fun z => by cases z⟩
theorem foldl_max : ∀ (ns : List Int) (n : Int), ns.foldl max n ∈ n :: ns ∧ ∀ y ∈ n :: ns, y ≤ ns.foldl max n
  | [], n => by simp
  | k :: ns, n => by
    obtain ⟨h1, h2⟩ := foldl_max ns (max n k)
    show ns.foldl max (max n k) ∈ _ ∧ ∀ y ∈ n :: k :: ns, y ≤ ns.foldl max (max n k)
    have h3 := h2 _ List.mem_cons_self
    refine ⟨?_, fun y hy => ?_⟩
    · rcases List.mem_cons.mp h1 with e | e
      · rw [e]
        rcases Int.le_total n k with z | z
        · rw [Int.max_eq_right z]; simp
        · rw [Int.max_eq_left z]; simp
      · exact List.mem_cons_of_mem _ (List.mem_cons_of_mem _ e)
    · rcases List.mem_cons.mp hy with e | hy
      · rw [e]; exact Int.le_trans (Int.le_max_left _ _) h3
      · rcases List.mem_cons.mp hy with e | hy
        · rw [e]; exact Int.le_trans (Int.le_max_right _ _) h3
        · exact h2 y (List.mem_cons_of_mem _ hy)
theorem cr_maxT {X : Cx} (hc : X.calm = true) (hu : X.A.units + 64 < cLine) : CallR X (.builtin "max") (rMaxT X.K) := by
  intro pins s σ H vs us Q I r h
  obtain ⟨a, ns, rfl, hs, hne, q⟩ := h
  obtain ⟨its, rv, hl, _⟩ := I.tuple hs
  rw [Vals.ref1 r]
  cases ns with
  | nil => cases hne
  | cons n ns =>
    obtain ⟨as, hr⟩ := reads_ints (h := s.heap) rv.ints
    refine max_tuple_data (vs := its.toArray) (I.ok.hd hc) hl (by simpa using hr) (alike_ints (n :: ns)) (by have := depth_ints (n :: ns); simp only [List.map_cons] at this; rw [this]; omega) fun i v h' tk bs hv hr' hk => ?_
    rw [maxD_ints] at hr'
    obtain ⟨h1, h2⟩ := foldl_max ns n
    cases hr' with
    | int _ t => exact ⟨.int _, H, I.kept hk, ⟨_, rfl⟩, q _ h1 h2⟩
def rMinT (K : PySem.W.Frag) : List V → Hp → VK → Prop := fun vs H Q => ∃ (a : Addr) (ns : List Int), vs = [V.ref a] ∧ SqT K H a (ns.map V.int) ∧ 0 < ns.length ∧ ∀ m, m ∈ ns → (∀ y, y ∈ ns → m ≤ y) → Q (.int m) H
theorem foldl_min : ∀ (ns : List Int) (n : Int), ns.foldl min n ∈ n :: ns ∧ ∀ y ∈ n :: ns, ns.foldl min n ≤ y
  | [], n => by simp
  | k :: ns, n => by
    obtain ⟨h1, h2⟩ := foldl_min ns (min n k)
    show ns.foldl min (min n k) ∈ _ ∧ ∀ y ∈ n :: k :: ns, ns.foldl min (min n k) ≤ y
    have h3 := h2 _ List.mem_cons_self
    refine ⟨?_, fun y hy => ?_⟩
    · rcases List.mem_cons.mp h1 with e | e
      · rw [e]
        rcases Int.le_total n k with z | z
        · rw [Int.min_eq_left z]; simp
        · rw [Int.min_eq_right z]; simp
      · exact List.mem_cons_of_mem _ (List.mem_cons_of_mem _ e)
    · rcases List.mem_cons.mp hy with e | hy
      · rw [e]; exact Int.le_trans h3 (Int.min_le_left _ _)
      · rcases List.mem_cons.mp hy with e | hy
        · rw [e]; exact Int.le_trans h3 (Int.min_le_right _ _)
        · exact h2 y (List.mem_cons_of_mem _ hy)
theorem cr_minT {X : Cx} (hc : X.calm = true) (hu : X.A.units + 64 < cLine) : CallR X (.builtin "min") (rMinT X.K) := by
  intro pins s σ H vs us Q I r h
  obtain ⟨a, ns, rfl, hs, hne, q⟩ := h
  obtain ⟨its, rv, hl, _⟩ := I.tuple hs
  rw [Vals.ref1 r]
  cases ns with
  | nil => cases hne
  | cons n ns =>
    obtain ⟨as, hr⟩ := reads_ints (h := s.heap) rv.ints
    refine min_tuple_data (vs := its.toArray) (I.ok.hd hc) hl (by simpa using hr) (alike_ints (n :: ns)) (by have := depth_ints (n :: ns); simp only [List.map_cons] at this; rw [this]; omega) fun i v h' tk bs hv hr' hk => ?_
    rw [minD_ints] at hr'
    obtain ⟨h1, h2⟩ := foldl_min ns n
    cases hr' with
    | int _ t => exact ⟨.int _, H, I.kept hk, ⟨_, rfl⟩, q _ h1 h2⟩
end E1
end

section
set_option linter.all false
set_option maxRecDepth 100000
/-! My own small language: values, statements, and what they do. -/
namespace IX
open PySem

/-- plain data -/
inductive P where
  | non | bl (b : Bool) | int (i : Int) | str (s : Str) | tup (l : List P)
  deriving Inhabited
mutual
def P.dec : (a b : P) → Decidable (a = b)
  | .non, .non => .isTrue rfl
  | .bl a, .bl b => if h : a = b then .isTrue (by rw [h]) else .isFalse fun e => h (P.bl.inj e)
  | .int a, .int b => if h : a = b then .isTrue (by rw [h]) else .isFalse fun e => h (P.int.inj e)
  | .str a, .str b => if h : a = b then .isTrue (by rw [h]) else .isFalse fun e => h (P.str.inj e)
  | .tup a, .tup b => match P.decs a b with
    | .isTrue h => .isTrue (by rw [h])
    | .isFalse h => .isFalse fun e => h (P.tup.inj e)
  | .non, .bl _ | .non, .int _ | .non, .str _ | .non, .tup _ => .isFalse fun e => nomatch e
  | .bl _, .non | .bl _, .int _ | .bl _, .str _ | .bl _, .tup _ => .isFalse fun e => nomatch e
  | .int _, .non | .int _, .bl _ | .int _, .str _ | .int _, .tup _ => .isFalse fun e => nomatch e
  | .str _, .non | .str _, .bl _ | .str _, .int _ | .str _, .tup _ => .isFalse fun e => nomatch e
  | .tup _, .non | .tup _, .bl _ | .tup _, .int _ | .tup _, .str _ => .isFalse fun e => nomatch e
def P.decs : (a b : List P) → Decidable (a = b)
  | [], [] => .isTrue rfl
  | x :: xs, y :: ys => match P.dec x y, P.decs xs ys with
    | .isTrue h, .isTrue h' => .isTrue (by rw [h, h'])
    | .isFalse h, _ => .isFalse fun e => h (List.cons.inj e).1
    | _, .isFalse h => .isFalse fun e => h (List.cons.inj e).2
  | [], _ :: _ => .isFalse fun e => nomatch e
  | _ :: _, [] => .isFalse fun e => nomatch e
end
instance : DecidableEq P := P.dec

mutual
def P.toD : P → PyData
  | .non => .none
  | .bl b => .bool b
  | .int i => .int i
  | .str s => .str s
  | .tup l => .tuple (P.toDs l)
def P.toDs : List P → List PyData
  | [] => []
  | x :: xs => P.toD x :: P.toDs xs
end
/-- == of Python -/
def P.eqv (a b : P) : Bool := PyData.eqv a.toD b.toD
mutual
/-- the depth is small, texts are plain -/
def P.fit : Nat → P → Bool
  | _, .non | _, .bl _ | _, .int _ => true
  | _, .str x => PyData.strOk x
  | 0, .tup _ => false
  | k + 1, .tup l => P.fits k l
def P.fits : Nat → List P → Bool
  | _, [] => true
  | k, x :: xs => P.fit k x && P.fits k xs
end

/-- a value of a frame: data, the frame's own list number i, the script -/
inductive D where
  | p (x : P) | l (i : Nat) | scr (xs : List P)
  deriving Inhabited
abbrev Env := List (Option D)
/-- a frame's lists -/
abbrev Mem := List (List P)

inductive BO | add | sub | mul | fdiv | mod | pow deriving DecidableEq, Repr
inductive CO | eq | ne | lt | le | gt | ge | is | isnot | isin | notin deriving DecidableEq, Repr
inductive BI | len | abs | int | isint | isbool | istup | isstr | islist | max | min | sum | tuple | list | all | any | bool | str | sorted deriving DecidableEq, Repr
inductive IK | rng | seq | enm | zip deriving DecidableEq, Repr
inductive GK | tuple | sum | all | any deriving DecidableEq, Repr
inductive MT | append | pop | popi | insert | index | count | extend | reverse | remove deriving DecidableEq, Repr
inductive T | nm (i : Nat) | tp (l : List T)
  deriving Inhabited

inductive E where
  | v (i : Nat) | c (x : P) | g (n : Str)
  | bin (o : BO) (a b : E) | neg (a : E) | not (a : E)
  | cmp (o : CO) (a b : E) | cmp2 (o o' : CO) (a b c : E)
  | and (l : List E) | or (l : List E)
  | ife (t a b : E)
  | tup (l : List E) | lst (l : List E)
  | idx (a i : E) | slc (a : E) (lo hi : Option E)
  | call (f : Nat) (l : List E) (ix : List Nat)
  | bi (b : BI) (l : List E)
  | mt (m : MT) (o : E) (l : List E)
  | tru (a : E)
  | lc (vs : List Nat) (elt : E) (t : T) (k : IK) (src ifs : List E)
  | lc2 (vs : List Nat) (elt : E) (t : T) (k : IK) (src ifs : List E) (vs1 : List Nat) (t1 : T) (k1 : IK) (src1 ifs1 : List E)
  | gen (gk : GK) (vs : List Nat) (elt : E) (t : T) (k : IK) (src ifs : List E)
  deriving Inhabited
inductive S where
  | set (t : T) (e : E) | par (is : List Nat) (es : List E) | seti (o i e : E) | aug (i : Nat) (o : BO) (e : E) | augi (a i : E) (o : BO) (e : E)
  | ife (t : E) (a b : List S) | loop (t : T) (k : IK) (src : List E) (body : List S) | whl (t : E) (body : List S)
  | ret (e : E) | retn | ex (e : E) | brk | cnt | pas
  deriving Inhabited
structure Fn where
  np : Nat
  ns : Nat
  body : List S

/-! ### what they do -/
def one (x : P) (M : Mem) : Option (D × Mem) := some (.p x, M)
def newl (xs : List P) (M : Mem) : Option (D × Mem) := if xs.length ≤ sizeLine then some (.l M.length, M ++ [xs]) else none
def mulOk (i j : Int) : Bool := decide (i.natAbs.log2 + j.natAbs.log2 < 1000000)
def divOk (j : Int) : Bool := (decide (0 < j) && decide (j.natAbs.log2 < 9000)) || (decide (j ≠ 0) && decide (j.natAbs < 1073741824))
/-- all of them are data -/
def datas : List D → Option (List P)
  | [] => some []
  | .p x :: r => do
    let xs ← datas r
    some (x :: xs)
  | _ => none
/-- a list's items -/
def itemsL (M : Mem) : D → Option (List P)
  | .l i => M[i]?
  | .scr xs => some xs
  | _ => none
/-- the items of a list or a tuple -/
def items (M : Mem) : D → Option (List P)
  | .p (.tup l) => some l
  | .l i => M[i]?
  | .scr xs => some xs
  | _ => none
def binop : BO → D → D → Mem → Option (D × Mem)
  | .add, .p (.int a), .p (.int b), M => one (.int (a + b)) M
  | .add, .p (.tup a), .p (.tup b), M => if a.length + b.length ≤ sizeLine then one (.tup (a ++ b)) M else none
  | .add, .l i, .l j, M => do
    let a ← M[i]?
    let b ← M[j]?
    newl (a ++ b) M
  | .sub, .p (.int a), .p (.int b), M => one (.int (a - b)) M
  | .mul, .p (.int a), .p (.int b), M => if mulOk a b then one (.int (a * b)) M else none
  | .mul, .p (.tup a), .p (.int k), M => if decide (a ≠ []) && decide (2 ≤ k) && decide (k ≤ 1000) && decide (a.length ≤ 1000) then one (.tup (List.replicate k.toNat a).flatten) M else none
  | .mul, .l i, .p (.int k), M => do
    let a ← M[i]?
    if a.length * k.toNat ≤ sizeLine && decide (-(2 ^ 63) ≤ k) && decide (k < 2 ^ 63) then newl (List.replicate k.toNat a).flatten M else none
  | .fdiv, .p (.int a), .p (.int b), M => if divOk b then one (.int (a.fdiv b)) M else none
  | .mod, .p (.int a), .p (.int b), M => if b ≠ 0 then one (.int (a.fmod b)) M else none
  | .pow, .p (.int a), .p (.int b), M => if decide (0 ≤ b) && decide (b ≤ 1000000) && decide (a.natAbs < 2 ^ 64) then one (.int (a ^ b.toNat)) M else none
  | _, _, _, _ => none
/-- data that == compares -/
def eqd (M : Mem) : D → D → Option Bool
  | .p a, .p b => if a.fit 64 && b.fit 64 then some (a.eqv b) else none
  | .l i, .l j => do
    let a ← M[i]?
    let b ← M[j]?
    if P.fits 63 a && P.fits 63 b then some ((P.tup a).eqv (.tup b)) else none
  | _, _ => none
def flat : P → Bool
  | .tup _ => false
  | _ => true
def cmpop : CO → D → D → Mem → Option Bool
  | .eq, a, b, M => eqd M a b
  | .ne, a, b, M => (eqd M a b).map (!·)
  | .lt, .p (.int a), .p (.int b), _ => some (decide (a < b))
  | .le, .p (.int a), .p (.int b), _ => some (decide (a ≤ b))
  | .gt, .p (.int a), .p (.int b), _ => some (decide (b < a))
  | .ge, .p (.int a), .p (.int b), _ => some (decide (b ≤ a))
  | .is, .p a, .p .non, _ => some (decide (a = .non))
  | .isnot, .p a, .p .non, _ => some (!decide (a = .non))
  | .isin, .p a, s, M => do
    let xs ← items M s
    if flat a && xs.all flat then some (xs.any fun y => y.eqv a) else none
  | .notin, .p a, s, M => do
    let xs ← items M s
    if flat a && xs.all flat then some (!xs.any fun y => y.eqv a) else none
  | _, _, _, _ => none
def truth (M : Mem) : D → Option Bool
  | .p .non => some false
  | .p (.bl b) => some b
  | .p (.int i) => some (i != 0)
  | .p (.tup l) => some (!l.isEmpty)
  | .l i => M[i]?.map fun xs => !xs.isEmpty
  | .scr xs => some (!xs.isEmpty)
  | _ => none
/-- Python's index into n items -/
def pix (n : Nat) (i : Int) : Option Nat := if 0 ≤ i then (if i < n then some i.toNat else none) else if -(n : Int) ≤ i then some (i + n).toNat else none
def atx (xs : List P) (i : Int) : Option P := (pix xs.length i).bind fun j => xs[j]?
def clip (n d : Nat) : Option Int → Nat
  | none => d
  | some v => if v < 0 then (v + (n : Int)).toNat else min v.toNat n
def cutp (xs : List P) (lo hi : Option Int) : List P := (xs.drop (clip xs.length 0 lo)).take (clip xs.length xs.length hi - clip xs.length 0 lo)
def index (a i : D) (M : Mem) : Option P := match i with
  | .p (.int k) => (items M a).bind fun xs => atx xs k
  | _ => none
def slice (a : D) (lo hi : Option Int) (M : Mem) : Option (D × Mem) := match a with
  | .p (.tup l) => one (.tup (cutp l lo hi)) M
  | .l i => M[i]?.bind fun xs => newl (cutp xs lo hi) M
  | _ => none
def intsP : List P → Option (List Int)
  | [] => some []
  | .int i :: r => (intsP r).map (i :: ·)
  | _ => none
def truths : List P → Option (List Bool)
  | [] => some []
  | x :: r => do
    let b ← truth [] (.p x)
    let bs ← truths r
    some (b :: bs)
def maxI : Int → List Int → Int
  | a, [] => a
  | a, b :: r => maxI (if b > a then b else a) r
def minI : Int → List Int → Int
  | a, [] => a
  | a, b :: r => minI (if b < a then b else a) r
def bfun (b : BI) (xs : List D) (M : Mem) : Option (D × Mem) := match b, xs with
  | .len, [d] => (items M d).bind fun l => one (.int l.length) M
  | .abs, [.p (.int i)] => one (.int (if i < 0 then -i else i)) M
  | .int, [.p (.int i)] => one (.int i) M
  | .int, [.p (.bl b)] => one (.int (if b then 1 else 0)) M
  | .bool, [.p (.bl b)] => one (.bl b) M
  | .bool, [.p (.int i)] => one (.bl (i != 0)) M
  | .isint, [.p x] => one (.bl (match x with | .int _ => true | .bl _ => true | _ => false)) M
  | .isbool, [.p x] => one (.bl (match x with | .bl _ => true | _ => false)) M
  | .istup, [.p x] => one (.bl (match x with | .tup _ => true | _ => false)) M
  | .isstr, [.p x] => one (.bl (match x with | .str _ => true | _ => false)) M
  | .max, [.p (.int a), .p (.int b)] => one (.int (if b > a then b else a)) M
  | .min, [.p (.int a), .p (.int b)] => one (.int (if b < a then b else a)) M
  | .max, [d] => do
    let l ← items M d
    let is ← intsP l
    match is with
    | [] => none
    | a :: r => one (.int (maxI a r)) M
  | .min, [d] => do
    let l ← items M d
    let is ← intsP l
    match is with
    | [] => none
    | a :: r => one (.int (minI a r)) M
  | .sum, [d] => do
    let l ← itemsL M d
    let is ← intsP l
    one (.int is.sum) M
  | .tuple, [d] => (items M d).bind fun l => one (.tup l) M
  | .list, [d] => (items M d).bind fun l => newl l M
  | _, _ => none
/-- xs.m(..): the value, the list behind it -/
def mtf (m : MT) (xs : List P) (as : List D) : Option (P × List P) := match m, as with
  | .append, [.p x] => if xs.length < sizeLine then some (.non, xs ++ [x]) else none
  | _, _ => none
def seti (xs : List P) (i : Int) (x : P) : Option (List P) := (pix xs.length i).map fun j => xs.set j x

mutual
/-- the names a target stores -/
def T.slots : T → List Nat
  | .nm i => [i]
  | .tp l => T.slotss l
def T.slotss : List T → List Nat
  | [] => []
  | t :: ts => T.slots t ++ T.slotss ts
end
mutual
def T.put : T → P → Env → Option Env
  | .nm i, x, ρ => if i < ρ.length then some (ρ.set i (some (.p x))) else none
  | .tp ts, .tup l, ρ => T.puts ts l ρ
  | .tp _, _, _ => none
def T.puts : List T → List P → Env → Option Env
  | [], [], ρ => some ρ
  | t :: ts, x :: xs, ρ => (T.put t x ρ).bind fun ρ' => T.puts ts xs ρ'
  | _, _, _ => none
end
def T.putD (t : T) (d : D) (ρ : Env) : Option Env := match t, d with
  | .nm i, d => if i < ρ.length then some (ρ.set i (some d)) else none
  | t, .p x => t.put x ρ
  | _, _ => none
def wipeE (ρ : Env) : List Nat → Env
  | [] => ρ
  | v :: vs => (wipeE ρ vs).set v none

def noScr (ρ : Env) : Bool := ρ.all fun
  | some (.scr _) => false
  | _ => true
/-- what a loop walks: the items, and the lists that must stay as they are -/
structure Src where
  xs : List P
  ls : List (Nat × List P)
  fr : Bool := true
def Src.ok (s : Src) (M : Mem) : Bool := s.ls.all fun q => decide (M[q.1]? = some q.2)
def asSrc (M : Mem) : D → Option Src
  | .p (.tup l) => some ⟨l, [], true⟩
  | .l i => M[i]?.map fun xs => ⟨xs, [(i, xs)], true⟩
  | .scr xs => some ⟨xs, [], false⟩
  | _ => none
def small (i : Int) : Bool := decide (-(2 ^ 62) ≤ i) && decide (i < 2 ^ 62)
def rangeP (lo : Int) (n : Nat) : List P := (List.range n).map fun (k : Nat) => P.int (lo + (k : Int))
def enumP : Nat → List P → List P
  | _, [] => []
  | k, x :: r => .tup [.int k, x] :: enumP (k + 1) r
def zipP : List P → List P → List P
  | x :: xs, y :: ys => .tup [x, y] :: zipP xs ys
  | _, _ => []
def isTup : D → Bool
  | .p (.tup _) => true
  | _ => false
def src (k : IK) (ds : List D) (M : Mem) : Option Src := match k, ds with
  | .rng, [.p (.int n)] => if small n then some ⟨rangeP 0 n.toNat, [], true⟩ else none
  | .rng, [.p (.int a), .p (.int b)] => if small a && small b then some ⟨rangeP a (b - a).toNat, [], true⟩ else none
  | .seq, [d] => asSrc M d
  | .enm, [.p (.tup l)] => some ⟨enumP 0 l, [], true⟩
  | .enm, [d] => (asSrc M d).map fun s => ⟨enumP 0 s.xs, s.ls, s.fr⟩
  | .zip, [.p (.tup xs), .p (.tup ys)] => some ⟨zipP xs ys, [], true⟩
  | .zip, [a, b] => if isTup a || isTup b then none else do
    let s ← asSrc M a
    let t ← asSrc M b
    some ⟨zipP s.xs t.xs, s.ls ++ t.ls, s.fr && t.fr⟩
  | _, _ => none

/-- the callee's arguments: its lists are numbered as they come -/
def callIn : List D → Nat → List D × List Nat
  | [], _ => ([], [])
  | .l i :: r, n => let q := callIn r (n + 1); (.l n :: q.1, i :: q.2)
  | d :: r, n => let q := callIn r n; (d :: q.1, q.2)
def getAll {α : Type} (xs : List α) : List Nat → Option (List α)
  | [] => some []
  | i :: r => do
    let x ← xs[i]?
    let rs ← getAll xs r
    some (x :: rs)
def putAll (M : Mem) : List Nat → List (List P) → Mem
  | i :: is, x :: xs => putAll (M.set i x) is xs
  | _, _ => M
/-- behind the callee: d its value, Mc its lists (the first ones ours) -/
def callOut (is : List Nat) (d : D) (Mc M : Mem) : Option (D × Mem) := match d with
  | .p x => some (.p x, putAll M is Mc)
  | .l j => match is[j]? with
    | some i => some (.l i, putAll M is Mc)
    | none => Mc[j]?.bind fun xs => some (.l M.length, putAll M is Mc ++ [xs])
  | .scr _ => none

def turns (s : Src) (f : P → Mem → Option (List P × Mem)) : List P → Mem → Option (List P × Mem)
  | [], M => some ([], M)
  | x :: r, M => do
    let (o, M) ← f x M
    if s.ok M then do
      let (ys, M) ← turns s f r M
      some (o ++ ys, M)
    else none
def gturns (f : P → Option (Option P)) : List P → Option (List P)
  | [] => some []
  | x :: r => do
    let o ← f x
    let ys ← gturns f r
    some (o.toList ++ ys)
def gtest (stop : Bool) (f : P → Option (Option P)) : List P → Option Bool
  | [] => some (!stop)
  | x :: r => do
    let o ← f x
    match o with
    | none => gtest stop f r
    | some y => do
      let b ← truth [] (.p y)
      if b = stop then some stop else gtest stop f r
/-- what the consumer makes of it -/
def genEnd (gk : GK) (s : Src) (F : P → Option (Option P)) (M : Mem) : Option (D × Mem) := match gk with
  | .tuple => (gturns F s.xs).bind fun ys => if ys.length + 1 < sizeLine then some (.p (.tup ys), M) else none
  | .sum => (gturns F s.xs).bind fun ys => (intsP ys).bind fun is => if ys.length + 1 < sizeLine then some (.p (.int is.sum), M) else none
  | .all => if s.xs.length + 1 < sizeLine then (gtest false F s.xs).map fun b => (.p (.bl b), M) else none
  | .any => if s.xs.length + 1 < sizeLine then (gtest true F s.xs).map fun b => (.p (.bl b), M) else none
inductive Out where
  | nx (ρ : Env) (M : Mem) | rt (d : D) (M : Mem) | bk (ρ : Env) (M : Mem) | ct (ρ : Env) (M : Mem)

/-- a world of defs: what f gives for arguments and their lists -/
abbrev Wd := Nat → List D → Mem → Option (D × Mem)

section
variable (W : Wd) (G : Str → Option P) (N : Nat)
mutual
def evE : E → Env → Mem → Option (D × Mem)
  | .v i, ρ, M => match ρ[i]? with
    | some (some d) => some (d, M)
    | _ => none
  | .c x, _, M => some (.p x, M)
  | .g n, _, M => (G n).map fun x => (.p x, M)
  | .bin o a b, ρ, M => do
    let (x, M) ← evE a ρ M
    let (y, M) ← evE b ρ M
    binop o x y M
  | .neg a, ρ, M => do
    let (x, M) ← evE a ρ M
    match x with
    | .p (.int i) => some (.p (.int (-i)), M)
    | _ => none
  | .not a, ρ, M => do
    let (x, M) ← evE a ρ M
    let b ← truth M x
    some (.p (.bl (!b)), M)
  | .cmp o a b, ρ, M => do
    let (x, M) ← evE a ρ M
    let (y, M) ← evE b ρ M
    let r ← cmpop o x y M
    some (.p (.bl r), M)
  | .cmp2 o o' a b c, ρ, M => do
    let (x, M) ← evE a ρ M
    let (y, M) ← evE b ρ M
    let r ← cmpop o x y M
    if r then do
      let (z, M) ← evE c ρ M
      let r' ← cmpop o' y z M
      some (.p (.bl r'), M)
    else some (.p (.bl false), M)
  | .and l, ρ, M => evAnd l ρ M
  | .or l, ρ, M => evOr l ρ M
  | .ife t a b, ρ, M => do
    let (c, M) ← evT t ρ M
    if c then evE a ρ M else evE b ρ M
  | .tup l, ρ, M => do
    let (ds, M) ← evEs l ρ M
    let ps ← datas ds
    if ps.length ≤ sizeLine then some (.p (.tup ps), M) else none
  | .lst l, ρ, M => do
    let (ds, M) ← evEs l ρ M
    let ps ← datas ds
    newl ps M
  | .idx a i, ρ, M => do
    let (x, M) ← evE a ρ M
    let (y, M) ← evE i ρ M
    let r ← index x y M
    some (.p r, M)
  | .slc a lo hi, ρ, M => do
    let (x, M) ← evE a ρ M
    let (l, M) ← evO lo ρ M
    let (h, M) ← evO hi ρ M
    slice x l h M
  | .call f l ix, ρ, M => do
    let (ds, M) ← evEs l ρ M
    let as ← getAll ds ix
    let (bs, is) := callIn as 0
    if is.Nodup then do
      let Ms ← getAll M is
      let (d, Mc) ← W f bs Ms
      callOut is d Mc M
    else none
  | .bi b l, ρ, M => do
    let (ds, M) ← evEs l ρ M
    bfun b ds M
  | .mt m o l, ρ, M => do
    let (x, M) ← evE o ρ M
    let (ds, M) ← evEs l ρ M
    match x with
    | .l i => do
      let xs ← M[i]?
      let (r, ys) ← mtf m xs ds
      some (.p r, M.set i ys)
    | _ => none
  | .tru _, _, _ => none
  | .lc vs elt t k sr ifs, ρ, M => do
    let (ds, M) ← evEs sr ρ M
    let s ← src k ds M
    let (ys, M) ← turns s (fun x M => do
      let ρ' ← t.put x (wipeE ρ vs)
      let (b, M) ← evIfs ifs ρ' M
      if b then do
        let (y, M) ← evE elt ρ' M
        match y with
        | .p r => some ([r], M)
        | _ => none
      else some ([], M)) s.xs M
    newl ys M
  | .lc2 vs elt t k sr ifs vs1 t1 k1 sr1 ifs1, ρ, M => do
    let (ds, M) ← evEs sr ρ M
    let s ← src k ds M
    let (ys, M) ← turns s (fun x M => do
      let ρ' ← t.put x (wipeE ρ vs)
      let (b, M) ← evIfs ifs ρ' M
      if b then do
        let (ds1, M) ← evEs sr1 ρ' M
        let s1 ← src k1 ds1 M
        if noScr ρ' && s1.fr then
          turns s1 (fun x M => do
            let ρ2 ← t1.put x (wipeE ρ' vs1)
            let (b, M) ← evIfs ifs1 ρ2 M
            if b then do
              let (y, M) ← evE elt ρ2 M
              match y with
              | .p r => some ([r], M)
              | _ => none
            else some ([], M)) s1.xs M
        else none
      else some ([], M)) s.xs M
    newl ys M
  | .gen gk vs elt t k sr ifs, ρ, M => do
    let (ds, M) ← evEs sr ρ M
    let s ← src k ds M
    genEnd gk s (fun x => do
      let ρ' ← t.put x (wipeE ρ vs)
      let (b, M') ← evIfs ifs ρ' M
      if b then do
        let (y, M'') ← evE elt ρ' M'
        match y with
        | .p r => if M'' = M then some (some r) else none
        | _ => none
      else if M' = M then some none else none) M
def evEs : List E → Env → Mem → Option (List D × Mem)
  | [], _, M => some ([], M)
  | e :: es, ρ, M => do
    let (x, M) ← evE e ρ M
    let (xs, M) ← evEs es ρ M
    some (x :: xs, M)
def evO : Option E → Env → Mem → Option (Option Int × Mem)
  | none, _, M => some (none, M)
  | some e, ρ, M => do
    let (x, M) ← evE e ρ M
    match x with
    | .p (.int i) => some (some i, M)
    | _ => none
/-- an expression as a test -/
def evT : E → Env → Mem → Option (Bool × Mem)
  | .and l, ρ, M => evTAnd l ρ M
  | .or l, ρ, M => evTOr l ρ M
  | .not a, ρ, M => do
    let (b, M) ← evT a ρ M
    some (!b, M)
  | .cmp o a b, ρ, M => do
    let (x, M) ← evE a ρ M
    let (y, M) ← evE b ρ M
    let r ← cmpop o x y M
    some (r, M)
  | .cmp2 o o' a b c, ρ, M => do
    let (x, M) ← evE a ρ M
    let (y, M) ← evE b ρ M
    let r ← cmpop o x y M
    if r then do
      let (z, M) ← evE c ρ M
      let r' ← cmpop o' y z M
      some (r', M)
    else some (false, M)
  | .tru a, ρ, M => do
    let (x, M) ← evE a ρ M
    let r ← truth M x
    some (r, M)
  | _, _, _ => none
def evTAnd : List E → Env → Mem → Option (Bool × Mem)
  | [], _, _ => none
  | [e], ρ, M => evT e ρ M
  | e :: es, ρ, M => do
    let (b, M) ← evT e ρ M
    if b then evTAnd es ρ M else some (false, M)
def evTOr : List E → Env → Mem → Option (Bool × Mem)
  | [], _, _ => none
  | [e], ρ, M => evT e ρ M
  | e :: es, ρ, M => do
    let (b, M) ← evT e ρ M
    if b then some (true, M) else evTOr es ρ M
def evAnd : List E → Env → Mem → Option (D × Mem)
  | [], _, _ => none
  | [e], ρ, M => evE e ρ M
  | e :: es, ρ, M => do
    let (x, M) ← evE e ρ M
    match x with
    | .p (.bl true) => evAnd es ρ M
    | .p (.bl false) => some (.p (.bl false), M)
    | _ => none
def evOr : List E → Env → Mem → Option (D × Mem)
  | [], _, _ => none
  | [e], ρ, M => evE e ρ M
  | e :: es, ρ, M => do
    let (x, M) ← evE e ρ M
    match x with
    | .p (.bl true) => some (.p (.bl true), M)
    | .p (.bl false) => evOr es ρ M
    | _ => none
def evIfs : List E → Env → Mem → Option (Bool × Mem)
  | [], _, M => some (true, M)
  | [c], ρ, M => evT c ρ M
  | _, _, _ => none
end

def forL (s : Src) (f : P → Env → Mem → Option Out) : List P → Env → Mem → Option Out
  | [], ρ, M => some (.nx ρ M)
  | x :: r, ρ, M => do
    match ← f x ρ M with
    | .nx ρ M => if s.ok M then forL s f r ρ M else none
    | .ct ρ M => if s.ok M then forL s f r ρ M else none
    | .bk ρ M => some (.nx ρ M)
    | .rt d M => some (.rt d M)
def whileL (c : Env → Mem → Option (Bool × Mem)) (f : Env → Mem → Option Out) : Nat → Env → Mem → Option Out
  | 0, _, _ => none
  | n + 1, ρ, M => do
    let (b, M) ← c ρ M
    if b then
      match ← f ρ M with
      | .nx ρ M => whileL c f n ρ M
      | .ct ρ M => whileL c f n ρ M
      | .bk ρ M => some (.nx ρ M)
      | .rt d M => some (.rt d M)
    else some (.nx ρ M)
def parE : List Nat → List D → Env → Option Env
  | [], [], ρ => some ρ
  | i :: is, d :: ds, ρ => if i < ρ.length then parE is ds (ρ.set i (some d)) else none
  | _, _, _ => none
/-- x op= y of ints -/
def augop (o : BO) (x y : D) : Option P := match o, x, y with
  | .add, .p (.int a), .p (.int b) => some (.int (a + b))
  | .sub, .p (.int a), .p (.int b) => some (.int (a - b))
  | _, _, _ => none
mutual
def evS : S → Env → Mem → Option Out
  | .set t e, ρ, M => do
    let (d, M) ← evE W G e ρ M
    let ρ' ← t.putD d ρ
    some (.nx ρ' M)
  | .par is es, ρ, M => do
    let (ds, M) ← evEs W G es ρ M
    let ρ' ← parE is ds ρ
    some (.nx ρ' M)
  | .seti o i e, ρ, M => do
    let (d, M) ← evE W G e ρ M
    let (x, M) ← evE W G o ρ M
    let (k, M) ← evE W G i ρ M
    match x, k, d with
    | .l j, .p (.int k), .p v => do
      let xs ← M[j]?
      let ys ← seti xs k v
      some (.nx ρ (M.set j ys))
    | _, _, _ => none
  | .aug i o e, ρ, M => do
    match ρ[i]? with
    | some (some x) => do
      let (y, M) ← evE W G e ρ M
      let z ← augop o x y
      some (.nx (ρ.set i (some (.p z))) M)
    | _ => none
  | .augi a i o e, ρ, M => do
    let (x, M) ← evE W G a ρ M
    let (k, M) ← evE W G i ρ M
    let old ← index x k M
    let (y, M) ← evE W G e ρ M
    let z ← augop o (.p old) y
    match x, k with
    | .l j, .p (.int k) => do
      let xs ← M[j]?
      let ys ← seti xs k z
      some (.nx ρ (M.set j ys))
    | _, _ => none
  | .ife t a b, ρ, M => do
    let (c, M) ← evT W G t ρ M
    if c then evSs a ρ M else evSs b ρ M
  | .loop t k sr body, ρ, M => do
    let (ds, M) ← evEs W G sr ρ M
    let s ← src k ds M
    forL s (fun x ρ M => (t.put x ρ).bind fun ρ' => evSs body ρ' M) s.xs ρ M
  | .whl t body, ρ, M => whileL (fun ρ M => evT W G t ρ M) (fun ρ M => evSs body ρ M) N ρ M
  | .ret e, ρ, M => do
    let (d, M) ← evE W G e ρ M
    some (.rt d M)
  | .retn, _, M => some (.rt (.p .non) M)
  | .ex e, ρ, M => do
    let (_, M) ← evE W G e ρ M
    some (.nx ρ M)
  | .brk, ρ, M => some (.bk ρ M)
  | .cnt, ρ, M => some (.ct ρ M)
  | .pas, ρ, M => some (.nx ρ M)
def evSs : List S → Env → Mem → Option Out
  | [], ρ, M => some (.nx ρ M)
  | s :: r, ρ, M => do
    match ← evS s ρ M with
    | .nx ρ M => evSs r ρ M
    | o => some o
end
end
def entry (fn : Fn) (ds : List D) : Env := ds.map some ++ List.replicate (fn.ns - fn.np) none
def fin : Out → Option (D × Mem)
  | .rt d M => some (d, M)
  | .nx _ M => some (.p .non, M)
  | _ => none
def evF (Φ : Nat → Option Fn) (G : Str → Option P) (N : Nat) : Nat → Wd
  | 0 => fun _ _ _ => none
  | k + 1 => fun f ds M => (Φ f).bind fun fn => if ds.length = fn.np then (evSs (evF Φ G N k) G N fn.body (entry fn ds) M).bind fin else none
end IX
end

section
set_option Elab.async false
set_option linter.all false
set_option maxRecDepth 100000
set_option maxHeartbeats 4000000
/-! How the small language's values lie in the heap. -/
namespace IX
open PySem PySem.Spec PyProof.Rows L2 GX
mutual
def RP (K : PySem.W.Frag) (H : Hp) : P → V → Prop
  | .non, v => v = .non
  | .bl b, v => v = .bl b
  | .int i, v => v = .int i
  | .str x, v => v = .str x
  | .tup l, v => ∃ a vs, v = .ref a ∧ SqT K H a vs ∧ RPs K H l vs
def RPs (K : PySem.W.Frag) (H : Hp) : List P → List V → Prop
  | [], [] => True
  | x :: xs, v :: vs => RP K H x v ∧ RPs K H xs vs
  | _, _ => False
end
def RD (K : PySem.W.Frag) (H : Hp) (α : List Addr) : D → V → Prop
  | .p x, v => RP K H x v
  | .l i, v => ∃ a, α[i]? = some a ∧ v = .ref a
  | .scr xs, v => ∃ a vs, v = .ref a ∧ ((Rd H a (.lst vs) ∧ a ∉ α) ∨ SqL K (fun _ => none) a vs) ∧ RPs K H xs vs
def RDs (K : PySem.W.Frag) (H : Hp) (α : List Addr) : List D → List V → Prop
  | [], [] => True
  | x :: xs, v :: vs => RD K H α x v ∧ RDs K H α xs vs
  | _, _ => False
structure RM (K : PySem.W.Frag) (H : Hp) (α : List Addr) (M : Mem) : Prop where
  nd : α.Nodup
  len : α.length = M.length
  cell : ∀ (i : Nat) (a : Addr) (xs : List P), α[i]? = some a → M[i]? = some xs → ∃ vs, H a = some (.lst vs) ∧ RPs K H xs vs
structure REnv (K : PySem.W.Frag) (H : Hp) (α : List Addr) (ρ : Env) (σ : L2.St) : Prop where
  len : ρ.length = σ.length
  cell : ∀ (i : Nat) (d : D), ρ[i]? = some (some d) → ∃ v, σ[i]? = some (some v) ∧ RD K H α d v
/-- from (α, H) to (α', H'): the frame's lists may change, lists may come -/
structure Nx (K : PySem.W.Frag) (α : List Addr) (H : Hp) (α' : List Addr) (H' : Hp) (M' : Mem) : Prop where
  grow : Grow α H H'
  ext : ∃ β, α' = α ++ β ∧ ∀ b ∈ β, H b = none
  mem : RM K H' α' M'
  tab : TabAll H'
/-- the tables of the module's code objects are tracked -/
def Trk (K : PySem.W.Frag) (H : Hp) : Prop := ∀ c P, PySem.W.codeHdIn K c P = true → ∃ ps, H P = some (.tbl ps)
structure RSt (K : PySem.W.Frag) (base : Heap) (code : Value) (σ : L2.St) (H : Hp) (ρ : Env) (M : Mem) (α : List Addr) : Prop where
  env : REnv K H α ρ σ
  mem : RM K H α M
  tab : TabAll H
  code : CodeAt base H code
  trk : Trk K H
abbrev RS (X : Cx) (σ : L2.St) (H : Hp) (ρ : Env) (M : Mem) (α : List Addr) : Prop := RSt X.K X.base X.env.code σ H ρ M α

section
variable {K : PySem.W.Frag} {H H' : Hp} {α α' : List Addr} {M M' : Mem}
theorem RM.lst (m : RM K H α M) {a : Addr} (h : a ∈ α) : ∃ vs, H a = some (.lst vs) := by
  obtain ⟨i, hi, e⟩ := List.mem_iff_getElem.mp h
  have h1 : α[i]? = some a := by rw [← e]; exact List.getElem?_eq_getElem hi
  have h2 : i < M.length := by rw [← m.len]; exact hi
  obtain ⟨vs, q, _⟩ := m.cell i a _ h1 (List.getElem?_eq_getElem h2)
  exact ⟨vs, q⟩
theorem grow_at {b : Addr} {o : HO} (na : ∀ b ∈ α, ∃ xs, H b = some (.lst xs)) (g : Grow α H H') (h : H b = some o) (hn : b ∉ α) (ht : ∀ ps, o ≠ .tbl ps) : H' b = some o := by
  rcases g b o h with q | q | ⟨⟨ps, q⟩, _⟩
  · exact absurd q hn
  · exact q
  · exact absurd q (ht ps)
theorem grow_some {b : Addr} {o : HO} (m : RM K H' α' M') (hs : ∀ b ∈ α, b ∈ α') (g : Grow α H H') (h : H b = some o) : ∃ o', H' b = some o' := by
  rcases g b o h with q | q | ⟨_, ps, q⟩
  · obtain ⟨vs, e⟩ := m.lst (hs b q); exact ⟨_, e⟩
  · exact ⟨_, q⟩
  · exact ⟨_, q⟩
theorem rd_tup {a : Addr} {xs : List V} (na : ∀ b ∈ α, ∃ xs, H b = some (.lst xs)) (g : Grow α H H') (h : Rd H a (.tup xs)) : Rd H' a (.tup xs) := by
  rcases h with h | ⟨o, h⟩
  · refine .inl (grow_at na g h (fun z => ?_) fun ps e => by cases e)
    obtain ⟨ys, e⟩ := na a z
    rw [h] at e; cases e
  · refine .inr ⟨o, grow_at na g h (fun z => ?_) fun ps e => by cases e⟩
    obtain ⟨ys, e⟩ := na a z
    rw [h] at e; cases e
theorem sqt_grow {a : Addr} {xs : List V} (na : ∀ b ∈ α, ∃ xs, H b = some (.lst xs)) (g : Grow α H H') (h : SqT K H a xs) : SqT K H' a xs := by
  rcases h with h | h
  · exact .inl (rd_tup na g h)
  · exact .inr h
mutual
theorem RP.grow (na : ∀ b ∈ α, ∃ xs, H b = some (.lst xs)) (g : Grow α H H') : ∀ (x : P) (v : V), RP K H x v → RP K H' x v
  | .non, _, h => h
  | .bl _, _, h => h
  | .int _, _, h => h
  | .str _, _, h => h
  | .tup l, v, h => by
    unfold RP at h ⊢
    obtain ⟨a, vs, e, q, r⟩ := h
    exact ⟨a, vs, e, sqt_grow na g q, RPs.grow na g l vs r⟩
theorem RPs.grow (na : ∀ b ∈ α, ∃ xs, H b = some (.lst xs)) (g : Grow α H H') : ∀ (xs : List P) (vs : List V), RPs K H xs vs → RPs K H' xs vs
  | [], [], _ => by unfold RPs; trivial
  | x :: xs, v :: vs, h => by
    unfold RPs at h ⊢
    exact ⟨RP.grow na g x v h.1, RPs.grow na g xs vs h.2⟩
  | [], _ :: _, h => by unfold RPs at h; exact h.elim
  | _ :: _, [], h => by unfold RPs at h; exact h.elim
end
theorem sql_none {a : Addr} {vs : List V} (h : SqL K (fun _ => none) a vs) : SqL K H a vs := by
  rcases h with (h | ⟨o, h⟩) | h
  · cases h
  · cases h
  · exact .inr h
theorem rdl_grow {a : Addr} {vs : List V} (na : ∀ b ∈ α, ∃ xs, H b = some (.lst xs)) (g : Grow α H H') (h : Rd H a (.lst vs)) (hn : a ∉ α) : Rd H' a (.lst vs) := by
  rcases h with h | ⟨o, h⟩
  · exact .inl (grow_at na g h hn fun ps e => by cases e)
  · exact .inr ⟨o, grow_at na g h hn fun ps e => by cases e⟩
theorem Nx.rd (n : Nx K α H α' H' M') (m : RM K H α M) : ∀ {d : D} {v : V}, RD K H α d v → RD K H' α' d v := fun {d v} h => by
  have na : ∀ b ∈ α, ∃ xs, H b = some (.lst xs) := fun b hb => m.lst hb
  obtain ⟨β, eβ, fβ⟩ := n.ext
  cases d with
  | p x => exact RP.grow na n.grow x v h
  | l i =>
    obtain ⟨a, e, q⟩ := h
    refine ⟨a, ?_, q⟩
    rw [eβ, List.getElem?_append_left]
    · exact e
    · exact (List.getElem?_eq_some_iff.mp e).1
  | scr xs =>
    obtain ⟨a, vs, e, q, r⟩ := h
    refine ⟨a, vs, e, ?_, RPs.grow na n.grow _ _ r⟩
    rcases q with ⟨q, hn⟩ | q
    · refine .inl ⟨rdl_grow na n.grow q hn, fun z => ?_⟩
      rw [eβ] at z
      rcases List.mem_append.mp z with z | z
      · exact hn z
      · have := fβ a z
        rcases q with q | ⟨o, q⟩ <;> rw [this] at q <;> cases q
    · exact .inr q
theorem Nx.rds (n : Nx K α H α' H' M') (m : RM K H α M) : ∀ {ds : List D} {vs : List V}, RDs K H α ds vs → RDs K H' α' ds vs
  | [], [], _ => trivial
  | _ :: _, _ :: _, h => ⟨n.rd m h.1, n.rds m h.2⟩
  | [], _ :: _, h => h.elim
  | _ :: _, [], h => h.elim
theorem Nx.env (n : Nx K α H α' H' M') (m : RM K H α M) {ρ : Env} {σ : L2.St} (e : REnv K H α ρ σ) : REnv K H' α' ρ σ := ⟨e.len, fun i d h => by
  obtain ⟨v, q, r⟩ := e.cell i d h
  exact ⟨v, q, n.rd m r⟩⟩
theorem Nx.refl (m : RM K H α M) (t : TabAll H) : Nx K α H α H M := ⟨Grow.refl H, ⟨[], by simp, fun b h => by simp at h⟩, m, t⟩
theorem Nx.trans {α'' : List Addr} {H'' : Hp} {M'' : Mem} (m : RM K H α M) (a : Nx K α H α' H' M') (b : Nx K α' H' α'' H'' M'') : Nx K α H α'' H'' M'' := by
  obtain ⟨β, e1, f1⟩ := a.ext
  obtain ⟨γ, e2, f2⟩ := b.ext
  refine ⟨fun c o h => ?_, ⟨β ++ γ, by rw [e2, e1, List.append_assoc], fun c hc => ?_⟩, b.mem, b.tab⟩
  · have hβ : c ∉ β := fun z => by rw [f1 c z] at h; cases h
    rcases a.grow c o h with q | q | ⟨q, ps, q'⟩
    · exact .inl q
    · rcases b.grow c o q with r | r | r
      · rw [e1] at r
        rcases List.mem_append.mp r with r | r
        · exact .inl r
        · exact absurd r hβ
      · exact .inr (.inl r)
      · exact .inr (.inr r)
    · rcases b.grow c _ q' with r | r | ⟨_, r⟩
      · rw [e1] at r
        rcases List.mem_append.mp r with r | r
        · exact .inl r
        · exact absurd r hβ
      · exact .inr (.inr ⟨q, ps, r⟩)
      · exact .inr (.inr ⟨q, r⟩)
  · rcases List.mem_append.mp hc with z | z
    · exact f1 c z
    · cases e : H c with
      | none => rfl
      | some o =>
        obtain ⟨o', q⟩ := grow_some a.mem (fun b hb => by rw [e1]; exact List.mem_append_left _ hb) a.grow e
        rw [f2 c z] at q; cases q
theorem tabPut {p : Addr} {o : HO} (t : TabAll H) (hp : H p = none ∨ ∃ xs, H p = some (.lst xs)) (ho : ∀ ps, o ≠ .tbl ps) : TabAll (upd H p o) := fun Pa ps e => by
  have key : ∀ b u, H b = some u → (∀ xs, u ≠ .lst xs) → upd H p o b = some u := fun b u q hn => by
    rw [upd_ne]
    · exact q
    · intro z
      rw [z] at q
      rcases hp with w | ⟨xs, w⟩ <;> rw [w] at q <;> cases q
      exact hn xs rfl
  by_cases h : Pa = p
  · rw [h, upd_same] at e
    cases e
    exact absurd rfl (ho ps)
  · rw [upd_ne h] at e
    obtain ⟨k1, k2⟩ := t Pa ps e
    refine ⟨k1, fun pos cv z => ?_⟩
    obtain ⟨c, P', ob, q1, q2, q3, q4, ps', q5⟩ := k2 pos cv z
    exact ⟨c, P', ob, q1, q2, key c _ q3 (fun xs z => by cases z), q4, ps', key P' _ q5 fun xs z => by cases z⟩
/-- a new tuple -/
theorem grow_new {p : Addr} {o : HO} (hp : H p = none) : Grow α H (upd H p o) := fun b u e => .inr (.inl (by
  rw [upd_ne]
  · exact e
  · intro z; rw [z, hp] at e; cases e))
theorem RM.grow0 (m : RM K H α M) (g : Grow [] H H') : RM K H' α M := ⟨m.nd, m.len, fun i a xs e1 e2 => by
  obtain ⟨vs, q, r⟩ := m.cell i a xs e1 e2
  exact ⟨vs, grow_at (α := []) (fun b hb => by simp at hb) g q (by simp) (fun ps z => by cases z), RPs.grow (α := []) (fun b hb => by simp at hb) g _ _ r⟩⟩
theorem Nx.new (m : RM K H α M) (t : TabAll H) {p : Addr} {o : HO} (hp : H p = none) (ho : ∀ ps, o ≠ .tbl ps) : Nx K α H α (upd H p o) M :=
  ⟨grow_new hp, ⟨[], by simp, fun b h => by simp at h⟩, m.grow0 (grow_new hp), tabPut t (.inl hp) ho⟩
theorem RPs.length : ∀ {xs : List P} {vs : List V}, RPs K H xs vs → xs.length = vs.length
  | [], [], _ => rfl
  | _ :: xs, _ :: vs, h => by
    unfold RPs at h
    rw [List.length_cons, List.length_cons, RPs.length h.2]
  | [], _ :: _, h => by unfold RPs at h; exact h.elim
  | _ :: _, [], h => by unfold RPs at h; exact h.elim
/-- a new list, the frame's -/
theorem Nx.newl (m : RM K H α M) (t : TabAll H) {p : Addr} {xs : List P} {vs : List V} (hp : H p = none) (r : RPs K H xs vs) : Nx K α H (α ++ [p]) (upd H p (.lst vs)) (M ++ [xs]) := by
  have n := Nx.new m t (o := .lst vs) hp fun ps z => by cases z
  have g0 : Grow [] H (upd H p (.lst vs)) := grow_new hp
  refine ⟨n.grow, ⟨[p], rfl, fun b h => by rw [List.mem_singleton.mp h]; exact hp⟩, ⟨?_, ?_, fun i a ys e1 e2 => ?_⟩, n.tab⟩
  · refine List.nodup_append.mpr ⟨m.nd, by simp, fun a ha b hb => ?_⟩
    rw [List.mem_singleton.mp hb]
    intro z
    obtain ⟨ws, e⟩ := m.lst ha
    rw [z, hp] at e; cases e
  · simp [m.len]
  · by_cases hi : i < α.length
    · rw [List.getElem?_append_left hi] at e1
      rw [List.getElem?_append_left (by rw [← m.len]; exact hi)] at e2
      exact n.mem.cell i a ys e1 e2
    · have hi' : i = α.length := by
        have := (List.getElem?_eq_some_iff.mp e1).1
        simp at this; omega
      subst hi'
      rw [List.getElem?_append_right (Nat.le_refl _)] at e1
      rw [List.getElem?_append_right (by rw [m.len]; exact Nat.le_refl _)] at e2
      simp at e1
      simp [m.len] at e2
      subst e1; subst e2
      exact ⟨vs, upd_same .., RPs.grow (α := []) (fun b hb => by simp at hb) g0 _ _ r⟩
theorem RPs.append : ∀ {xs ys : List P} {vs ws : List V}, RPs K H xs vs → RPs K H ys ws → RPs K H (xs ++ ys) (vs ++ ws)
  | [], _, [], _, _, h => h
  | _ :: _, _, _ :: _, _, h, h' => by
    unfold RPs at h
    show RPs K H (_ :: _) (_ :: _)
    unfold RPs
    exact ⟨h.1, RPs.append h.2 h'⟩
  | [], _, _ :: _, _, h, _ => by unfold RPs at h; exact h.elim
  | _ :: _, _, [], _, h, _ => by unfold RPs at h; exact h.elim
theorem RPs.get : ∀ {xs : List P} {vs : List V} {i : Nat} {x : P}, RPs K H xs vs → xs[i]? = some x → ∃ v, vs[i]? = some v ∧ RP K H x v
  | [], _, _, _, _, e => by simp at e
  | x :: xs, v :: vs, 0, y, h, e => by
    unfold RPs at h
    simp at e; subst e
    exact ⟨v, rfl, h.1⟩
  | x :: xs, v :: vs, i + 1, y, h, e => by
    unfold RPs at h
    simp at e
    simpa using RPs.get h.2 e
  | _ :: _, [], _, _, h, _ => by unfold RPs at h; exact h.elim
theorem RPs.set : ∀ {xs : List P} {vs : List V} {i : Nat} {x : P} {v : V}, RPs K H xs vs → RP K H x v → RPs K H (xs.set i x) (vs.set i v)
  | [], [], _, _, _, _, _ => by simp [RPs]
  | y :: xs, w :: vs, 0, x, v, h, r => by
    unfold RPs at h
    show RPs K H (_ :: _) (_ :: _)
    unfold RPs
    exact ⟨r, h.2⟩
  | y :: xs, w :: vs, i + 1, x, v, h, r => by
    unfold RPs at h
    show RPs K H (_ :: _) (_ :: _)
    unfold RPs
    exact ⟨h.1, RPs.set h.2 r⟩
  | [], _ :: _, _, _, _, h, _ => by unfold RPs at h; exact h.elim
  | _ :: _, [], _, _, _, h, _ => by unfold RPs at h; exact h.elim
theorem RPs.drop : ∀ {xs : List P} {vs : List V} (n : Nat), RPs K H xs vs → RPs K H (xs.drop n) (vs.drop n)
  | _, _, 0, h => h
  | [], [], _ + 1, _ => by simp [RPs]
  | _ :: _, _ :: _, n + 1, h => by
    unfold RPs at h
    exact RPs.drop n h.2
  | [], _ :: _, _ + 1, h => by unfold RPs at h; exact h.elim
  | _ :: _, [], _ + 1, h => by unfold RPs at h; exact h.elim
theorem RPs.take : ∀ {xs : List P} {vs : List V} (n : Nat), RPs K H xs vs → RPs K H (xs.take n) (vs.take n)
  | _, _, 0, h => by simp [RPs]
  | [], [], _ + 1, _ => by simp [RPs]
  | _ :: _, _ :: _, n + 1, h => by
    unfold RPs at h
    show RPs K H (_ :: _) (_ :: _)
    unfold RPs
    exact ⟨h.1, RPs.take n h.2⟩
  | [], _ :: _, _ + 1, h => by unfold RPs at h; exact h.elim
  | _ :: _, [], _ + 1, h => by unfold RPs at h; exact h.elim
theorem RPs.rep {xs : List P} {vs : List V} (h : RPs K H xs vs) : ∀ n : Nat, RPs K H (List.replicate n xs).flatten (List.replicate n vs).flatten
  | 0 => by simp [RPs]
  | n + 1 => by
    rw [List.replicate_succ, List.replicate_succ, List.flatten_cons, List.flatten_cons]
    exact h.append (RPs.rep h n)
/-- the frame's list i is written -/
theorem Nx.write (m : RM K H α M) (t : TabAll H) {i : Nat} {a : Addr} {xs ys : List P} {ws : List V} (ha : α[i]? = some a) (hM : M[i]? = some xs) (r : RPs K H ys ws) : Nx K α H α (upd H a (.lst ws)) (M.set i ys) := by
  obtain ⟨vs, hv, _⟩ := m.cell i a xs ha hM
  have mem : a ∈ α := List.mem_of_getElem? ha
  have g : Grow α H (upd H a (.lst ws)) := fun b o e => by
    by_cases hb : b = a
    · exact .inl (by rw [hb]; exact mem)
    · exact .inr (.inl (by rw [upd_ne hb]; exact e))
  have na : ∀ b ∈ α, ∃ xs, H b = some (.lst xs) := fun b hb => m.lst hb
  refine ⟨g, ⟨[], by simp, fun b h => by simp at h⟩, ⟨m.nd, by rw [List.length_set]; exact m.len, fun j b zs e1 e2 => ?_⟩, tabPut t (.inr ⟨vs, hv⟩) fun ps z => by cases z⟩
  by_cases hj : i = j
  · subst hj
    rw [ha] at e1; cases e1
    rw [List.getElem?_set_self (List.getElem?_eq_some_iff.mp hM).1] at e2
    cases e2
    exact ⟨ws, upd_same .., RPs.grow na g _ _ r⟩
  · rw [List.getElem?_set_ne hj] at e2
    obtain ⟨us, q, r'⟩ := m.cell j b zs e1 e2
    refine ⟨us, ?_, RPs.grow na g _ _ r'⟩
    rw [upd_ne]
    · exact q
    · intro z
      subst z
      exact hj ((List.getElem?_inj (List.getElem?_eq_some_iff.mp ha).1 m.nd).mp (ha.trans e1.symm))
theorem Trk.grow (x : Trk K H) (g : Grow α H H') (na : ∀ b ∈ α, ∃ xs, H b = some (.lst xs)) : Trk K H' := fun c P h => by
  obtain ⟨ps, e⟩ := x c P h
  rcases g P _ e with q | q | ⟨_, q⟩
  · obtain ⟨xs, e'⟩ := na P q
    rw [e] at e'; cases e'
  · exact ⟨ps, q⟩
  · exact q
theorem RSt.step {base : Heap} {code : Value} {σ : L2.St} {ρ : Env} (s : RSt K base code σ H ρ M α) (n : Nx K α H α' H' M') : RSt K base code σ H' ρ M' α' :=
  ⟨n.env s.mem s.env, n.mem, n.tab, s.code.grow n.grow fun b hb => s.mem.lst hb, s.trk.grow n.grow fun b hb => s.mem.lst hb⟩
theorem RSt.with {base : Heap} {code : Value} {σ σ' : L2.St} {ρ ρ' : Env} (s : RSt K base code σ H ρ M α) (e : REnv K H α ρ' σ') : RSt K base code σ' H ρ' M α := ⟨e, s.mem, s.tab, s.code, s.trk⟩
theorem items_rd {d : D} {v : V} {l : List P} (m : RM K H α M) (h : RD K H α d v) (e : items M d = some l) : ∃ a vs, v = .ref a ∧ (SqL K H a vs ∨ SqT K H a vs) ∧ RPs K H l vs := by
  cases d with
  | p x =>
    cases x with
    | tup xs =>
      cases e
      have h : RP K H (.tup l) v := h
      unfold RP at h
      obtain ⟨a, vs, e1, q, r⟩ := h
      exact ⟨a, vs, e1, .inr q, r⟩
    | _ => cases e
  | l i =>
    obtain ⟨a, ea, rfl⟩ := h
    obtain ⟨vs, q, r⟩ := m.cell i a l ea e
    exact ⟨a, vs, rfl, .inl (.inl (.inl q)), r⟩
  | scr xs =>
    cases e
    obtain ⟨a, vs, rfl, q, r⟩ := h
    refine ⟨a, vs, rfl, .inl ?_, r⟩
    rcases q with ⟨q, _⟩ | q
    · exact .inl q
    · exact sql_none q
end
end IX
end

section
set_option autoImplicit false
set_option Elab.async false
set_option linter.all false
set_option maxRecDepth 100000
set_option maxHeartbeats 4000000
/-! Expressions without calls of defs and without comprehensions. -/
namespace IX
open PySem PySem.Spec PyProof.Rows L2 GX
def tI (X : Cx) (f : Env → Mem → Option (D × Mem)) : TE := fun σ H Q => ∃ ρ M α d M', RS X σ H ρ M α ∧ f ρ M = some (d, M') ∧
  ∀ v H' α', Nx X.K α H α' H' M' → RD X.K H' α' d v → Q v H'
def tIT (X : Cx) (f : Env → Mem → Option (Bool × Mem)) : TT := fun σ H Q => ∃ ρ M α b M', RS X σ H ρ M α ∧ f ρ M = some (b, M') ∧
  ∀ H' α', Nx X.K α H α' H' M' → Q b H'
def tIA (X : Cx) (f : Env → Mem → Option (List D × Mem)) : TA := fun σ H Q => ∃ ρ M α ds M', RS X σ H ρ M α ∧ f ρ M = some (ds, M') ∧
  ∀ vs H' α', Nx X.K α H α' H' M' → RDs X.K H' α' ds vs → Q vs H'
def tIO (X : Cx) (f : Env → Mem → Option (Option Int × Mem)) : TO := fun σ H Q => ∃ ρ M α o M', RS X σ H ρ M α ∧ f ρ M = some (o, M') ∧
  ∀ H' α', Nx X.K α H α' H' M' → Q o H'
theorem ob {A B : Type} {o : Option A} {k : A → Option B} {r : B} (h : (o >>= k) = some r) : ∃ x, o = some x ∧ k x = some r := by
  cases o with
  | none => cases h
  | some x => exact ⟨x, rfl, h⟩
theorem _root_.L2.PE.weak {X : Cx} {e : Expr} {t t' : TE} (h : PE X e t) (w : ∀ σ H Q, t' σ H Q → t σ H Q) : PE X e t' := ⟨fun pins s σ H Q I q => h.run pins s σ H Q I (w σ H Q q)⟩
theorem _root_.L2.PT.weak {X : Cx} {e : Expr} {t t' : TT} (h : PT X e t) (w : ∀ σ H Q, t' σ H Q → t σ H Q) : PT X e t' := ⟨fun pins s σ H Q I q => h.run pins s σ H Q I (w σ H Q q)⟩
theorem _root_.L2.PW.weak {X : Cx} {e : Expr} {t t' : TT} (h : PW X e t) (w : ∀ σ H Q, t' σ H Q → t σ H Q) : PW X e t' := ⟨fun wh pins s σ H Q I q => h.run wh pins s σ H Q I (w σ H Q q)⟩
theorem _root_.L2.PA.weak {X : Cx} {e : List Expr} {t t' : TA} (h : PA X e t) (w : ∀ σ H Q, t' σ H Q → t σ H Q) : PA X e t' := ⟨fun pos pins s σ H Q I q => h.run pos pins s σ H Q I (w σ H Q q)⟩
theorem _root_.L2.PO.weak {X : Cx} {e : Option Expr} {t t' : TO} (h : PO X e t) (w : ∀ σ H Q, t' σ H Q → t σ H Q) : PO X e t' := ⟨fun pins s σ H Q I q => h.run pins s σ H Q I (w σ H Q q)⟩
theorem _root_.L2.PS.weak {X : Cx} {e : Stmt} {t t' : TS} (h : PS X e t) (w : ∀ D σ H, t' D σ H → t D σ H) : PS X e t' := ⟨fun pins s σ H Q I q => h.run pins s σ H Q I (w Q σ H q)⟩
theorem _root_.L2.PSs.weak {X : Cx} {e : List Stmt} {t t' : TS} (h : PSs X e t) (w : ∀ D σ H, t' D σ H → t D σ H) : PSs X e t' := ⟨fun pins s σ H Q I q => h.run pins s σ H Q I (w Q σ H q)⟩

section
variable {X : Cx} {a b c e : Expr} {es : List Expr} {pos : Pos} {fa fb fc : Env → Mem → Option (D × Mem)} {ta tb tc : Env → Mem → Option (Bool × Mem)} {fs : Env → Mem → Option (List D × Mem)}
theorem tI.use {σ : L2.St} {H : Hp} {ρ : Env} {M M' : Mem} {α : List Addr} {d : D} {Q : VK} {f : Env → Mem → Option (D × Mem)} (r : RS X σ H ρ M α) (h : f ρ M = some (d, M'))
    (q : ∀ v H' α', Nx X.K α H α' H' M' → RD X.K H' α' d v → RS X σ H' ρ M' α' → Q v H') : tI X f σ H Q := ⟨ρ, M, α, d, M', r, h, fun v H' α' n rd => q v H' α' n rd (r.step n)⟩
theorem tIT.use {σ : L2.St} {H : Hp} {ρ : Env} {M M' : Mem} {α : List Addr} {d : Bool} {Q : Bool → Hp → Prop} {f : Env → Mem → Option (Bool × Mem)} (r : RS X σ H ρ M α) (h : f ρ M = some (d, M'))
    (q : ∀ H' α', Nx X.K α H α' H' M' → RS X σ H' ρ M' α' → Q d H') : tIT X f σ H Q := ⟨ρ, M, α, d, M', r, h, fun H' α' n => q H' α' n (r.step n)⟩
theorem tIA.use {σ : L2.St} {H : Hp} {ρ : Env} {M M' : Mem} {α : List Addr} {ds : List D} {Q : List V → Hp → Prop} {f : Env → Mem → Option (List D × Mem)} (r : RS X σ H ρ M α) (h : f ρ M = some (ds, M'))
    (q : ∀ vs H' α', Nx X.K α H α' H' M' → RDs X.K H' α' ds vs → RS X σ H' ρ M' α' → Q vs H') : tIA X f σ H Q := ⟨ρ, M, α, ds, M', r, h, fun v H' α' n rd => q v H' α' n rd (r.step n)⟩
theorem tIO.use {σ : L2.St} {H : Hp} {ρ : Env} {M M' : Mem} {α : List Addr} {d : Option Int} {Q : Option Int → Hp → Prop} {f : Env → Mem → Option (Option Int × Mem)} (r : RS X σ H ρ M α) (h : f ρ M = some (d, M'))
    (q : ∀ H' α', Nx X.K α H α' H' M' → RS X σ H' ρ M' α' → Q d H') : tIO X f σ H Q := ⟨ρ, M, α, d, M', r, h, fun H' α' n => q H' α' n (r.step n)⟩

theorem s_var {i : Nat} {x : Str} (hN : X.N[i]? = some x) (hv : Vis X.env.scope x) (hd : (x == ("__debug__" : Str)) = false) (hcd : (x == ("__classdict__" : Str)) = false) :
    PE X (.Name x pos) (tI X fun ρ M => match ρ[i]? with | some (some d) => some (d, M) | _ => none) := (pe_var hN hv hd hcd).weak fun σ H Q h => by
  obtain ⟨ρ, M, α, d, M', r, e, q⟩ := h
  dsimp only at e
  split at e
  · rename_i d' h'
    cases e
    obtain ⟨v, e1, e2⟩ := r.env.cell i d h'
    exact ⟨v, e1, q v H α (Nx.refl r.mem r.tab) e2⟩
  · cases e
theorem s_const {x : P} {v : V} (h : PE X e (tC v)) (hr : ∀ H, RP X.K H x v) : PE X e (tI X fun _ M => some (.p x, M)) := h.weak fun σ H Q h => by
  obtain ⟨ρ, M, α, d, M', r, e, q⟩ := h
  cases e
  exact q v H α (Nx.refl r.mem r.tab) (hr H)

def OpI (X : Cx) (r : R2) (g : D → D → Mem → Option (D × Mem)) : Prop := ∀ H α M x y v u d M' Q, RM X.K H α M → TabAll H → RD X.K H α x v → RD X.K H α y u → g x y M = some (d, M') →
  (∀ w H' α', Nx X.K α H α' H' M' → RD X.K H' α' d w → Q w H') → r v u H Q
theorem s_op2 {r : R2} {g : D → D → Mem → Option (D × Mem)} (h : PE X e (tOp r (tI X fa) (tI X fb))) (hr : OpI X r g) :
    PE X e (tI X fun ρ M => do
      let (x, M) ← fa ρ M
      let (y, M) ← fb ρ M
      g x y M) := h.weak fun σ H Q h => by
  obtain ⟨ρ, M, α, d, M', r0, e, q⟩ := h
  obtain ⟨⟨x, M1⟩, e1, e⟩ := ob e
  obtain ⟨⟨y, M2⟩, e2, e⟩ := ob e
  refine tI.use r0 e1 fun v H1 α1 n1 d1 r1 => tI.use r1 e2 fun u H2 α2 n2 d2 r2 => ?_
  refine hr H2 α2 M2 x y v u d M' Q r2.mem r2.tab (n2.rd r1.mem d1) d2 e fun w H' α' n3 d3 => ?_
  exact q w H' α' ((n1.trans r0.mem n2).trans r0.mem n3) d3
theorem s_bin {r : R2} {o : Operator} {bo : BO} (ha : PE X a (tI X fa)) (hb : PE X b (tI X fb)) (ho : OpR X (binaryOp o) r) (hr : OpI X r (binop bo)) :
    PE X (.BinOp a o b pos) (tI X fun ρ M => do
      let (x, M) ← fa ρ M
      let (y, M) ← fb ρ M
      binop bo x y M) := s_op2 (pe_op ho ha hb) hr

/-! the operations -/
theorem one_some {x : P} {M M' : Mem} {d : D} (h : one x M = some (d, M')) : d = .p x ∧ M' = M := by cases h; exact ⟨rfl, rfl⟩
theorem newl_some {xs : List P} {M M' : Mem} {d : D} (h : newl xs M = some (d, M')) : xs.length ≤ sizeLine ∧ d = .l M.length ∧ M' = M ++ [xs] := by
  unfold newl at h
  split at h
  · rename_i hl; cases h; exact ⟨hl, rfl, rfl⟩
  · cases h
theorem rd_int {K : PySem.W.Frag} {H : Hp} {α : List Addr} {i : Int} {v : V} (h : RD K H α (.p (.int i)) v) : v = .int i := h
theorem rd_tuple {K : PySem.W.Frag} {H : Hp} {α : List Addr} {l : List P} {v : V} (h : RD K H α (.p (.tup l)) v) : ∃ a vs, v = .ref a ∧ SqT K H a vs ∧ RPs K H l vs := by
  have h : RP K H (.tup l) v := h
  unfold RP at h; exact h
theorem rd_list {K : PySem.W.Frag} {H : Hp} {α : List Addr} {M : Mem} {i : Nat} {v : V} {xs : List P} (m : RM K H α M) (h : RD K H α (.l i) v) (e : M[i]? = some xs) : ∃ a vs, v = .ref a ∧ α[i]? = some a ∧ H a = some (.lst vs) ∧ RPs K H xs vs := by
  obtain ⟨a, ea, rfl⟩ := h
  obtain ⟨vs, q, r⟩ := m.cell i a xs ea e
  exact ⟨a, vs, rfl, ea, q, r⟩
theorem rps_nil {K : PySem.W.Frag} {H : Hp} {vs : List V} (h : RPs K H [] vs) : vs = [] := by
  cases vs with
  | nil => rfl
  | cons v vs => unfold RPs at h; exact h.elim
theorem rps_nil2 {K : PySem.W.Frag} {H : Hp} {xs : List P} (h : RPs K H xs []) : xs = [] := List.length_eq_zero_iff.mp h.length
theorem rps_ne {K : PySem.W.Frag} {H : Hp} {xs : List P} {vs : List V} (h : RPs K H xs vs) (hn : xs ≠ []) : vs ≠ [] := by
  rintro rfl
  have := h.length
  cases xs with
  | nil => exact hn rfl
  | cons _ _ => simp at this
/-- the new tuple that came -/
theorem new_tup {K : PySem.W.Frag} {H : Hp} {α : List Addr} {M : Mem} {l : List P} {vs : List V} {Q : VK} (m : RM K H α M) (t : TabAll H) (r : RPs K H l vs) (q : ∀ w H' α', Nx K α H α' H' M → RD K H' α' (.p (.tup l)) w → Q w H') :
    ∀ p, H p = none → Q (.ref p) (upd H p (.tup vs)) := fun p hp => by
  refine q _ _ α (Nx.new m t hp fun ps z => by cases z) ?_
  show RP K _ (.tup l) _
  unfold RP
  exact ⟨p, vs, rfl, .inl (.inl (upd_same ..)), RPs.grow (α := []) (fun b hb => by simp at hb) (grow_new hp) _ _ r⟩
theorem new_lst {K : PySem.W.Frag} {H : Hp} {α : List Addr} {M : Mem} {l : List P} {vs : List V} {Q : VK} (m : RM K H α M) (t : TabAll H) (r : RPs K H l vs) (q : ∀ w H' α', Nx K α H α' H' (M ++ [l]) → RD K H' α' (.l M.length) w → Q w H') :
    ∀ p, H p = none → Q (.ref p) (upd H p (.lst vs)) := fun p hp => by
  refine q _ _ _ (Nx.newl m t hp r) ⟨p, ?_, rfl⟩
  rw [← m.len, List.getElem?_append_right (Nat.le_refl _)]
  simp
/-- nothing happened -/
theorem stay {K : PySem.W.Frag} {H : Hp} {α : List Addr} {M : Mem} {d : D} {Q : VK} {v : V} (m : RM K H α M) (t : TabAll H) (r : RD K H α d v) (q : ∀ w H' α', Nx K α H α' H' M → RD K H' α' d w → Q w H') : Q v H := q v H α (Nx.refl m t) r

theorem oi_add : OpI X (fun x y H Q => rI0 (fun i j => .int (i + j)) x y H Q ∨ rCatA X.K x y H Q ∨ rCat x y H Q) (binop .add) := by
  intro H α M x y v u d M' Q m t rx ry h q
  unfold binop at h
  split at h <;> try contradiction
  · obtain ⟨rfl, rfl⟩ := one_some h
    exact .inl ⟨_, _, rx, ry, stay m t (d := .p _) (by exact rfl) q⟩
  · split at h <;> try contradiction
    rename_i hl
    obtain ⟨rfl, rfl⟩ := one_some h
    obtain ⟨p, vs, rfl, s1, r1⟩ := rd_tuple rx
    obtain ⟨p', us, rfl, s2, r2⟩ := rd_tuple ry
    refine .inr (.inl ⟨p, p', vs, us, rfl, rfl, s1, s2, by rw [← r1.length, ← r2.length]; exact hl, fun e => ?_, fun _ e => ?_, fun _ _ => new_tup m t (r1.append r2) q⟩)
    · subst e
      refine stay m t (d := .p _) ?_ q
      show RP _ _ (.tup _) _
      rw [rps_nil2 r1]
      unfold RP
      exact ⟨p', us, rfl, s2, r2⟩
    · subst e
      refine stay m t (d := .p _) ?_ q
      show RP _ _ (.tup _) _
      rw [rps_nil2 r2, List.append_nil]
      unfold RP
      exact ⟨p, vs, rfl, s1, r1⟩
  · obtain ⟨xs, e1, h⟩ := ob h
    obtain ⟨ys, e2, h⟩ := ob h
    obtain ⟨hl, rfl, rfl⟩ := newl_some h
    obtain ⟨p, vs, rfl, _, s1, r1⟩ := rd_list m rx e1
    obtain ⟨p', us, rfl, _, s2, r2⟩ := rd_list m ry e2
    refine .inr (.inr ⟨p, p', vs, us, rfl, rfl, s1, s2, ?_, new_lst m t (r1.append r2) q⟩)
    rw [List.length_append, r1.length, r2.length] at hl
    exact hl
theorem or_add : OpR X (binaryOp .Add) (fun x y H Q => rI0 (fun i j => .int (i + j)) x y H Q ∨ rCatA X.K x y H Q ∨ rCat x y H Q) := op_add.or (op_catA.or op_cat)
theorem oi_sub : OpI X (rI0 fun i j => .int (i - j)) (binop .sub) := by
  intro H α M x y v u d M' Q m t rx ry h q
  unfold binop at h
  split at h <;> try contradiction
  obtain ⟨rfl, rfl⟩ := one_some h
  exact ⟨_, _, rx, ry, stay m t (d := .p _) (by exact rfl) q⟩
theorem oi_mul : OpI X (fun x y H Q => rI CMulW (fun i j => .int (i * j)) x y H Q ∨ rRepT X.K x y H Q ∨ rRep x y H Q) (binop .mul) := by
  intro H α M x y v u d M' Q m t rx ry h q
  unfold binop at h
  split at h <;> try contradiction
  · split at h <;> try contradiction
    rename_i hm
    obtain ⟨rfl, rfl⟩ := one_some h
    exact .inl ⟨_, _, rx, ry, (of_decide_eq_true hm : _), stay m t (d := .p _) (by exact rfl) q⟩
  · split at h <;> try contradiction
    rename_i hm
    obtain ⟨rfl, rfl⟩ := one_some h
    simp only [Bool.and_eq_true, decide_eq_true_eq] at hm
    obtain ⟨⟨⟨h1, h2⟩, h3⟩, h4⟩ := hm
    obtain ⟨p, vs, rfl, s1, r1⟩ := rd_tuple rx
    exact .inr (.inl ⟨p, _, vs, rfl, rd_int ry, s1, rps_ne r1 h1, h2, h3, by rw [← r1.length]; exact h4, new_tup m t (r1.rep _) q⟩)
  · obtain ⟨xs, e1, h⟩ := ob h
    split at h <;> try contradiction
    rename_i hm
    obtain ⟨hl, rfl, rfl⟩ := newl_some h
    simp only [Bool.and_eq_true, decide_eq_true_eq] at hm
    obtain ⟨⟨h1, h2⟩, h3⟩ := hm
    obtain ⟨p, vs, rfl, _, s1, r1⟩ := rd_list m rx e1
    exact .inr (.inr ⟨p, _, vs, rfl, rd_int ry, s1, h2, h3, by rw [← r1.length]; exact h1, new_lst m t (r1.rep _) q⟩)
theorem or_mul : OpR X (binaryOp .Mult) (fun x y H Q => rI CMulW (fun i j => .int (i * j)) x y H Q ∨ rRepT X.K x y H Q ∨ rRep x y H Q) := op_mulW.or (op_repT.or op_rep)
theorem oi_div : OpI X (fun x y H Q => rI CDivW (fun i j => .int (i / j)) x y H Q ∨ rI CDivN (fun i j => .int (i.fdiv j)) x y H Q) (binop .fdiv) := by
  intro H α M x y v u d M' Q m t rx ry h q
  unfold binop at h
  split at h <;> try contradiction
  split at h <;> try contradiction
  rename_i hm
  obtain ⟨rfl, rfl⟩ := one_some h
  unfold divOk at hm
  simp only [Bool.or_eq_true, Bool.and_eq_true, decide_eq_true_eq] at hm
  rcases hm with ⟨h1, h2⟩ | hm
  · refine .inl ⟨_, _, rx, ry, ⟨h1, h2⟩, ?_⟩
    show Q (.int (_ / _)) H
    rw [← Int.fdiv_eq_ediv_of_nonneg _ (Int.le_of_lt h1)]
    exact stay m t (d := .p _) (by exact rfl) q
  · exact .inr ⟨_, _, rx, ry, hm, stay m t (d := .p _) (by exact rfl) q⟩
theorem or_div : OpR X (binaryOp .FloorDiv) (fun x y H Q => rI CDivW (fun i j => .int (i / j)) x y H Q ∨ rI CDivN (fun i j => .int (i.fdiv j)) x y H Q) := op_fdivW.or op_fdivN
theorem oi_mod : OpI X (rI (fun _ j => j ≠ 0) fun i j => .int (i.fmod j)) (binop .mod) := by
  intro H α M x y v u d M' Q m t rx ry h q
  unfold binop at h
  split at h <;> try contradiction
  split at h <;> try contradiction
  rename_i hm
  obtain ⟨rfl, rfl⟩ := one_some h
  exact ⟨_, _, rx, ry, hm, stay m t (d := .p _) (by exact rfl) q⟩
theorem oi_pow : OpI X (rI CPow fun i j => .int (i ^ j.toNat)) (binop .pow) := by
  intro H α M x y v u d M' Q m t rx ry h q
  unfold binop at h
  split at h <;> try contradiction
  split at h <;> try contradiction
  rename_i hm
  obtain ⟨rfl, rfl⟩ := one_some h
  simp only [Bool.and_eq_true, decide_eq_true_eq] at hm
  exact ⟨_, _, rx, ry, ⟨hm.1.1, hm.1.2, hm.2⟩, stay m t (d := .p _) (by exact rfl) q⟩
end
end IX
end

section
set_option Elab.async false
set_option autoImplicit false
set_option linter.all false
set_option maxRecDepth 100000
set_option maxHeartbeats 4000000
/-! Comparisons, truth, displays, subscripts. -/
namespace IX
open PySem PySem.Spec PyProof.Rows L2 GX
mutual
theorem fit_ok : ∀ (k : Nat) (x : P), x.fit k = true → x.toD.canLay0 = true ∧ x.toD.depth ≤ k
  | _, .non, _ | _, .bl _, _ | _, .int _, _ => by simp [P.toD, PyData.canLay0, PyData.depth]
  | _, .str x, h => by
    have h : PyData.strOk x = true := by simpa [P.fit] using h
    simp [P.toD, PyData.canLay0, PyData.depth, h]
  | 0, .tup l, h => by simp [P.fit] at h
  | k + 1, .tup l, h => by
    have h : P.fits k l = true := by simpa [P.fit] using h
    have := fits_ok k l h
    simp only [P.toD, PyData.canLay0, PyData.depth]
    exact ⟨this.1, Nat.succ_le_succ this.2⟩
theorem fits_ok : ∀ (k : Nat) (xs : List P), P.fits k xs = true → PyData.canLayAll0 (P.toDs xs) = true ∧ PyData.depthAll (P.toDs xs) ≤ k
  | _, [], _ => by simp [P.toDs, PyData.canLayAll0, PyData.depthAll]
  | k, x :: xs, h => by
    have h : P.fit k x = true ∧ P.fits k xs = true := by simpa [P.fits] using h
    have h1 := fit_ok k x h.1
    have h2 := fits_ok k xs h.2
    simp only [P.toDs, PyData.canLayAll0, PyData.depthAll, h1.1, h2.1, Bool.and_true]
    exact ⟨trivial, Nat.max_le.mpr ⟨h1.2, h2.2⟩⟩
end
mutual
theorem rp_dp {K : PySem.W.Frag} {H : Hp} : ∀ (x : P) (v : V), RP K H x v → Dp K H v x.toD
  | .non, v, h => by unfold RP at h; subst h; simp only [P.toD]; exact .non
  | .bl b, v, h => by unfold RP at h; subst h; simp only [P.toD]; exact .bl b
  | .int b, v, h => by unfold RP at h; subst h; simp only [P.toD]; exact .int b
  | .str b, v, h => by unfold RP at h; subst h; simp only [P.toD]; exact .str b
  | .tup l, v, h => by
    unfold RP at h
    obtain ⟨a, vs, rfl, q, r⟩ := h
    simp only [P.toD]
    exact .tup q (rps_dp l vs r)
theorem rps_dp {K : PySem.W.Frag} {H : Hp} : ∀ (xs : List P) (vs : List V), RPs K H xs vs → DpAll K H vs (P.toDs xs)
  | [], [], _ => by simp only [P.toDs]; exact .nil
  | x :: xs, v :: vs, h => by
    unfold RPs at h
    simp only [P.toDs]
    exact .cons (rp_dp x v h.1) (rps_dp xs vs h.2)
  | [], _ :: _, h => by unfold RPs at h; exact h.elim
  | _ :: _, [], h => by unfold RPs at h; exact h.elim
end
theorem eqd_ok {K : PySem.W.Frag} {H : Hp} {α : List Addr} {M : Mem} {x y : D} {v u : V} {b : Bool} (m : RM K H α M) (rx : RD K H α x v) (ry : RD K H α y u) (h : eqd M x y = some b) :
    ∃ d e, Dp K H v d ∧ Dp K H u e ∧ SeqAt.shaped d = true ∧ SeqAt.shaped e = true ∧ PyData.eqv d e = b := by
  unfold eqd at h
  split at h <;> try contradiction
  · rename_i a c
    split at h <;> try contradiction
    rename_i hf
    cases h
    rw [Bool.and_eq_true] at hf
    have h1 := fit_ok _ _ hf.1
    have h2 := fit_ok _ _ hf.2
    exact ⟨_, _, rp_dp a v rx, rp_dp c u ry, by simp [SeqAt.shaped, h1], by simp [SeqAt.shaped, h2], rfl⟩
  · obtain ⟨xs, e1, h⟩ := ob h
    obtain ⟨ys, e2, h⟩ := ob h
    split at h <;> try contradiction
    rename_i hf
    cases h
    rw [Bool.and_eq_true] at hf
    obtain ⟨p, vs, rfl, _, s1, r1⟩ := rd_list m rx e1
    obtain ⟨p', us, rfl, _, s2, r2⟩ := rd_list m ry e2
    have h1 := fits_ok _ _ hf.1
    have h2 := fits_ok _ _ hf.2
    refine ⟨_, _, .lst (.inl (.inl s1)) (rps_dp _ _ r1), .lst (.inl (.inl s2)) (rps_dp _ _ r2), ?_, ?_, ?_⟩
    · have := h1.2
      simp [SeqAt.shaped, PyData.canLay0, PyData.depth, h1.1]; exact this
    · have := h2.2
      simp [SeqAt.shaped, PyData.canLay0, PyData.depth, h2.1]; exact this
    · simp only [P.eqv, P.toD, PyData.eqv]
theorem flat_ok {K : PySem.W.Frag} {H : Hp} {x : P} {v : V} (r : RP K H x v) (h : flat x = true) : flatV v = true := by
  cases x <;> first | (unfold RP at r; subst r; rfl) | cases h
theorem flats_ok {K : PySem.W.Frag} {H : Hp} : ∀ {xs : List P} {vs : List V}, RPs K H xs vs → xs.all flat = true → vs.all flatV = true
  | [], [], _, _ => rfl
  | x :: xs, v :: vs, r, h => by
    unfold RPs at r
    rw [List.all_cons, Bool.and_eq_true] at h
    rw [List.all_cons, flat_ok r.1 h.1, flats_ok r.2 h.2]; rfl
  | [], _ :: _, h, _ => by unfold RPs at h; exact h.elim
  | _ :: _, [], h, _ => by unfold RPs at h; exact h.elim
theorem eqv_ok {K : PySem.W.Frag} {H : Hp} {x y : P} {v u : V} (rx : RP K H x v) (ry : RP K H y u) (hx : flat x = true) (hy : flat y = true) : eqV u v = y.eqv x := by
  cases x <;> cases y
  all_goals first
    | (simp [flat] at hx; done)
    | (simp [flat] at hy; done)
    | (unfold RP at rx ry; subst rx; subst ry; simp [eqV, P.eqv, P.toD, PyData.eqv])
theorem any_ok {K : PySem.W.Frag} {H : Hp} {x : P} {v : V} (rx : RP K H x v) (hx : flat x = true) : ∀ {xs : List P} {vs : List V}, RPs K H xs vs → xs.all flat = true → inV v vs = xs.any fun y => y.eqv x
  | [], [], _, _ => rfl
  | y :: xs, u :: vs, r, h => by
    unfold RPs at r
    rw [List.all_cons, Bool.and_eq_true] at h
    have := any_ok rx hx r.2 h.2
    unfold inV at this ⊢
    rw [List.any_cons, List.any_cons, this, eqv_ok rx r.1 hx h.1]
  | [], _ :: _, h, _ => by unfold RPs at h; exact h.elim
  | _ :: _, [], h, _ => by unfold RPs at h; exact h.elim
theorem rp_non {K : PySem.W.Frag} {H : Hp} {x : P} {v : V} (r : RP K H x v) : decide (x = .non) = decide (v = .non) := by
  cases x <;> unfold RP at r
  case tup l => obtain ⟨a, vs, rfl, _⟩ := r; simp
  all_goals (subst r; simp)
/-- what a comparison does, by the kit's reading -/
def rCmp (X : Cx) : CO → R2
  | .eq => rEqD X.K
  | .ne => rNeD X.K
  | .lt => rI0 fun i j => .bl (decide (i < j))
  | .le => rI0 fun i j => .bl (decide (i ≤ j))
  | .gt => rI0 fun i j => .bl (decide (j < i))
  | .ge => rI0 fun i j => .bl (decide (j ≤ i))
  | .is => fun x y H Q => y = .non ∧ Q (.bl (decide (x = .non))) H
  | .isnot => fun x y H Q => y = .non ∧ Q (.bl (!decide (x = .non))) H
  | .isin => rIn X.K false
  | .notin => rIn X.K true
def coOp : CO → CmpOp
  | .eq => .Eq | .ne => .NotEq | .lt => .Lt | .le => .LtE | .gt => .Gt | .ge => .GtE | .is => .Is | .isnot => .IsNot | .isin => .In | .notin => .NotIn
theorem or_cmp {X : Cx} (hu : X.A.units + 64 < cLine) (o : CO) : OpR X (compareOp (coOp o)) (rCmp X o) := by
  cases o
  · exact op_eqD hu
  · exact op_neD hu
  · exact op_lt
  · exact op_le
  · exact op_gt
  · exact op_ge
  · exact op_isN
  · exact op_notN
  · exact op_in_seq
  · exact op_notIn_seq
/-- a comparison: its answer -/
theorem cmp_ok {X : Cx} {o : CO} {H : Hp} {α : List Addr} {M : Mem} {x y : D} {v u : V} {b : Bool} {Q : VK} (m : RM X.K H α M) (rx : RD X.K H α x v) (ry : RD X.K H α y u) (h : cmpop o x y M = some b) (q : Q (.bl b) H) : rCmp X o v u H Q := by
  cases o
  case eq =>
    obtain ⟨d, e, h1, h2, h3, h4, rfl⟩ := eqd_ok m rx ry h
    exact ⟨d, e, h1, h2, h3, h4, q⟩
  case ne =>
    obtain ⟨c, h', rfl⟩ := Option.map_eq_some_iff.mp (show (eqd M x y).map (!·) = some b from h)
    obtain ⟨d, e, h1, h2, h3, h4, rfl⟩ := eqd_ok m rx ry h'
    exact ⟨d, e, h1, h2, h3, h4, q⟩
  case isin =>
    unfold cmpop at h
    split at h <;> try contradiction
    obtain ⟨xs, e1, h⟩ := ob h
    obtain ⟨a, vs, rfl, s, r⟩ := items_rd m ry e1
    split at h <;> try contradiction
    rename_i hf
    rw [Bool.and_eq_true] at hf
    cases h
    refine ⟨a, vs, rfl, s, flat_ok rx hf.1, flats_ok r hf.2, ?_⟩
    rw [any_ok rx hf.1 r hf.2]
    exact q
  case notin =>
    unfold cmpop at h
    split at h <;> try contradiction
    obtain ⟨xs, e1, h⟩ := ob h
    obtain ⟨a, vs, rfl, s, r⟩ := items_rd m ry e1
    split at h <;> try contradiction
    rename_i hf
    rw [Bool.and_eq_true] at hf
    cases h
    refine ⟨a, vs, rfl, s, flat_ok rx hf.1, flats_ok r hf.2, ?_⟩
    rw [any_ok rx hf.1 r hf.2]
    exact q
  case is =>
    unfold cmpop at h
    split at h <;> try contradiction
    cases h
    rw [rp_non (show RP _ _ _ v from rx)] at q
    exact ⟨ry, q⟩
  case isnot =>
    unfold cmpop at h
    split at h <;> try contradiction
    cases h
    rw [rp_non (show RP _ _ _ v from rx)] at q
    exact ⟨ry, q⟩
  all_goals
    unfold cmpop at h
    split at h <;> try contradiction
    cases h
    exact ⟨_, _, rx, ry, q⟩
section
variable {X : Cx} {a b c e : Expr} {es : List Expr} {pos : Pos} {fa fb fc : Env → Mem → Option (D × Mem)} {ga gb : Env → Mem → Option (Bool × Mem)} {fs : Env → Mem → Option (List D × Mem)} {o o' : CO}
theorem s_cmp (hu : X.A.units + 64 < cLine) (ha : PE X a (tI X fa)) (hb : PE X b (tI X fb)) (hm : behindInMarks (coOp o) b = false) :
    PE X (.Compare a [coOp o] [b] pos) (tI X fun ρ M => do
      let (x, M) ← fa ρ M
      let (y, M) ← fb ρ M
      let r ← cmpop o x y M
      some (.p (.bl r), M)) := by
  refine s_op2 (g := fun x y M => do
      let r ← cmpop o x y M
      some (.p (.bl r), M)) (pe_cmpR (or_cmp hu o) ha hb hm) fun H α M x y v u d M' Q m t rx ry h q => ?_
  obtain ⟨r, e1, h⟩ := ob h
  cases h
  exact cmp_ok m rx ry e1 (stay m t (d := .p _) (by exact rfl) q)
theorem t_cmp (hu : X.A.units + 64 < cLine) (ha : PE X a (tI X fa)) (hb : PE X b (tI X fb)) (hm : behindInMarks (coOp o) b = false) :
    PT X (.Compare a [coOp o] [b] pos) (tIT X fun ρ M => do
      let (x, M) ← fa ρ M
      let (y, M) ← fb ρ M
      let r ← cmpop o x y M
      some (r, M)) := (pt_cmpR (or_cmp hu o) ha hb hm).weak fun σ H Q h => by
  obtain ⟨ρ, M, α, d, M', r0, e, q⟩ := h
  obtain ⟨⟨x, M1⟩, e1, e⟩ := ob e
  obtain ⟨⟨y, M2⟩, e2, e⟩ := ob e
  obtain ⟨r, e3, e⟩ := ob e
  cases e
  refine tI.use r0 e1 fun v H1 α1 n1 d1 r1 => tI.use r1 e2 fun u H2 α2 n2 d2 r2 => ?_
  exact cmp_ok r2.mem (n2.rd r1.mem d1) d2 e3 ⟨_, rfl, q H2 α2 (n1.trans r0.mem n2)⟩
theorem s_cmp2 (hu : X.A.units + 64 < cLine) (ha : PE X a (tI X fa)) (hb : PE X b (tI X fb)) (hc : PE X c (tI X fc)) (hm : lastMarks [coOp o, coOp o'] [b, c] = false) :
    PE X (.Compare a [coOp o, coOp o'] [b, c] pos) (tI X fun ρ M => do
      let (x, M) ← fa ρ M
      let (y, M) ← fb ρ M
      let r ← cmpop o x y M
      if r then do
        let (z, M) ← fc ρ M
        let r' ← cmpop o' y z M
        some (.p (.bl r'), M)
      else some (.p (.bl false), M)) := (pe_chain (or_cmp hu o) (or_cmp hu o') ha hb hc hm).weak fun σ H Q h => by
  obtain ⟨ρ, M, α, d, M', r0, e, q⟩ := h
  obtain ⟨⟨x, M1⟩, e1, e⟩ := ob e
  obtain ⟨⟨y, M2⟩, e2, e⟩ := ob e
  obtain ⟨r, e3, e⟩ := ob e
  refine tI.use r0 e1 fun v H1 α1 n1 d1 r1 => tI.use r1 e2 fun u H2 α2 n2 d2 r2 => ?_
  refine cmp_ok r2.mem (n2.rd r1.mem d1) d2 e3 ⟨_, rfl, ?_⟩
  cases r with
  | false =>
    cases e
    exact q _ H2 α2 (n1.trans r0.mem n2) rfl
  | true =>
    obtain ⟨⟨z, M3⟩, e4, e⟩ := ob e
    obtain ⟨r', e5, e⟩ := ob e
    cases e
    refine tI.use r2 e4 fun w H3 α3 n3 d3 r3 => ?_
    exact cmp_ok r3.mem (n3.rd r2.mem d2) d3 e5 (q _ H3 α3 ((n1.trans r0.mem n2).trans r0.mem n3) rfl)
theorem t_cmp2 (hu : X.A.units + 64 < cLine) (ha : PE X a (tI X fa)) (hb : PE X b (tI X fb)) (hc : PE X c (tI X fc)) (hm : lastMarks [coOp o, coOp o'] [b, c] = false) :
    PT X (.Compare a [coOp o, coOp o'] [b, c] pos) (tIT X fun ρ M => do
      let (x, M) ← fa ρ M
      let (y, M) ← fb ρ M
      let r ← cmpop o x y M
      if r then do
        let (z, M) ← fc ρ M
        let r' ← cmpop o' y z M
        some (r', M)
      else some (false, M)) := (pt_chain (or_cmp hu o) (or_cmp hu o') ha hb hc hm).weak fun σ H Q h => by
  obtain ⟨ρ, M, α, d, M', r0, e, q⟩ := h
  obtain ⟨⟨x, M1⟩, e1, e⟩ := ob e
  obtain ⟨⟨y, M2⟩, e2, e⟩ := ob e
  obtain ⟨r, e3, e⟩ := ob e
  refine tI.use r0 e1 fun v H1 α1 n1 d1 r1 => tI.use r1 e2 fun u H2 α2 n2 d2 r2 => ?_
  refine cmp_ok r2.mem (n2.rd r1.mem d1) d2 e3 ⟨_, rfl, ?_⟩
  cases r with
  | false =>
    cases e
    exact ⟨_, rfl, q H2 α2 (n1.trans r0.mem n2)⟩
  | true =>
    obtain ⟨⟨z, M3⟩, e4, e⟩ := ob e
    obtain ⟨r', e5, e⟩ := ob e
    cases e
    refine tI.use r2 e4 fun w H3 α3 n3 d3 r3 => ?_
    exact cmp_ok r3.mem (n3.rd r2.mem d2) d3 e5 ⟨_, rfl, q H3 α3 ((n1.trans r0.mem n2).trans r0.mem n3)⟩
theorem emp_ok {K : PySem.W.Frag} {H : Hp} {xs : List P} {vs : List V} (q : RPs K H xs vs) : (!xs.isEmpty) = !vs.isEmpty := by
  cases xs with
  | nil => rw [rps_nil q]; rfl
  | cons x xs =>
    cases vs with
    | nil => exact absurd (rps_nil2 q) (by simp)
    | cons _ _ => rfl
theorem truth_ok {K : PySem.W.Frag} {H : Hp} {α : List Addr} {M : Mem} {d : D} {v : V} {b : Bool} (m : RM K H α M) (r : RD K H α d v) (h : truth M d = some b) : TruV K v H b := by
  unfold truth at h
  split at h <;> try contradiction
  · cases h; rw [show v = .non from r]; rfl
  · cases h; rw [show v = .bl _ from r]; rfl
  · cases h; rw [show v = .int _ from r]; rfl
  · cases h
    obtain ⟨a, vs, rfl, s, q⟩ := rd_tuple r
    exact .inr (.inl ⟨vs, s, emp_ok q⟩)
  · obtain ⟨xs, e1, rfl⟩ := Option.map_eq_some_iff.mp h
    obtain ⟨a, vs, rfl, s, q⟩ := items_rd (l := xs) m r (by exact e1)
    rcases s with s | s
    · exact .inl ⟨vs, s, emp_ok q⟩
    · exact .inr (.inl ⟨vs, s, emp_ok q⟩)
  · cases h
    rename_i xs
    obtain ⟨a, vs, rfl, s, q⟩ := items_rd (l := xs) m r rfl
    rcases s with s | s
    · exact .inl ⟨vs, s, emp_ok q⟩
    · exact .inr (.inl ⟨vs, s, emp_ok q⟩)
theorem t_tru (ha : PE X a (tI X fa)) (he : ∀ whole, isTrue a X.env whole = (do let v ← whole; standAt a.pos; holding [v] (truthy v))) :
    PT X a (tIT X fun ρ M => do
      let (x, M) ← fa ρ M
      let r ← truth M x
      some (r, M)) := (pt_truth ha he).weak fun σ H Q h => by
  obtain ⟨ρ, M, α, d, M', r0, e, q⟩ := h
  obtain ⟨⟨x, M1⟩, e1, e⟩ := ob e
  obtain ⟨r, e3, e⟩ := ob e
  cases e
  exact tI.use r0 e1 fun v H1 α1 n1 d1 r1 => ⟨_, truth_ok r1.mem d1 e3, q H1 α1 n1⟩
theorem t_not (ha : PT X a (tIT X ga)) : PT X (.UnaryOp .Not a pos) (tIT X fun ρ M => do
      let (b, M) ← ga ρ M
      some (!b, M)) := (pt_not ha).weak fun σ H Q h => by
  obtain ⟨ρ, M, α, d, M', r0, e, q⟩ := h
  obtain ⟨⟨x, M1⟩, e1, e⟩ := ob e
  cases e
  exact tIT.use r0 e1 fun H1 α1 n1 r1 => q H1 α1 n1
theorem t_and1 (ha : PT X a (tIT X ga)) : PW X (.BoolOp .And [a] pos) (tIT X ga) := pw_and1 ha
theorem t_or1 (ha : PT X a (tIT X ga)) : PW X (.BoolOp .Or [a] pos) (tIT X ga) := pw_or1 ha
theorem t_and (ha : PT X a (tIT X ga)) (hb : PW X (.BoolOp .And (b :: es) pos) (tIT X gb)) : PW X (.BoolOp .And (a :: b :: es) pos) (tIT X fun ρ M => do
      let (b, M) ← ga ρ M
      if b then gb ρ M else some (false, M)) := (pw_and ha hb).weak fun σ H Q h => by
  obtain ⟨ρ, M, α, d, M', r0, e, q⟩ := h
  obtain ⟨⟨x, M1⟩, e1, e⟩ := ob e
  refine tIT.use r0 e1 fun H1 α1 n1 r1 => ?_
  cases x with
  | false => cases e; exact q H1 α1 n1
  | true => exact tIT.use r1 e fun H2 α2 n2 r2 => q H2 α2 (n1.trans r0.mem n2)
theorem t_or (ha : PT X a (tIT X ga)) (hb : PW X (.BoolOp .Or (b :: es) pos) (tIT X gb)) : PW X (.BoolOp .Or (a :: b :: es) pos) (tIT X fun ρ M => do
      let (b, M) ← ga ρ M
      if b then some (true, M) else gb ρ M) := (pw_or ha hb).weak fun σ H Q h => by
  obtain ⟨ρ, M, α, d, M', r0, e, q⟩ := h
  obtain ⟨⟨x, M1⟩, e1, e⟩ := ob e
  refine tIT.use r0 e1 fun H1 α1 n1 r1 => ?_
  cases x with
  | true => cases e; exact q H1 α1 n1
  | false => exact tIT.use r1 e fun H2 α2 n2 r2 => q H2 α2 (n1.trans r0.mem n2)
theorem s_and1 (ha : PE X a (tI X fa)) : PE X (.BoolOp .And [a] pos) (tI X fa) := pe_one ha
theorem s_or1 (ha : PE X a (tI X fa)) : PE X (.BoolOp .Or [a] pos) (tI X fa) := pe_one ha
def step2 (stop : Bool) (x : D) (k : Option (D × Mem)) (M : Mem) : Option (D × Mem) := match x with
  | .p (.bl b) => if b = stop then some (.p (.bl stop), M) else k
  | _ => none
theorem s_and (ha : PE X a (tI X fa)) (hb : PE X (.BoolOp .And (b :: es) pos) (tI X fb)) : PE X (.BoolOp .And (a :: b :: es) pos) (tI X fun ρ M => do
      let (x, M) ← fa ρ M
      match x with
      | .p (.bl true) => fb ρ M
      | .p (.bl false) => some (.p (.bl false), M)
      | _ => none) := (pe_and ha hb).weak fun σ H Q h => by
  obtain ⟨ρ, M, α, d, M', r0, e, q⟩ := h
  obtain ⟨⟨x, M1⟩, e1, e⟩ := ob e
  refine tI.use r0 e1 fun v H1 α1 n1 d1 r1 => ?_
  dsimp only at e
  split at e <;> try contradiction
  · exact ⟨true, d1, tI.use r1 e fun w H2 α2 n2 d2 r2 => q w H2 α2 (n1.trans r0.mem n2) d2⟩
  · cases e; exact ⟨false, d1, q _ H1 α1 n1 rfl⟩
theorem s_or (ha : PE X a (tI X fa)) (hb : PE X (.BoolOp .Or (b :: es) pos) (tI X fb)) : PE X (.BoolOp .Or (a :: b :: es) pos) (tI X fun ρ M => do
      let (x, M) ← fa ρ M
      match x with
      | .p (.bl true) => some (.p (.bl true), M)
      | .p (.bl false) => fb ρ M
      | _ => none) := (pe_or ha hb).weak fun σ H Q h => by
  obtain ⟨ρ, M, α, d, M', r0, e, q⟩ := h
  obtain ⟨⟨x, M1⟩, e1, e⟩ := ob e
  refine tI.use r0 e1 fun v H1 α1 n1 d1 r1 => ?_
  dsimp only at e
  split at e <;> try contradiction
  · cases e; exact ⟨true, d1, q _ H1 α1 n1 rfl⟩
  · exact ⟨false, d1, tI.use r1 e fun w H2 α2 n2 d2 r2 => q w H2 α2 (n1.trans r0.mem n2) d2⟩
theorem s_ife (hc : PT X c (tIT X ga)) (ha : PE X a (tI X fa)) (hb : PE X b (tI X fb)) : PE X (.IfExp c a b pos) (tI X fun ρ M => do
      let (c, M) ← ga ρ M
      if c then fa ρ M else fb ρ M) := (pe_ifExp hc ha hb).weak fun σ H Q h => by
  obtain ⟨ρ, M, α, d, M', r0, e, q⟩ := h
  obtain ⟨⟨x, M1⟩, e1, e⟩ := ob e
  refine tIT.use r0 e1 fun H1 α1 n1 r1 => ?_
  cases x with
  | true => exact tI.use r1 e fun w H2 α2 n2 d2 r2 => q w H2 α2 (n1.trans r0.mem n2) d2
  | false => exact tI.use r1 e fun w H2 α2 n2 d2 r2 => q w H2 α2 (n1.trans r0.mem n2) d2
theorem a_nil : PA X [] (tIA X fun _ M => some ([], M)) := pa_nil.weak fun σ H Q h => by
  obtain ⟨ρ, M, α, d, M', r0, e, q⟩ := h
  cases e
  exact q [] H α (Nx.refl r0.mem r0.tab) trivial
theorem a_cons (ha : PE X a (tI X fa)) (hs : PA X es (tIA X fs)) (h : starEach (a :: es) X.env = (false, eval a X.env) :: starEach es X.env) : PA X (a :: es) (tIA X fun ρ M => do
      let (x, M) ← fa ρ M
      let (xs, M) ← fs ρ M
      some (x :: xs, M)) := (pa_cons ha hs h).weak fun σ H Q h => by
  obtain ⟨ρ, M, α, d, M', r0, e, q⟩ := h
  obtain ⟨⟨x, M1⟩, e1, e⟩ := ob e
  obtain ⟨⟨xs, M2⟩, e2, e⟩ := ob e
  cases e
  exact tI.use r0 e1 fun v H1 α1 n1 d1 r1 => tIA.use r1 e2 fun vs H2 α2 n2 d2 r2 => q _ H2 α2 (n1.trans r0.mem n2) ⟨n2.rd r1.mem d1, d2⟩
theorem o_none : PO X none (tIO X fun _ M => some (none, M)) := po_none.weak fun σ H Q h => by
  obtain ⟨ρ, M, α, d, M', r0, e, q⟩ := h
  cases e
  exact q H α (Nx.refl r0.mem r0.tab)
theorem o_some (ha : PE X a (tI X fa)) : PO X (some a) (tIO X fun ρ M => do
      let (x, M) ← fa ρ M
      match x with
      | .p (.int i) => some (some i, M)
      | _ => none) := (po_some ha).weak fun σ H Q h => by
  obtain ⟨ρ, M, α, d, M', r0, e, q⟩ := h
  obtain ⟨⟨x, M1⟩, e1, e⟩ := ob e
  dsimp only at e
  split at e <;> try contradiction
  cases e
  exact tI.use r0 e1 fun v H1 α1 n1 d1 r1 => ⟨_, d1, q H1 α1 n1⟩
end
end IX
end

section
set_option Elab.async false
set_option autoImplicit false
set_option linter.all false
set_option maxRecDepth 100000
set_option maxHeartbeats 4000000
/-! Displays, subscripts, slices, built-ins, append. -/
namespace IX
open PySem PySem.Spec PyProof.Rows L2 GX
theorem datas_ok {K : PySem.W.Frag} {H : Hp} {α : List Addr} : ∀ {ds : List D} {vs : List V} {ps : List P}, RDs K H α ds vs → datas ds = some ps → RPs K H ps vs
  | [], [], _, _, h => by cases h; unfold RPs; trivial
  | .p y :: ds, v :: vs, ps, r, h => by
    obtain ⟨xs, e1, h⟩ := ob (show (datas ds >>= fun xs => some (y :: xs)) = some ps from h)
    cases h
    unfold RPs
    exact ⟨r.1, datas_ok r.2 e1⟩
  | .l _ :: _, _ :: _, _, _, h => by cases h
  | .scr _ :: _, _ :: _, _, _, h => by cases h
  | [], _ :: _, _, h, _ => h.elim
  | _ :: _, [], _, h, _ => h.elim
theorem pix_eq (n : Nat) (i : Int) : pix n i = ixN n i := rfl
theorem atx_ok {K : PySem.W.Frag} {H : Hp} {xs : List P} {vs : List V} {i : Int} {x : P} (r : RPs K H xs vs) (h : atx xs i = some x) : ∃ v, atI vs i = some v ∧ RP K H x v := by
  unfold atx at h
  unfold atI
  obtain ⟨j, e1, e2⟩ := Option.bind_eq_some_iff.mp h
  rw [pix_eq, r.length] at e1
  obtain ⟨v, e3, q⟩ := r.get e2
  exact ⟨v, by rw [e1]; exact e3, q⟩
theorem clip_eq (n d : Nat) (o : Option Int) : clip n d o = HT.sIx n d o := by
  cases o with
  | none => rfl
  | some v => rfl
theorem cut_ok {K : PySem.W.Frag} {H : Hp} {xs : List P} {vs : List V} (lo hi : Option Int) (r : RPs K H xs vs) : RPs K H (cutp xs lo hi) (cutV vs lo hi) := by
  unfold cutp cutV
  rw [clip_eq, clip_eq, r.length]
  exact (r.drop _).take _
theorem cut_whole {xs : List P} {lo hi : Option Int} (h : HT.sIx xs.length 0 lo = 0 ∧ HT.sIx xs.length xs.length hi = xs.length) : cutp xs lo hi = xs := by
  unfold cutp
  rw [clip_eq, clip_eq, h.1, h.2]
  simp
section
variable {X : Cx} {a b c e : Expr} {es : List Expr} {pos : Pos} {fa fb fc : Env → Mem → Option (D × Mem)} {ga gb : Env → Mem → Option (Bool × Mem)} {fs : Env → Mem → Option (List D × Mem)} {fl fh : Env → Mem → Option (Option Int × Mem)}
theorem s_tup {k : Nat} (h : PA X es (tIA X fs)) : PE X (.Tuple es k pos) (tI X fun ρ M => do
    let (ds, M) ← fs ρ M
    let ps ← datas ds
    if ps.length ≤ sizeLine then some (.p (.tup ps), M) else none) := (pe_tup h).weak fun σ H Q h => by
  obtain ⟨ρ, M, α, d, M', r0, e, q⟩ := h
  obtain ⟨⟨x, M1⟩, e1, e⟩ := ob e
  obtain ⟨ps, e2, e⟩ := ob e
  split at e <;> try contradiction
  rename_i hl
  cases e
  refine tIA.use r0 e1 fun vs H1 α1 n1 d1 r1 => ?_
  have rp := datas_ok d1 e2
  exact ⟨by rw [← rp.length]; exact hl, new_tup r1.mem r1.tab rp fun w H' α' n d => q w H' α' (n1.trans r0.mem n) d⟩
theorem s_lst (h : PA X es (tIA X fs)) : PE X (.List es pos) (tI X fun ρ M => do
    let (ds, M) ← fs ρ M
    let ps ← datas ds
    newl ps M) := (pe_lst h).weak fun σ H Q h => by
  obtain ⟨ρ, M, α, d, M', r0, e, q⟩ := h
  obtain ⟨⟨x, M1⟩, e1, e⟩ := ob e
  obtain ⟨ps, e2, e⟩ := ob e
  obtain ⟨hl, rfl, rfl⟩ := newl_some e
  refine tIA.use r0 e1 fun vs H1 α1 n1 d1 r1 => ?_
  have rp := datas_ok d1 e2
  exact ⟨by rw [← rp.length]; exact hl, new_lst r1.mem r1.tab rp fun w H' α' n d => q w H' α' (n1.trans r0.mem n) d⟩
theorem s_idx (ha : PE X a (tI X fa)) (hb : PE X b (tI X fb)) (hs : PlainIx b) : PE X (.Subscript a b pos) (tI X fun ρ M => do
    let (x, M) ← fa ρ M
    let (y, M) ← fb ρ M
    let r ← index x y M
    some (.p r, M)) := by
  refine s_op2 (g := fun x y M => do
    let r ← index x y M
    some (.p r, M)) (pe_ix ix_seq ha hb hs) fun H α M x y v u d M' Q m t rx ry h q => ?_
  obtain ⟨r, e1, h⟩ := ob h
  cases h
  unfold index at e1
  split at e1 <;> try contradiction
  obtain ⟨xs, e2, e3⟩ := Option.bind_eq_some_iff.mp e1
  obtain ⟨p, vs, rfl, s, rp⟩ := items_rd m rx e2
  obtain ⟨w, e4, rw_⟩ := atx_ok rp e3
  rcases s with s | s
  · exact .inl ⟨p, vs, _, w, rfl, ry, s, e4, stay m t (d := .p _) rw_ q⟩
  · exact .inr (.inl ⟨p, vs, _, w, rfl, ry, s, e4, stay m t (d := .p _) rw_ q⟩)
theorem s_slc {lo hi : Option Expr} {p2 : Pos} (ha : PE X a (tI X fa)) (hl : PO X lo (tIO X fl)) (hh : PO X hi (tIO X fh)) : PE X (.Subscript a (.Slice lo hi none p2) pos) (tI X fun ρ M => do
    let (x, M) ← fa ρ M
    let (l, M) ← fl ρ M
    let (h, M) ← fh ρ M
    slice x l h M) := (pe_slice (SlR.or sl_tupA sl_list) ha hl hh).weak fun σ H Q h => by
  obtain ⟨ρ, M, α, d, M', r0, e, q⟩ := h
  obtain ⟨⟨x, M1⟩, e1, e⟩ := ob e
  obtain ⟨⟨l, M2⟩, e2, e⟩ := ob e
  obtain ⟨⟨h, M3⟩, e3, e⟩ := ob e
  refine tI.use r0 e1 fun v H1 α1 n1 d1 r1 => tIO.use r1 e2 fun H2 α2 n2 r2 => tIO.use r2 e3 fun H3 α3 n3 r3 => ?_
  have d3 := n3.rd r2.mem (n2.rd r1.mem d1)
  have n := (n1.trans r0.mem n2).trans r0.mem n3
  have q3 : ∀ w H' α', Nx X.K α3 H3 α' H' M' → RD X.K H' α' d w → Q w H' := fun w H' α' n' d => q w H' α' (n.trans r0.mem n') d
  have m := r3.mem
  have t := r3.tab
  dsimp only at e
  unfold slice at e
  split at e <;> try contradiction
  · obtain ⟨rfl, rfl⟩ := one_some e
    obtain ⟨p, vs, rfl, s, rp⟩ := rd_tuple d3
    refine .inl ⟨p, vs, rfl, s, fun hw => ?_, fun _ => new_tup m t (cut_ok l h rp) q3⟩
    refine stay m t (d := .p _) ?_ q3
    rw [← rp.length] at hw
    rw [cut_whole hw]
    exact d3
  · obtain ⟨xs, e4, e⟩ := Option.bind_eq_some_iff.mp e
    obtain ⟨hl, rfl, rfl⟩ := newl_some e
    obtain ⟨p, vs, rfl, _, s, rp⟩ := rd_list m d3 e4
    exact .inr ⟨p, vs, rfl, .inl (.inl s), new_lst m t (cut_ok l h rp) q3⟩
theorem s_neg (ha : PE X a (tI X fa)) : PE X (.UnaryOp .USub a pos) (tI X fun ρ M => do
    let (x, M) ← fa ρ M
    match x with
    | .p (.int i) => some (.p (.int (-i)), M)
    | _ => none) := (pe_un un_neg ha).weak fun σ H Q h => by
  obtain ⟨ρ, M, α, d, M', r0, e, q⟩ := h
  obtain ⟨⟨x, M1⟩, e1, e⟩ := ob e
  refine tI.use r0 e1 fun v H1 α1 n1 d1 r1 => ?_
  dsimp only at e
  split at e <;> try contradiction
  cases e
  exact ⟨_, d1, q _ H1 α1 n1 rfl⟩
theorem s_notv (ha : PE X a (tI X fa)) : PE X (.UnaryOp .Not a pos) (tI X fun ρ M => do
    let (x, M) ← fa ρ M
    let b ← truth M x
    some (.p (.bl (!b)), M)) := by
  refine ⟨fun pins s σ H Q I h => ?_⟩
  obtain ⟨ρ, M, α, d, M', r0, e, q⟩ := h
  obtain ⟨⟨x, M1⟩, e1, e⟩ := ob e
  obtain ⟨b, e2, e⟩ := ob e
  cases e
  refine UnaryOp_ (thn (ha.run pins s σ H (fun v H' => ∃ k, TruV X.K v H' k ∧ Q (.bl (!k)) H') I (tI.use r0 e1 fun v H1 α1 n1 d1 r1 => ⟨b, truth_ok r1.mem d1 e2, q _ H1 α1 n1 rfl⟩)) fun v s1 ⟨x, H1, I1, r1, q1⟩ => ?_)
  exact not_of (thn (tru_ok pins s1 σ H1 x v (fun b H' => Q (.bl (!b)) H') I1 r1 q1) fun b s2 ⟨H2, I2, q2⟩ => ⟨.bl (!b), H2, I2, rfl, q2⟩)
/-- a built-in's call by values -/
def CallI (X : Cx) (r : List V → Hp → VK → Prop) (g : List D → Mem → Option (D × Mem)) : Prop := ∀ H α M ds vs d M' Q, RM X.K H α M → TabAll H → RDs X.K H α ds vs → g ds M = some (d, M') →
  (∀ w H' α', Nx X.K α H α' H' M' → RD X.K H' α' d w → Q w H') → r vs H Q
theorem s_cb {r : List V → Hp → VK → Prop} {g : List D → Mem → Option (D × Mem)} (h : PE X e (tCB r (tIA X fs))) (hr : CallI X r g) : PE X e (tI X fun ρ M => do
    let (ds, M) ← fs ρ M
    g ds M) := h.weak fun σ H Q h => by
  obtain ⟨ρ, M, α, d, M', r0, e, q⟩ := h
  obtain ⟨⟨ds, M1⟩, e1, e⟩ := ob e
  exact tIA.use r0 e1 fun vs H1 α1 n1 d1 r1 => hr H1 α1 M1 ds vs d M' Q r1.mem r1.tab d1 e fun w H' α' n d => q w H' α' (n1.trans r0.mem n) d
theorem rds1 {K : PySem.W.Frag} {H : Hp} {α : List Addr} {d : D} {vs : List V} (h : RDs K H α [d] vs) : ∃ v, vs = [v] ∧ RD K H α d v := by
  cases vs with
  | nil => exact h.elim
  | cons v vs =>
    cases vs with
    | nil => exact ⟨v, rfl, h.1⟩
    | cons _ _ => exact h.2.elim
theorem rds2 {K : PySem.W.Frag} {H : Hp} {α : List Addr} {d d' : D} {vs : List V} (h : RDs K H α [d, d'] vs) : ∃ v w, vs = [v, w] ∧ RD K H α d v ∧ RD K H α d' w := by
  cases vs with
  | nil => exact h.elim
  | cons v vs =>
    obtain ⟨w, rfl, h2⟩ := rds1 h.2
    exact ⟨v, w, rfl, h.1, h2⟩
theorem ints_ok {K : PySem.W.Frag} {H : Hp} : ∀ {xs : List P} {vs : List V} {is : List Int}, RPs K H xs vs → intsP xs = some is → vs = is.map V.int
  | [], [], _, _, h => by cases h; rfl
  | .int i :: xs, v :: vs, is, r, h => by
    unfold RPs at r
    obtain ⟨is', e1, rfl⟩ := Option.map_eq_some_iff.mp (show (intsP xs).map (i :: ·) = some is from h)
    rw [ints_ok r.2 e1, show v = V.int _ from r.1]
    rfl
  | .non :: _, _ :: _, _, _, h => by cases h
  | .bl _ :: _, _ :: _, _, _, h => by cases h
  | .str _ :: _, _ :: _, _, _, h => by cases h
  | .tup _ :: _, _ :: _, _, _, h => by cases h
  | [], _ :: _, _, h, _ => by unfold RPs at h; exact h.elim
  | _ :: _, [], _, h, _ => by unfold RPs at h; exact h.elim
theorem itemsL_rd {K : PySem.W.Frag} {H : Hp} {α : List Addr} {M : Mem} {d : D} {v : V} {l : List P} (m : RM K H α M) (h : RD K H α d v) (e : itemsL M d = some l) : ∃ a vs, v = .ref a ∧ SqL K H a vs ∧ RPs K H l vs := by
  cases d with
  | p x => cases e
  | l i =>
    obtain ⟨a, vs, rfl, _, s, r⟩ := rd_list m h e
    exact ⟨a, vs, rfl, .inl (.inl s), r⟩
  | scr xs =>
    cases e
    obtain ⟨a, vs, rfl, q, r⟩ := h
    refine ⟨a, vs, rfl, ?_, r⟩
    rcases q with ⟨q, _⟩ | q
    · exact .inl q
    · exact sql_none q
theorem maxI_mem : ∀ (a : Int) (r : List Int), maxI a r ∈ a :: r ∧ ∀ y ∈ a :: r, y ≤ maxI a r
  | a, [] => by simp [maxI]
  | a, b :: r => by
    unfold maxI
    have h := maxI_mem (if b > a then b else a) r
    constructor
    · rcases List.mem_cons.mp h.1 with e | e
      · rw [e]
        split <;> simp
      · exact List.mem_cons_of_mem _ (List.mem_cons_of_mem _ e)
    · intro y hy
      have h0 := h.2 _ List.mem_cons_self
      have ha : a ≤ (if b > a then b else a) := by split <;> omega
      have hb : b ≤ (if b > a then b else a) := by split <;> omega
      rcases List.mem_cons.mp hy with e | hy
      · rw [e]; exact Int.le_trans ha h0
      · rcases List.mem_cons.mp hy with e | hy
        · rw [e]; exact Int.le_trans hb h0
        · exact h.2 y (List.mem_cons_of_mem _ hy)
theorem minI_mem : ∀ (a : Int) (r : List Int), minI a r ∈ a :: r ∧ ∀ y ∈ a :: r, minI a r ≤ y
  | a, [] => by simp [minI]
  | a, b :: r => by
    unfold minI
    have h := minI_mem (if b < a then b else a) r
    constructor
    · rcases List.mem_cons.mp h.1 with e | e
      · rw [e]
        split <;> simp
      · exact List.mem_cons_of_mem _ (List.mem_cons_of_mem _ e)
    · intro y hy
      have h0 := h.2 _ List.mem_cons_self
      have ha : (if b < a then b else a) ≤ a := by split <;> omega
      have hb : (if b < a then b else a) ≤ b := by split <;> omega
      rcases List.mem_cons.mp hy with e | hy
      · rw [e]; exact Int.le_trans h0 ha
      · rcases List.mem_cons.mp hy with e | hy
        · rw [e]; exact Int.le_trans h0 hb
        · exact h.2 y (List.mem_cons_of_mem _ hy)
def rLenI (X : Cx) : List V → Hp → VK → Prop := fun xs H Q => ∃ p ys, xs = [.ref p] ∧ (SqL X.K H p ys ∨ SqT X.K H p ys) ∧ Q (.int ys.length) H
theorem ci_len : CallI X (rLenI X) (bfun .len) := by
  intro H α M ds vs d M' Q m t r h q
  unfold bfun at h
  split at h <;> try contradiction
  obtain ⟨l, e1, h⟩ := Option.bind_eq_some_iff.mp h
  obtain ⟨rfl, rfl⟩ := one_some h
  obtain ⟨v, rfl, rv⟩ := rds1 r
  obtain ⟨p, vs, rfl, s, rp⟩ := items_rd m rv e1
  refine ⟨p, vs, rfl, s, stay m t (d := .p _) ?_ q⟩
  show V.int _ = V.int _
  rw [rp.length]
theorem ci_abs : CallI X (fun xs H Q => ∃ i, xs = [.int i] ∧ Q (.int (if i < 0 then -i else i)) H) (bfun .abs) := by
  intro H α M ds vs d M' Q m t r h q
  unfold bfun at h
  split at h <;> try contradiction
  obtain ⟨rfl, rfl⟩ := one_some h
  obtain ⟨v, rfl, rv⟩ := rds1 r
  exact ⟨_, by rw [rd_int rv], stay m t (d := .p _) (by exact rfl) q⟩
theorem ci_int : CallI X (fun xs H Q => (∃ i, xs = [.int i] ∧ Q (.int i) H) ∨ ∃ k, xs = [.bl k] ∧ Q (.int (if k then 1 else 0)) H) (bfun .int) := by
  intro H α M ds vs d M' Q m t r h q
  unfold bfun at h
  split at h <;> try contradiction
  · obtain ⟨rfl, rfl⟩ := one_some h
    obtain ⟨v, rfl, rv⟩ := rds1 r
    exact .inl ⟨_, by rw [rd_int rv], stay m t (d := .p _) (by exact rfl) q⟩
  · obtain ⟨rfl, rfl⟩ := one_some h
    obtain ⟨v, rfl, rv⟩ := rds1 r
    exact .inr ⟨_, by rw [show v = V.bl _ from rv], stay m t (d := .p _) (by exact rfl) q⟩
theorem ci_bool : CallI X (fun xs H Q => (∃ i, xs = [.int i] ∧ Q (.bl (i != 0)) H) ∨ ∃ k, xs = [.bl k] ∧ Q (.bl k) H) (bfun .bool) := by
  intro H α M ds vs d M' Q m t r h q
  unfold bfun at h
  split at h <;> try contradiction
  · obtain ⟨rfl, rfl⟩ := one_some h
    obtain ⟨v, rfl, rv⟩ := rds1 r
    exact .inr ⟨_, by rw [show v = V.bl _ from rv], stay m t (d := .p _) (by exact rfl) q⟩
  · obtain ⟨rfl, rfl⟩ := one_some h
    obtain ⟨v, rfl, rv⟩ := rds1 r
    exact .inl ⟨_, by rw [rd_int rv], stay m t (d := .p _) (by exact rfl) q⟩
theorem ci_sum : CallI X (rSum X.K) (bfun .sum) := by
  intro H α M ds vs d M' Q m t r h q
  unfold bfun at h
  split at h <;> try contradiction
  obtain ⟨l, e1, h⟩ := ob h
  obtain ⟨is, e2, h⟩ := ob h
  obtain ⟨rfl, rfl⟩ := one_some h
  obtain ⟨v, rfl, rv⟩ := rds1 r
  obtain ⟨p, vs, rfl, s, rp⟩ := itemsL_rd m rv e1
  rw [ints_ok rp e2] at s
  exact ⟨p, is, rfl, s, stay m t (d := .p _) (by exact rfl) q⟩
theorem ci_max : CallI X (fun xs H Q => (∃ i j, xs = [.int i, .int j] ∧ Q (.int (if j > i then j else i)) H) ∨ rMax X.K xs H Q ∨ E1.rMaxT X.K xs H Q) (bfun .max) := by
  intro H α M ds vs d M' Q m t r h q
  unfold bfun at h
  split at h <;> try contradiction
  · obtain ⟨rfl, rfl⟩ := one_some h
    obtain ⟨v, w, rfl, r1, r2⟩ := rds2 r
    exact .inl ⟨_, _, by rw [rd_int r1, rd_int r2], stay m t (d := .p _) (by exact rfl) q⟩
  · obtain ⟨l, e1, h⟩ := ob h
    obtain ⟨is, e2, h⟩ := ob h
    split at h <;> try contradiction
    rename_i a r'
    obtain ⟨rfl, rfl⟩ := one_some h
    obtain ⟨v, rfl, rv⟩ := rds1 r
    obtain ⟨p, vs, rfl, s, rp⟩ := items_rd m rv e1
    rw [ints_ok rp e2] at s
    refine s.elim (fun s => .inr (.inl ⟨p, _, rfl, s, by simp, fun z hz1 hz2 => ?_⟩)) fun s => .inr (.inr ⟨p, _, rfl, s, by simp, fun z hz1 hz2 => ?_⟩)
    all_goals
      have hm := maxI_mem a r'
      have : z = maxI a r' := Int.le_antisymm (hm.2 z hz1) (hz2 _ hm.1)
      subst this
      exact stay m t (d := .p _) (by exact rfl) q
theorem ci_min : CallI X (fun xs H Q => (∃ i j, xs = [.int i, .int j] ∧ Q (.int (if j < i then j else i)) H) ∨ rMin X.K xs H Q ∨ E1.rMinT X.K xs H Q) (bfun .min) := by
  intro H α M ds vs d M' Q m t r h q
  unfold bfun at h
  split at h <;> try contradiction
  · obtain ⟨rfl, rfl⟩ := one_some h
    obtain ⟨v, w, rfl, r1, r2⟩ := rds2 r
    exact .inl ⟨_, _, by rw [rd_int r1, rd_int r2], stay m t (d := .p _) (by exact rfl) q⟩
  · obtain ⟨l, e1, h⟩ := ob h
    obtain ⟨is, e2, h⟩ := ob h
    split at h <;> try contradiction
    rename_i a r'
    obtain ⟨rfl, rfl⟩ := one_some h
    obtain ⟨v, rfl, rv⟩ := rds1 r
    obtain ⟨p, vs, rfl, s, rp⟩ := items_rd m rv e1
    rw [ints_ok rp e2] at s
    refine s.elim (fun s => .inr (.inl ⟨p, _, rfl, s, by simp, fun z hz1 hz2 => ?_⟩)) fun s => .inr (.inr ⟨p, _, rfl, s, by simp, fun z hz1 hz2 => ?_⟩)
    all_goals
      have hm := minI_mem a r'
      have : z = minI a r' := Int.le_antisymm (hz2 _ hm.1) (hm.2 z hz1)
      subst this
      exact stay m t (d := .p _) (by exact rfl) q
theorem ci_tuple : CallI X (fun xs H Q => ∃ p ys, xs = [.ref p] ∧ ((SqL X.K H p ys ∧ ∀ l, H l = none → Q (.ref l) (upd H l (.tup ys))) ∨ (SqT X.K H p ys ∧ Q (.ref p) H))) (bfun .tuple) := by
  intro H α M ds vs d M' Q m t r h q
  unfold bfun at h
  split at h <;> try contradiction
  obtain ⟨l, e1, h⟩ := Option.bind_eq_some_iff.mp h
  obtain ⟨rfl, rfl⟩ := one_some h
  obtain ⟨v, rfl, rv⟩ := rds1 r
  obtain ⟨p, vs, rfl, s, rp⟩ := items_rd m rv e1
  rcases s with s | s
  · exact ⟨p, vs, rfl, .inl ⟨s, new_tup m t rp q⟩⟩
  · refine ⟨p, vs, rfl, .inr ⟨s, stay m t (d := .p _) ?_ q⟩⟩
    show RP _ _ (.tup _) _
    unfold RP
    exact ⟨p, vs, rfl, s, rp⟩
theorem ci_list : CallI X (fun xs H Q => ∃ p ys, xs = [.ref p] ∧ (SqL X.K H p ys ∨ SqT X.K H p ys) ∧ ∀ l, H l = none → Q (.ref l) (upd H l (.lst ys))) (bfun .list) := by
  intro H α M ds vs d M' Q m t r h q
  unfold bfun at h
  split at h <;> try contradiction
  obtain ⟨l, e1, h⟩ := Option.bind_eq_some_iff.mp h
  obtain ⟨hl, rfl, rfl⟩ := newl_some h
  obtain ⟨v, rfl, rv⟩ := rds1 r
  obtain ⟨p, vs, rfl, s, rp⟩ := items_rd m rv e1
  exact ⟨p, vs, rfl, s, new_lst m t rp q⟩
/-- isinstance(x, T) -/
def tyP : P → String
  | .non => "NoneType" | .bl _ => "bool" | .int _ => "int" | .str _ => "str" | .tup _ => "tuple"
theorem isi_ok {K : PySem.W.Frag} {H : Hp} {x : P} {v : V} (r : RP K H x v) : TyX K H v (.type (tyP x)) := by
  cases x <;> unfold RP at r
  case tup l =>
    obtain ⟨a, vs, rfl, s, _⟩ := r
    rcases s with (s | ⟨o, s⟩) | ⟨o, its, n, h1, h2, _⟩
    · exact .base (.tup s)
    · exact .fTuple s
    · exact .kTuple h1 h2
  case non => subst r; exact .base .non
  case bl b => subst r; exact .base (.bl _)
  case int b => subst r; exact .base (.int _)
  case str b => subst r; exact .base (.str _)
def isT : BI → Option String
  | .isint => some "int"
  | .isbool => some "bool"
  | .istup => some "tuple"
  | .isstr => some "str"
  | _ => none
theorem kit_is (K : PySem.W.Frag) {bi : BI} {T : String} (hT : isT bi = some T) {x : D} {M M' : Mem} {d : D} (e : bfun bi [x] M = some (d, M')) :
    ∃ y b, x = .p y ∧ d = .p (.bl b) ∧ M' = M ∧ PySem.W.kitOne K (.type (tyP y)) (.type T) = some b := by
  cases bi <;> cases hT <;> cases x <;> first | (cases e; done) | skip
  all_goals
    rename_i y
    cases y <;> (cases e; exact ⟨_, _, rfl, rfl, rfl, rfl⟩)
theorem s_isi {bi : BI} {T : String} {p p2 : Pos} {nt : Str} (hT : isT bi = some T) (ha : PE X a (tI X fa)) (hn : PE X (.Name nt p2) (tC (.ty T))) (hg : Gl X "isinstance") (hm : X.mg "isinstance" = none)
    (he : starEach [a, .Name nt p2] X.env = [(false, eval a X.env), (false, eval (.Name nt p2) X.env)]) (he2 : starEach [.Name nt p2] X.env = [(false, eval (.Name nt p2) X.env)]) (he3 : starEach [] X.env = []) :
    PE X (.Call (.Name "isinstance" p) [a, .Name nt p2] [] pos) (tI X fun ρ M => do
      let (ds, M) ← (do
        let (x, M) ← fa ρ M
        let (xs, M) ← some ([], M)
        some (x :: xs, M))
      bfun bi ds M) := by
  refine (pe_callB call_isi hg hm boot_isinstance (pa_cons ha (pa_cons hn pa_nil (by rw [he2, he3])) (by rw [he, he2])) (by decide) (by decide) (by rw [he, he2]) (by rw [he2]; rfl)).weak fun σ H Q h => ?_
  obtain ⟨ρ, M, α, d, M', r0, e, q⟩ := h
  obtain ⟨⟨ds, M1⟩, e1, e⟩ := ob e
  obtain ⟨⟨x, M2⟩, e2, e1⟩ := ob e1
  cases e1
  refine tI.use r0 e2 fun v H1 α1 n1 d1 r1 => ?_
  obtain ⟨y, b, rfl, rfl, rfl, hk⟩ := kit_is X.K hT e
  exact ⟨v, _, _, _, b, rfl, .ty _, isi_ok d1, hk, q _ H1 α1 n1 rfl⟩
/-- xs.append(y) -/
theorem s_append {apos : Pos} {o : Expr} (ho : PE X o (tI X fa)) (ha : PA X (e :: es) (tIA X fs)) (hbase : attributeBase o "append" X.env (eval o X.env) = eval o X.env)
    (hfew : ((backTo pos (starEach (e :: es) X.env)).all (fun x => !x.1) && (backToKw pos (keywordEach [] X.env)).all (fun x => x.1.isSome)
      && decide ((e :: es).length + ([] : List Keyword).length + (if ([] : List Keyword).isEmpty then 0 else 1) < 30)) = true)
    (hline : (apos.endLine == pos.line) = true) (hs : starEach (e :: es) X.env = (false, eval e X.env) :: starEach es X.env) (hplain : (backTo pos (starEach es X.env)).any (·.1) = false) :
    PE X (.Call (.Attribute o "append" apos) (e :: es) [] pos) (tI X fun ρ M => do
      let (x, M) ← fa ρ M
      let (ds, M) ← fs ρ M
      match x with
      | .l i => do
        let xs ← M[i]?
        let (r, ys) ← mtf .append xs ds
        some (.p r, M.set i ys)
      | _ => none) := by
  refine (pe_bm PySem.F.plainAttrs_list PySem.F.slot_list_append PySem.F.type_list_append mt_append ho ha hbase hfew hline hs hplain).weak fun σ H Q h => ?_
  obtain ⟨ρ, M, α, d, M', r0, e, q⟩ := h
  obtain ⟨⟨x, M1⟩, e1, e⟩ := ob e
  obtain ⟨⟨ds, M2⟩, e2, e⟩ := ob e
  dsimp only at e
  split at e <;> try contradiction
  rename_i i
  obtain ⟨xs, e3, e⟩ := ob e
  obtain ⟨⟨r, ys⟩, e4, e⟩ := ob e
  cases e
  unfold mtf at e4
  split at e4 <;> try contradiction
  split at e4 <;> try contradiction
  rename_i hl
  cases e4
  refine tI.use r0 e1 fun v H1 α1 n1 d1 r1 => ?_
  have d1' := d1
  obtain ⟨p, hp, rfl⟩ := d1'
  refine ⟨.inl ⟨rfl, ?_⟩, ?_⟩
  · obtain ⟨vs, hv⟩ := r1.mem.lst (List.mem_of_getElem? hp)
    exact ⟨vs, .inl (.inl hv)⟩
  refine tIA.use r1 e2 fun vs H2 α2 n2 d2 r2 => ?_
  obtain ⟨w, rfl, rw_⟩ := rds1 d2
  obtain ⟨p', vs, e5, hp', s, rp⟩ := rd_list r2.mem (n2.rd r1.mem d1) e3
  cases e5
  refine ⟨_, vs, w, rfl, rfl, s, by rw [← rp.length]; exact hl, ?_⟩
  refine q _ _ α2 ((n1.trans r0.mem n2).trans r0.mem (Nx.write r2.mem r2.tab hp' e3 (rp.append ?_))) rfl
  show RPs _ _ [_] [_]
  unfold RPs
  exact ⟨rw_, by unfold RPs; trivial⟩
end
end IX
end

section
set_option Elab.async false
set_option autoImplicit false
set_option linter.all false
set_option maxRecDepth 100000
set_option maxHeartbeats 4000000
/-! Targets, statements, loops. -/
namespace IX
open PySem PySem.Spec PyProof.Rows L2 GX
/-- outside is the slots nothing is stored -/
def Same (is : List Nat) (σ σ' : L2.St) : Prop := σ'.length = σ.length ∧ ∀ i, i ∉ is → σ'[i]? = σ[i]?
theorem Same.trans {is js : List Nat} {σ σ1 σ2 : L2.St} (a : Same is σ σ1) (b : Same js σ1 σ2) : Same (is ++ js) σ σ2 := ⟨b.1.trans a.1, fun i h => by
  rw [List.mem_append, not_or] at h
  exact (b.2 i h.2).trans (a.2 i h.1)⟩
theorem Same.set (i : Nat) (v : Option V) (σ : L2.St) : Same [i] σ (σ.set i v) := ⟨by simp, fun j h => by
  rw [List.getElem?_set_ne]
  intro e; exact h (by simp [e])⟩
theorem wipe_get (σ : L2.St) : ∀ (vs : List Nat) (i : Nat), (wipe σ vs)[i]? = if i ∈ vs then (if i < σ.length then some none else none) else σ[i]?
  | [], i => by simp [wipe]
  | v :: vs, i => by
    have ih := wipe_get σ vs i
    have hl := wipe_length σ vs
    show ((wipe σ vs).set v none)[i]? = _
    by_cases h : v = i
    · subst h
      by_cases hv : v < σ.length
      · rw [List.getElem?_set_self (by rw [hl]; exact hv)]; simp [hv]
      · rw [List.getElem?_eq_none (by rw [List.length_set, hl]; omega)]; simp [hv]
    · rw [List.getElem?_set_ne h, ih]
      have : (i ∈ v :: vs) ↔ i ∈ vs := by simp [Ne.symm h]
      simp only [this]
theorem Same.wipe {is vs : List Nat} {σ σ' : L2.St} (h : Same is (wipe σ vs) σ') (hs : ∀ i ∈ is, i ∈ vs) : wipe σ' vs = wipe σ vs := by
  refine List.ext_getElem? fun i => ?_
  have hl : σ'.length = σ.length := h.1.trans (wipe_length σ vs)
  rw [wipe_get, wipe_get, hl]
  by_cases hi : i ∈ vs
  · rw [if_pos hi, if_pos hi]
  · rw [if_neg hi, if_neg hi, h.2 i (fun z => hi (hs i z)), wipe_get, if_neg hi]
theorem REnv.set {K : PySem.W.Frag} {H : Hp} {α : List Addr} {ρ : Env} {σ : L2.St} {d : D} {v : V} (e : REnv K H α ρ σ) (r : RD K H α d v) (i : Nat) : REnv K H α (ρ.set i (some d)) (σ.set i (some v)) := ⟨by simp [e.len], fun j d' h => by
  by_cases hj : i = j
  · subst hj
    by_cases hl : i < ρ.length
    · rw [List.getElem?_set_self hl] at h
      cases h
      exact ⟨v, by rw [List.getElem?_set_self (by rw [← e.len]; exact hl)], r⟩
    · rw [List.getElem?_eq_none (by simpa using hl)] at h; cases h
  · rw [List.getElem?_set_ne hj] at h
    obtain ⟨w, h1, h2⟩ := e.cell j d' h
    exact ⟨w, by rw [List.getElem?_set_ne hj]; exact h1, h2⟩⟩
theorem REnv.wipe {K : PySem.W.Frag} {H : Hp} {α : List Addr} {ρ : Env} {σ : L2.St} (e : REnv K H α ρ σ) : ∀ vs : List Nat, REnv K H α (wipeE ρ vs) (wipe σ vs)
  | [] => e
  | v :: vs => by
    have ih := REnv.wipe e vs
    refine ⟨by show ((wipeE ρ vs).set v none).length = ((L2.wipe σ vs).set v none).length; simp [ih.len], fun j d h => ?_⟩
    have h : ((wipeE ρ vs).set v none)[j]? = some (some d) := h
    show ∃ u, ((L2.wipe σ vs).set v none)[j]? = some (some u) ∧ _
    by_cases hj : v = j
    · subst hj
      by_cases hl : v < (wipeE ρ vs).length
      · rw [List.getElem?_set_self hl] at h; cases h
      · rw [List.getElem?_eq_none (by simpa using hl)] at h; cases h
    · rw [List.getElem?_set_ne hj] at h ⊢
      exact ih.cell j d h
/-- a target's reading, a datum stored -/
def tGp (X : Cx) (t : T) : TG := fun v σ H Q => ∃ ρ M α x ρ', RS X σ H ρ M α ∧ RP X.K H x v ∧ t.put x ρ = some ρ' ∧ ∀ σ', REnv X.K H α ρ' σ' → Same t.slots σ σ' → Q σ' H
def tGs (X : Cx) (ts : List T) : TGs := fun vs σ H Q => ∃ ρ M α xs ρ', RS X σ H ρ M α ∧ RPs X.K H xs vs ∧ T.puts ts xs ρ = some ρ' ∧ ∀ σ', REnv X.K H α ρ' σ' → Same (T.slotss ts) σ σ' → Q σ' H
def tGd (X : Cx) (t : T) : TG := fun v σ H Q => ∃ ρ M α d ρ', RS X σ H ρ M α ∧ RD X.K H α d v ∧ t.putD d ρ = some ρ' ∧ ∀ σ', REnv X.K H α ρ' σ' → Same t.slots σ σ' → Q σ' H
theorem _root_.L2.PG.weak {X : Cx} {e : Expr} {t t' : TG} (h : PG X e t) (w : ∀ v σ H Q, t' v σ H Q → t v σ H Q) : PG X e t' := ⟨fun pins s σ H v u Q I r q => h.run pins s σ H v u Q I r (w v σ H Q q)⟩
theorem _root_.L2.PGs.weak {X : Cx} {e : List Expr} {t t' : TGs} (h : PGs X e t) (w : ∀ v σ H Q, t' v σ H Q → t v σ H Q) : PGs X e t' := ⟨fun pins s σ H v u Q I r q => h.run pins s σ H v u Q I r (w v σ H Q q)⟩
section
variable {X : Cx} {pos : Pos} {e : Expr} {es : List Expr}
theorem g_nm {i : Nat} {x : Str} (hN : X.N.Nodup) (hi : X.N[i]? = some x) (hx : Loc X.env.scope x) (hf : X.fn x = true ∨ X.env.scope.names.lookup x = some .local) : PG X (.Name x pos) (tGp X (.nm i)) := (pg_name hN hi hx hf).weak fun v σ H Q h => by
  obtain ⟨ρ, M, α, x, ρ', r, rp, hp, q⟩ := h
  simp only [T.put] at hp
  split at hp <;> try contradiction
  cases hp
  exact q _ (r.env.set (d := .p x) rp i) (Same.set i _ σ)
theorem g_nmD {i : Nat} {x : Str} (hN : X.N.Nodup) (hi : X.N[i]? = some x) (hx : Loc X.env.scope x) (hf : X.fn x = true ∨ X.env.scope.names.lookup x = some .local) : PG X (.Name x pos) (tGd X (.nm i)) := (pg_name hN hi hx hf).weak fun v σ H Q h => by
  obtain ⟨ρ, M, α, d, ρ', r, rp, hp, q⟩ := h
  simp only [T.putD] at hp
  split at hp <;> try contradiction
  cases hp
  exact q _ (r.env.set rp i) (Same.set i _ σ)
theorem gs_nil : PGs X [] (tGs X []) := pgs_nil.weak fun vs σ H Q h => by
  obtain ⟨ρ, M, α, xs, ρ', r, rp, hp, q⟩ := h
  cases xs with
  | nil =>
    cases hp
    exact ⟨rps_nil rp, q σ r.env ⟨rfl, fun _ _ => rfl⟩⟩
  | cons _ _ => cases hp
theorem gs_cons {t : T} {ts : List T} (h1 : PG X e (tGp X t)) (h2 : PGs X es (tGs X ts)) (hs : (assignEach (e :: es) X.env).map (·.2) = assign e X.env :: (assignEach es X.env).map (·.2)) : PGs X (e :: es) (tGs X (t :: ts)) := (pgs_cons h1 h2 hs).weak fun vs σ H Q h => by
  obtain ⟨ρ, M, α, xs, ρ', r, rp, hp, q⟩ := h
  cases xs with
  | nil => cases hp
  | cons x xs =>
    cases vs with
    | nil => exact absurd (rps_nil2 rp) (by simp)
    | cons v vs =>
      unfold RPs at rp
      obtain ⟨ρ1, e1, e2⟩ := Option.bind_eq_some_iff.mp (show (T.put t x ρ).bind (fun ρ' => T.puts ts xs ρ') = some ρ' from hp)
      refine ⟨v, vs, rfl, ρ, M, α, x, ρ1, r, rp.1, e1, fun σ1 h1 s1 => ?_⟩
      refine ⟨ρ1, M, α, xs, ρ', r.with h1, rp.2, e2, fun σ2 h2 s2 => ?_⟩
      exact q σ2 h2 (s1.trans s2)
theorem puts_len : ∀ {ts : List T} {xs : List P} {ρ ρ' : Env}, T.puts ts xs ρ = some ρ' → xs.length = ts.length
  | [], [], _, _, _ => rfl
  | t :: ts, x :: xs, ρ, ρ', h => by
    obtain ⟨ρ1, e1, e2⟩ := Option.bind_eq_some_iff.mp (show (T.put t x ρ).bind (fun ρ' => T.puts ts xs ρ') = some ρ' from h)
    rw [List.length_cons, List.length_cons, puts_len e2]
  | [], _ :: _, _, _, h => by cases h
  | _ :: _, [], _, _, h => by cases h
theorem g_tp {ts : List T} {k : Nat} (hc : X.calm = true) (h : PGs X es (tGs X ts)) (hn : (assignEach es X.env).length = ts.length) (hst : (assignEach es X.env).findIdx? (·.1) = none) : PG X (.Tuple es k pos) (tGp X (.tp ts)) := (pg_tup hc h hn hst).weak fun v σ H Q h => by
  obtain ⟨ρ, M, α, x, ρ', r, rp, hp, q⟩ := h
  cases x with
  | tup l =>
    have hp : T.puts ts l ρ = some ρ' := hp
    obtain ⟨a, vs, rfl, s, rs⟩ := rd_tuple (α := α) (show RD X.K H α (.p (.tup l)) v from rp)
    exact ⟨a, vs, rfl, s, by rw [← rs.length]; exact puts_len hp, ρ, M, α, l, ρ', r, rs, hp, q⟩
  | _ => cases hp
theorem g_tpD {ts : List T} (h : PG X e (tGp X (.tp ts))) : PG X e (tGd X (.tp ts)) := h.weak fun v σ H Q h => by
  obtain ⟨ρ, M, α, d, ρ', r, rp, hp, q⟩ := h
  cases d with
  | p x => exact ⟨ρ, M, α, x, ρ', r, rp, hp, q⟩
  | _ => cases hp
/-! ### statements -/
def EndsI (X : Cx) (α : List Addr) (H : Hp) (D : Ends) : Out → Prop
  | .nx ρ' M' => ∀ σ' H' α', Nx X.K α H α' H' M' → REnv X.K H' α' ρ' σ' → D.nx σ' H'
  | .bk ρ' M' => ∀ σ' H' α', Nx X.K α H α' H' M' → REnv X.K H' α' ρ' σ' → D.bk σ' H'
  | .ct ρ' M' => ∀ σ' H' α', Nx X.K α H α' H' M' → REnv X.K H' α' ρ' σ' → D.ct σ' H'
  | .rt d M' => ∀ v H' α', Nx X.K α H α' H' M' → RD X.K H' α' d v → D.rt v H'
theorem EndsI.step {α α1 : List Addr} {H H1 : Hp} {M M1 : Mem} {D : Ends} {o : Out} (m : RM X.K H α M) (n : Nx X.K α H α1 H1 M1) (h : EndsI X α H D o) : EndsI X α1 H1 D o := by
  cases o with
  | nx ρ' M' => exact fun σ' H' α' n' e => h σ' H' α' (n.trans m n') e
  | bk ρ' M' => exact fun σ' H' α' n' e => h σ' H' α' (n.trans m n') e
  | ct ρ' M' => exact fun σ' H' α' n' e => h σ' H' α' (n.trans m n') e
  | rt ρ' M' => exact fun σ' H' α' n' e => h σ' H' α' (n.trans m n') e
def tS (X : Cx) (f : Env → Mem → Option Out) : TS := fun D σ H => ∃ ρ M α o, RS X σ H ρ M α ∧ f ρ M = some o ∧ EndsI X α H D o
variable {f g : Env → Mem → Option Out} {fa fb fc : Env → Mem → Option (D × Mem)} {ga : Env → Mem → Option (Bool × Mem)} {fs : Env → Mem → Option (List D × Mem)} {st : Stmt} {sts : List Stmt}
theorem ss_nil : PSs X [] (tS X fun ρ M => some (.nx ρ M)) := pss_nil.weak fun D σ H h => by
  obtain ⟨ρ, M, α, o, r, e, q⟩ := h
  cases e
  exact q σ H α (Nx.refl r.mem r.tab) r.env
theorem ss_cons (h1 : PS X st (tS X f)) (h2 : PSs X sts (tS X g)) : PSs X (st :: sts) (tS X fun ρ M => do
    match ← f ρ M with
    | .nx ρ M => g ρ M
    | o => some o) := (pss_cons h1 h2).weak fun D σ H h => by
  obtain ⟨ρ, M, α, o, r, e, q⟩ := h
  obtain ⟨o1, e1, e⟩ := ob e
  refine ⟨ρ, M, α, o1, r, e1, ?_⟩
  cases o1 with
  | nx ρ1 M1 =>
    intro σ' H' α' n re
    exact ⟨ρ1, M1, α', o, (r.step n).with re, e, q.step r.mem n⟩
  | bk ρ1 M1 => cases e; exact q
  | ct ρ1 M1 => cases e; exact q
  | rt d M1 => cases e; exact q
theorem s_pas : PS X (.Pass pos) (tS X fun ρ M => some (.nx ρ M)) := ps_pass.weak fun D σ H h => by
  obtain ⟨ρ, M, α, o, r, e, q⟩ := h
  cases e
  exact q σ H α (Nx.refl r.mem r.tab) r.env
theorem s_doc {x : Str} {j : Nat} {pos' : Pos} : PS X (.Expr (.Constant (.str x) j pos) pos') (tS X fun ρ M => some (.nx ρ M)) := ps_doc.weak fun D σ H h => by
  obtain ⟨ρ, M, α, o, r, e, q⟩ := h
  cases e
  exact q σ H α (Nx.refl r.mem r.tab) r.env
theorem s_brk : PS X (.Break pos) (tS X fun ρ M => some (.bk ρ M)) := ps_break.weak fun D σ H h => by
  obtain ⟨ρ, M, α, o, r, e, q⟩ := h
  cases e
  exact q σ H α (Nx.refl r.mem r.tab) r.env
theorem s_cnt : PS X (.Continue pos) (tS X fun ρ M => some (.ct ρ M)) := ps_continue.weak fun D σ H h => by
  obtain ⟨ρ, M, α, o, r, e, q⟩ := h
  cases e
  exact q σ H α (Nx.refl r.mem r.tab) r.env
theorem s_ret (he : PE X e (tI X fa)) : PS X (.Return (some e) pos) (tS X fun ρ M => do
    let (d, M) ← fa ρ M
    some (.rt d M)) := (ps_ret he).weak fun D σ H h => by
  obtain ⟨ρ, M, α, o, r, e, q⟩ := h
  obtain ⟨⟨d, M1⟩, e1, e⟩ := ob e
  cases e
  exact ⟨ρ, M, α, d, M1, r, e1, q⟩
theorem s_retn : PS X (.Return none pos) (tS X fun _ M => some (.rt (.p .non) M)) := ps_retN.weak fun D σ H h => by
  obtain ⟨ρ, M, α, o, r, e, q⟩ := h
  cases e
  exact q .non H α (Nx.refl r.mem r.tab) rfl
theorem s_ex (he : PE X e (tI X fa)) (hs : swapsWith e none pos.line X.env = pure false) : PS X (.Expr e pos) (tS X fun ρ M => do
    let (_, M) ← fa ρ M
    some (.nx ρ M)) := (ps_expr he hs).weak fun D σ H h => by
  obtain ⟨ρ, M, α, o, r, e, q⟩ := h
  obtain ⟨⟨d, M1⟩, e1, e⟩ := ob e
  cases e
  exact tI.use r e1 fun v H' α' n _ r1 => q σ H' α' n r1.env
theorem s_if {a b : List Stmt} {c : Expr} (hc : PT X c (tIT X ga)) (ha : PSs X a (tS X f)) (hb : PSs X b (tS X g)) : PS X (.If c a b pos) (tS X fun ρ M => do
    let (c, M) ← ga ρ M
    if c then f ρ M else g ρ M) := (ps_if hc ha hb).weak fun D σ H h => by
  obtain ⟨ρ, M, α, o, r, e, q⟩ := h
  obtain ⟨⟨b, M1⟩, e1, e⟩ := ob e
  refine tIT.use r e1 fun H1 α1 n1 r1 => ?_
  cases b with
  | true => exact ⟨ρ, M1, α1, o, r1, e, q.step r.mem n1⟩
  | false => exact ⟨ρ, M1, α1, o, r1, e, q.step r.mem n1⟩
def setF (t : T) (fa : Env → Mem → Option (D × Mem)) : Env → Mem → Option Out := fun ρ M => do
    let (d, M) ← fa ρ M
    let ρ' ← t.putD d ρ
    some (.nx ρ' M)
theorem asg_of {te : TE} {t : T} {Dn : Ends} {σ : L2.St} {H : Hp} (ht : ∀ Q, tI X fa σ H Q → te σ H Q) (h : tS X (setF t fa) Dn σ H) : tAsg te (tGd X t) Dn σ H := by
  obtain ⟨ρ, M, α, o, r, e, q⟩ := h
  obtain ⟨⟨d, M1⟩, e1, e⟩ := ob e
  obtain ⟨ρ', e2, e⟩ := ob e
  cases e
  refine ht _ (tI.use r e1 fun v H' α' n rd r1 => ?_)
  exact ⟨ρ, M1, α', d, ρ', r1, rd, e2, fun σ' re _ => q σ' H' α' n re⟩
theorem gname_of {te : TE} {i : Nat} {Dn : Ends} {σ : L2.St} {H : Hp} (ht : ∀ Q, tI X fa σ H Q → te σ H Q) (h : tS X (setF (.nm i) fa) Dn σ H) : tAsg te (gName i) Dn σ H := by
  obtain ⟨ρ, M, α, o, r, e, q⟩ := h
  obtain ⟨⟨d, M1⟩, e1, e⟩ := ob e
  obtain ⟨ρ', e2, e⟩ := ob e
  cases e
  refine ht _ (tI.use r e1 fun v H' α' n rd r1 => ?_)
  simp only [T.putD] at e2
  split at e2 <;> try contradiction
  cases e2
  exact q _ H' α' n (r1.env.set rd i)
theorem s_set {i : Nat} {x : Str} {pos' : Pos} (hN : X.N.Nodup) (hi : X.N[i]? = some x) (hx : Loc X.env.scope x) (he : PE X e (tI X fa)) (hs : swapsWith e (some (.Name x pos')) pos.line X.env = pure false) (hf : X.fn x = true ∨ X.env.scope.names.lookup x = some .local) :
    PS X (.Assign [.Name x pos'] e pos) (tS X (setF (.nm i) fa)) := (ps_set hN hi hx he hs hf).weak fun D σ H h => gname_of (fun _ q => q) h
theorem s_asg {t : T} {tg : Expr} (he : PE X e (tI X fa)) (hg : PG X tg (tGd X t)) (hs : swapsWithSole [tg] e pos.line X.env = pure false) (hw : swappedStores [tg] e X.env = pure none)
    (h1 : (assignEach [tg] X.env).map (·.2) = [assign tg X.env]) : PS X (.Assign [tg] e pos) (tS X (setF t fa)) := (ps_asg he hg hs hw h1).weak fun D σ H h => asg_of (fun _ q => q) h
theorem s_par {i j : Nat} {x y : Str} {a b : Expr} {px py pt : Pos} {kt k2 : Nat} {pt2 : Pos} (hc : X.calm = true) (hN : X.N.Nodup) (hi : X.N[i]? = some x) (hj : X.N[j]? = some y) (hij : i ≠ j)
    (hx : X.env.scope.names.lookup x = some .local) (hy : X.env.scope.names.lookup y = some .local) (ha : PA X [a, b] (tIA X fs))
    (hw : swappedStores [.Tuple [.Name x px, .Name y py] kt pt] (.Tuple [a, b] k2 pt2) X.env = pure (some [x, y]))
    (hs : swapsWithSole [.Tuple [.Name x px, .Name y py] kt pt] (.Tuple [a, b] k2 pt2) pos.line X.env = pure false) :
    PS X (.Assign [.Tuple [.Name x px, .Name y py] kt pt] (.Tuple [a, b] k2 pt2) pos) (tS X fun ρ M => do
      let (ds, M) ← fs ρ M
      let ρ' ← parE [i, j] ds ρ
      some (.nx ρ' M)) := (ps_par hc hN hi hj hij hx hy ha hw hs).weak fun D σ H h => by
  obtain ⟨ρ, M, α, o, r, e, q⟩ := h
  obtain ⟨⟨ds, M1⟩, e1, e⟩ := ob e
  obtain ⟨ρ', e2, e⟩ := ob e
  cases e
  refine tIA.use r e1 fun vs H' α' n rd r1 => ?_
  match ds, e2, rd with
  | [d1, d2], e2, rd =>
    obtain ⟨v, w, rfl, h1, h2⟩ := rds2 rd
    simp only [parE, List.length_set] at e2
    split at e2 <;> try contradiction
    split at e2 <;> try contradiction
    cases e2
    exact ⟨v, w, rfl, q _ H' α' n ((r1.env.set h1 i).set h2 j)⟩
  | [], e2, _ => cases e2
  | [_], e2, _ =>
    simp only [parE] at e2
    split at e2 <;> cases e2
  | _ :: _ :: _ :: _, e2, _ =>
    simp only [parE, List.length_set] at e2
    split at e2 <;> try contradiction
    split at e2 <;> cases e2
theorem s_par3 {i j l : Nat} {x y z : Str} {a b c : Expr} {px py pz pt : Pos} {kt k2 : Nat} {pt2 : Pos} (hc : X.calm = true) (hN : X.N.Nodup) (hi : X.N[i]? = some x) (hj : X.N[j]? = some y) (hl : X.N[l]? = some z) (hij : i ≠ j) (hil : i ≠ l) (hjl : j ≠ l)
    (hx : X.env.scope.names.lookup x = some .local) (hy : X.env.scope.names.lookup y = some .local) (hz : X.env.scope.names.lookup z = some .local) (ha : PA X [a, b, c] (tIA X fs))
    (hw : swappedStores [.Tuple [.Name x px, .Name y py, .Name z pz] kt pt] (.Tuple [a, b, c] k2 pt2) X.env = pure (some [x, y, z]))
    (hs : swapsWithSole [.Tuple [.Name x px, .Name y py, .Name z pz] kt pt] (.Tuple [a, b, c] k2 pt2) pos.line X.env = pure false) :
    PS X (.Assign [.Tuple [.Name x px, .Name y py, .Name z pz] kt pt] (.Tuple [a, b, c] k2 pt2) pos) (tS X fun ρ M => do
      let (ds, M) ← fs ρ M
      let ρ' ← parE [i, j, l] ds ρ
      some (.nx ρ' M)) := (ps_par3 hc hN hi hj hl hij hil hjl hx hy hz ha hw hs).weak fun D σ H h => by
  obtain ⟨ρ, M, α, o, r, e, q⟩ := h
  obtain ⟨⟨ds, M1⟩, e1, e⟩ := ob e
  obtain ⟨ρ', e2, e⟩ := ob e
  cases e
  refine tIA.use r e1 fun vs H' α' n rd r1 => ?_
  match ds, e2, rd with
  | [d1, d2, d3], e2, rd =>
    match vs, rd with
    | [v, w, u], rd =>
      obtain ⟨h1, h2, h3, _⟩ := rd
      simp only [parE, List.length_set] at e2
      split at e2 <;> try contradiction
      split at e2 <;> try contradiction
      split at e2 <;> try contradiction
      cases e2
      exact ⟨v, w, u, rfl, q _ H' α' n (((r1.env.set h1 i).set h2 j).set h3 l)⟩
    | [], rd => exact rd.elim
    | [_], rd => exact rd.2.elim
    | [_, _], rd => exact rd.2.2.elim
    | _ :: _ :: _ :: _ :: _, rd => exact rd.2.2.2.elim
  | [], e2, _ => cases e2
  | [_], e2, _ =>
    simp only [parE] at e2
    split at e2 <;> cases e2
  | [_, _], e2, _ =>
    simp only [parE, List.length_set] at e2
    split at e2 <;> try contradiction
    split at e2 <;> cases e2
  | _ :: _ :: _ :: _ :: _, e2, _ =>
    simp only [parE, List.length_set] at e2
    split at e2 <;> try contradiction
    split at e2 <;> try contradiction
    split at e2 <;> cases e2
theorem seti_ok {K : PySem.W.Frag} {H : Hp} {xs ys : List P} {vs : List V} {i : Int} {x : P} {v : V} (r : RPs K H xs vs) (rv : RP K H x v) (h : seti xs i x = some ys) : ∃ j, ixN vs.length i = some j ∧ RPs K H ys (vs.set j v) := by
  unfold seti at h
  obtain ⟨j, e1, rfl⟩ := Option.map_eq_some_iff.mp h
  rw [pix_eq, r.length] at e1
  exact ⟨j, e1, r.set rv⟩
theorem s_seti {o i : Expr} {pt : Pos} (he : PE X e (tI X fa)) (ho : PE X o (tI X fb)) (hi : PE X i (tI X fc))
    (ha : ∀ v, assign (.Subscript o i pt) X.env v = (do
      let ov ← holding [v] (eval o X.env)
      let iv ← holding [v, ov] (eval i X.env)
      standAt pt
      holding [v, ov, iv] (setItem ov iv v)
      release [v, ov, iv] []))
    (hs : swapsWithSole [.Subscript o i pt] e pos.line X.env = pure false) (hw : swappedStores [.Subscript o i pt] e X.env = pure none) (h1 : (assignEach [.Subscript o i pt] X.env).map (·.2) = [assign (.Subscript o i pt) X.env]) :
    PS X (.Assign [.Subscript o i pt] e pos) (tS X fun ρ M => do
      let (d, M) ← fa ρ M
      let (x, M) ← fb ρ M
      let (k, M) ← fc ρ M
      match x, k, d with
      | .l j, .p (.int k), .p v => do
        let xs ← M[j]?
        let ys ← seti xs k v
        some (.nx ρ (M.set j ys))
      | _, _, _ => none) := (ps_asg he (pg_sub ho hi set_list ha) hs hw h1).weak fun D σ H h => by
  obtain ⟨ρ, M, α, o, r, e, q⟩ := h
  obtain ⟨⟨d, M1⟩, e1, e⟩ := ob e
  obtain ⟨⟨x, M2⟩, e2, e⟩ := ob e
  obtain ⟨⟨k, M3⟩, e3, e⟩ := ob e
  dsimp only at e
  split at e <;> try contradiction
  obtain ⟨xs, e4, e⟩ := ob e
  obtain ⟨ys, e5, e⟩ := ob e
  cases e
  refine tI.use r e1 fun v H1 α1 n1 d1 r1 => tI.use r1 e2 fun w H2 α2 n2 d2 r2 => tI.use r2 e3 fun u H3 α3 n3 d3 r3 => ?_
  obtain ⟨p, vs, rfl, hp, s, rp⟩ := rd_list r3.mem (n3.rd r2.mem d2) e4
  obtain ⟨j, hj, rp'⟩ := seti_ok rp (show RP _ _ _ v from n3.rd r2.mem (n2.rd r1.mem d1)) e5
  have nn := Nx.write r3.mem r3.tab hp e4 rp'
  exact ⟨p, vs, _, j, rfl, rd_int d3, s, hj, q σ _ α3 (((n1.trans r.mem n2).trans r.mem n3).trans r.mem nn) (nn.env r3.mem r3.env)⟩
theorem augop_ok {o : BO} {x y : D} {z : P} (h : augop o x y = some z) : (o = .add ∧ ∃ a b, x = .p (.int a) ∧ y = .p (.int b) ∧ z = .int (a + b)) ∨ (o = .sub ∧ ∃ a b, x = .p (.int a) ∧ y = .p (.int b) ∧ z = .int (a - b)) := by
  unfold augop at h
  split at h <;> try contradiction
  · cases h; exact .inl ⟨rfl, _, _, rfl, rfl, rfl⟩
  · cases h; exact .inr ⟨rfl, _, _, rfl, rfl, rfl⟩
def augTI : BO → TIp
  | .add => ipI fun i j => i + j
  | .sub => ipI fun i j => i - j
  | _ => fun _ _ _ _ => False
def boOp : BO → Operator
  | .add => .Add | .sub => .Sub | .mul => .Mult | .fdiv => .FloorDiv | .mod => .Mod | .pow => .Pow
theorem aug_pip (o : BO) : PIp X (boOp o) (augTI o) := by
  cases o
  · exact ip_add
  · exact ip_sub
  all_goals exact fun _ _ _ _ _ _ _ _ _ _ _ _ h => h.elim
theorem aug_ti {K : PySem.W.Frag} {H : Hp} {α : List Addr} {o : BO} {x y : D} {z : P} {v u : V} {Q : VK} (h : augop o x y = some z) (rx : RD K H α x v) (ry : RD K H α y u) (q : ∀ w, RD K H α (.p z) w → Q w H) : augTI o v u H Q := by
  rcases augop_ok h with ⟨rfl, a, b, rfl, rfl, rfl⟩ | ⟨rfl, a, b, rfl, rfl, rfl⟩
  · exact ⟨a, b, rx, ry, q _ (by exact rfl)⟩
  · exact ⟨a, b, rx, ry, q _ (by exact rfl)⟩
theorem s_aug {i : Nat} {x : Str} {o : BO} {pos' : Pos} (hN : X.N.Nodup) (hi : X.N[i]? = some x) (hx : Loc X.env.scope x) (he : PE X e (tI X fa)) (hf : X.fn x = true ∨ X.env.scope.names.lookup x = some .local) :
    PS X (.AugAssign (.Name x pos') (boOp o) e pos) (tS X fun ρ M => do
      match ρ[i]? with
      | some (some x) => do
        let (y, M) ← fa ρ M
        let z ← augop o x y
        some (.nx (ρ.set i (some (.p z))) M)
      | _ => none) := (ps_aug hN hi hx he (aug_pip o) hf).weak fun D σ H h => by
  obtain ⟨ρ, M, α, o', r, e, q⟩ := h
  dsimp only at e
  split at e <;> try contradiction
  rename_i x hx
  obtain ⟨⟨y, M1⟩, e1, e⟩ := ob e
  obtain ⟨z, e2, e⟩ := ob e
  cases e
  obtain ⟨v, e3, rv⟩ := r.env.cell i x hx
  refine ⟨v, e3, tI.use r e1 fun u H1 α1 n1 d1 r1 => ?_⟩
  exact aug_ti e2 (n1.rd r.mem rv) d1 fun w rw_ => q _ H1 α1 n1 (r1.env.set (d := .p z) rw_ i)
/-- xs[i], by values -/
def rGetL (K : PySem.W.Frag) : V → V → Hp → VK → Prop := fun x y H Q => ∃ p xs i v, x = .ref p ∧ y = .int i ∧ SqL K H p xs ∧ atI xs i = some v ∧ Q v H
theorem get_list : PGet X (rGetL X.K) := by
  intro pins s σ H x y v u Q I rx ry h
  obtain ⟨p, xs, i, z, rfl, rfl, hq, he, q⟩ := h
  cases rx
  obtain ⟨t, rfl⟩ := ry
  obtain ⟨its, r, pl, hz⟩ := I.list hq
  obtain ⟨j, h1, h2, h3, h4, h5⟩ := atI_get he
  obtain ⟨w, ew, rw'⟩ := r.get h2
  have hl := r.length
  have hn := line63
  have fin : EP X pins σ Q w s := ⟨z, H, I, rw', q⟩
  by_cases h0 : 0 ≤ i
  · have hj : i.toNat = j := by
      rw [seqIndex_of h0 h5] at h1
      exact Option.some.inj h1
    exact wpAny_getItem_list pl.isList h0 (by omega) (by rw [hj]; simpa using ew) fin
  · have hj : (i + (its.toArray.size : Int)).toNat = j := by
      rw [seqIndex_neg (by omega) h4] at h1
      rw [List.size_toArray, ← hl]
      exact Option.some.inj h1
    exact wpAny_getItem_list_neg pl.isList (by omega) (by rw [List.size_toArray] <;> omega) (by omega) (by rw [hj]; simpa using ew) fin
theorem s_augi {a i : Expr} {o : BO} {pt : Pos} (ho : PE X a (tI X fa)) (hi : PE X i (tI X fb)) (he : PE X e (tI X fc))
    (ha : ∀ ov iv new, augStore i ov iv new = (do holding [new, ov, iv] (setItem ov iv new); release [new, ov, iv] []; pure .next)) :
    PS X (.AugAssign (.Subscript a i pt) (boOp o) e pos) (tS X fun ρ M => do
      let (x, M) ← fa ρ M
      let (k, M) ← fb ρ M
      let old ← index x k M
      let (y, M) ← fc ρ M
      let z ← augop o (.p old) y
      match x, k with
      | .l j, .p (.int k) => do
        let xs ← M[j]?
        let ys ← seti xs k z
        some (.nx ρ (M.set j ys))
      | _, _ => none) := (ps_augS ho hi get_list he (aug_pip o) set_list ha).weak fun D σ H h => by
  obtain ⟨ρ, M, α, o', r, e, q⟩ := h
  obtain ⟨⟨x, M1⟩, e1, e⟩ := ob e
  obtain ⟨⟨k, M2⟩, e2, e⟩ := ob e
  obtain ⟨old, e3, e⟩ := ob e
  obtain ⟨⟨y, M3⟩, e4, e⟩ := ob e
  obtain ⟨z, e5, e⟩ := ob e
  split at e <;> try contradiction
  obtain ⟨xs, e6, e⟩ := ob e
  obtain ⟨ys, e7, e⟩ := ob e
  cases e
  refine tI.use r e1 fun v H1 α1 n1 d1 r1 => tI.use r1 e2 fun w H2 α2 n2 d2 r2 => ?_
  obtain ⟨xs0, e8, e9⟩ := Option.bind_eq_some_iff.mp (show (items M2 (.l _)).bind _ = some old from e3)
  obtain ⟨p, vs, rfl, hp, s, rp⟩ := rd_list r2.mem (n2.rd r1.mem d1) e8
  obtain ⟨ov, e10, rov⟩ := atx_ok rp e9
  refine ⟨p, vs, _, ov, rfl, rd_int d2, .inl (.inl s), e10, ?_⟩
  refine tI.use r2 e4 fun u H3 α3 n3 d3 r3 => ?_
  refine aug_ti e5 (n3.rd r2.mem (d := .p old) rov) d3 fun zv rz => ?_
  obtain ⟨p', vs', e11, hp', s', rp'⟩ := rd_list r3.mem (n3.rd r2.mem (n2.rd r1.mem d1)) e6
  cases e11
  obtain ⟨j, hj, rp2⟩ := seti_ok rp' (show RP _ _ _ zv from rz) e7
  have nn := Nx.write r3.mem r3.tab hp' e6 rp2
  exact ⟨p, vs', _, j, rfl, rd_int d2, s', hj, q σ _ α3 (((n1.trans r.mem n2).trans r.mem n3).trans r.mem nn) (nn.env r3.mem r3.env)⟩
/-- while -/
theorem s_while {c : Expr} {N : Nat} (hp : PassesOwn (model X.prog X.w) X.A X.env X.xe) (hc : PT X c (tIT X ga)) (hb : PSs X sts (tS X f)) : PS X (.While c sts [] pos) (tS X (whileL ga f N)) := (ps_while hp hc hb).weak fun D σ H h => by
  obtain ⟨ρ, M, α, o, r, e, q⟩ := h
  refine ⟨fun m σ1 H1 => ∃ ρ1 M1 α1, RS X σ1 H1 ρ1 M1 α1 ∧ Nx X.K α H α1 H1 M1 ∧ whileL ga f m ρ1 M1 = some o, ⟨N, ρ, M, α, r, Nx.refl r.mem r.tab, e⟩, ?_⟩
  rintro m σ1 H1 ⟨ρ1, M1, α1, r1, n1, e⟩
  cases m with
  | zero => cases e
  | succ m =>
    obtain ⟨⟨b, M2⟩, e1, e⟩ := ob (show (do
      let (b, M) ← ga ρ1 M1
      if b then
        match ← f ρ1 M with
        | .nx ρ M => whileL ga f m ρ M
        | .ct ρ M => whileL ga f m ρ M
        | .bk ρ M => some (.nx ρ M)
        | .rt d M => some (.rt d M)
      else some (.nx ρ1 M)) = some o from e)
    refine tIT.use r1 e1 fun H2 α2 n2 r2 => ?_
    have n12 := n1.trans r.mem n2
    cases b with
    | false =>
      cases e
      exact q σ1 H2 α2 n12 r2.env
    | true =>
      obtain ⟨o1, e2, e⟩ := ob e
      refine ⟨fun σ' H' => ∃ ρ1 M1 α1, RS X σ' H' ρ1 M1 α1 ∧ Nx X.K α H α1 H' M1 ∧ whileL ga f m ρ1 M1 = some o, fun σ' H' h => ⟨m, Nat.lt_succ_self m, h⟩, ρ1, M2, α2, o1, r2, e2, ?_⟩
      cases o1 with
      | nx ρ3 M3 => exact fun σ' H' α' n re => ⟨ρ3, M3, α', (r2.step n).with re, n12.trans r.mem n, e⟩
      | ct ρ3 M3 => exact fun σ' H' α' n re => ⟨ρ3, M3, α', (r2.step n).with re, n12.trans r.mem n, e⟩
      | bk ρ3 M3 => cases e; exact fun σ' H' α' n re => q σ' H' α' (n12.trans r.mem n) re
      | rt d M3 => cases e; exact fun v H' α' n rd => q v H' α' (n12.trans r.mem n) rd
end
end IX
end

section
set_option Elab.async false
set_option autoImplicit false
set_option linter.all false
set_option maxRecDepth 100000
set_option maxHeartbeats 4000000
/-! What a loop walks; for; list comprehensions. -/
namespace IX
open PySem PySem.Spec PyProof.Rows L2 GX RZ
theorem grow_own {H : Hp} {D : Addr} {zs : List V} : Grow [D] H (upd H D (.lst zs)) := fun b o e => by
  by_cases hb : b = D
  · exact .inl (by simp [hb])
  · exact .inr (.inl (by rw [upd_ne hb]; exact e))
theorem na_own {H : Hp} {D : Addr} {acc : List V} (h : H D = some (.lst acc)) : ∀ b ∈ [D], ∃ xs, H b = some (.lst xs) := fun b hb => by
  rw [List.mem_singleton.mp hb]; exact ⟨acc, h⟩
def nos : D → Bool
  | .scr _ => false
  | _ => true
theorem rd_own {K : PySem.W.Frag} {H : Hp} {α : List Addr} {c : Addr} {acc zs : List V} {d : D} {v : V} (h : H c = some (.lst acc)) (hn : nos d = true) (r : RD K H α d v) : RD K (upd H c (.lst zs)) α d v := by
  cases d with
  | p x => exact RP.grow (na_own h) grow_own x v r
  | l i => exact r
  | scr xs => cases hn
theorem rm_own {K : PySem.W.Frag} {H : Hp} {α : List Addr} {M : Mem} {D : Addr} {acc zs : List V} (m : RM K H α M) (h : H D = some (.lst acc)) (hn : D ∉ α) : RM K (upd H D (.lst zs)) α M := ⟨m.nd, m.len, fun i a xs e1 e2 => by
  obtain ⟨vs, q, r⟩ := m.cell i a xs e1 e2
  refine ⟨vs, ?_, RPs.grow (na_own h) grow_own _ _ r⟩
  rw [upd_ne]
  · exact q
  · intro z; exact hn (by rw [← z]; exact List.mem_of_getElem? e1)⟩
theorem env_own {K : PySem.W.Frag} {H : Hp} {α : List Addr} {ρ : Env} {σ : L2.St} {D : Addr} {acc zs : List V} (e : REnv K H α ρ σ) (h : H D = some (.lst acc)) (hn : noScr ρ = true) : REnv K (upd H D (.lst zs)) α ρ σ := ⟨e.len, fun i d hd => by
  obtain ⟨v, q, r⟩ := e.cell i d hd
  refine ⟨v, q, rd_own h ?_ r⟩
  have := List.all_eq_true.mp hn _ (List.mem_of_getElem? hd)
  cases d <;> first | rfl | cases this⟩
theorem Nx.own {K : PySem.W.Frag} {H0 H : Hp} {α0 α : List Addr} {M : Mem} {D : Addr} {acc zs : List V} (n : Nx K α0 H0 α H M) (h0 : H0 D = none) (hD : D ∉ α) (e : H D = some (.lst acc)) : Nx K α0 H0 α (upd H D (.lst zs)) M := by
  refine ⟨fun b o hb => ?_, n.ext, rm_own n.mem e hD, tabPut n.tab (.inr ⟨acc, e⟩) fun ps z => by cases z⟩
  have hne : b ≠ D := fun z => by rw [z, h0] at hb; cases hb
  rcases n.grow b o hb with q | q | ⟨q, ps, q'⟩
  · exact .inl q
  · exact .inr (.inl (by rw [upd_ne hne]; exact q))
  · exact .inr (.inr ⟨q, ps, by rw [upd_ne hne]; exact q'⟩)
theorem Nx.notin {K : PySem.W.Frag} {H H' : Hp} {α α' : List Addr} {M' : Mem} {D : Addr} {o : HO} (n : Nx K α H α' H' M') (hD : D ∉ α) (e : H D = some o) : D ∉ α' := fun z => by
  obtain ⟨β, e1, f1⟩ := n.ext
  rw [e1] at z
  rcases List.mem_append.mp z with z | z
  · exact hD z
  · rw [f1 D z] at e; cases e
theorem Nx.keepD {K : PySem.W.Frag} {H H' : Hp} {α α' : List Addr} {M M' : Mem} {D : Addr} {acc : List V} (n : Nx K α H α' H' M') (m : RM K H α M) (hD : D ∉ α) (e : H D = some (.lst acc)) : H' D = some (.lst acc) :=
  grow_at (fun b hb => m.lst hb) n.grow e hD fun ps z => by cases z
theorem Nx.rps {K : PySem.W.Frag} {H H' : Hp} {α α' : List Addr} {M M' : Mem} (n : Nx K α H α' H' M') (m : RM K H α M) {xs : List P} {vs : List V} (r : RPs K H xs vs) : RPs K H' xs vs := RPs.grow (fun b hb => m.lst hb) n.grow xs vs r
theorem Nx.adopt {K : PySem.W.Frag} {H0 H : Hp} {α0 α : List Addr} {M : Mem} {D : Addr} {vs : List V} {xs : List P} (n : Nx K α0 H0 α H M) (h0 : H0 D = none) (hD : D ∉ α) (e : H D = some (.lst vs)) (r : RPs K H xs vs) : Nx K α0 H0 (α ++ [D]) H (M ++ [xs]) := by
  obtain ⟨β, e1, f1⟩ := n.ext
  refine ⟨n.grow, ⟨β ++ [D], by rw [e1, List.append_assoc], fun b hb => ?_⟩, ⟨?_, by simp [n.mem.len], fun i a ys a1 a2 => ?_⟩, n.tab⟩
  · rcases List.mem_append.mp hb with z | z
    · exact f1 b z
    · rw [List.mem_singleton.mp z]; exact h0
  · refine List.nodup_append.mpr ⟨n.mem.nd, by simp, fun a ha b hb => ?_⟩
    rw [List.mem_singleton.mp hb]
    exact fun z => hD (by rw [← z]; exact ha)
  · by_cases hi : i < α.length
    · rw [List.getElem?_append_left hi] at a1
      rw [List.getElem?_append_left (by rw [← n.mem.len]; exact hi)] at a2
      exact n.mem.cell i a ys a1 a2
    · have hi' : i = α.length := by
        have := (List.getElem?_eq_some_iff.mp a1).1
        simp at this; omega
      subst hi'
      rw [List.getElem?_append_right (Nat.le_refl _)] at a1
      rw [List.getElem?_append_right (by rw [n.mem.len]; exact Nat.le_refl _)] at a2
      simp at a1
      simp [n.mem.len] at a2
      subst a1; subst a2
      exact ⟨vs, e, r⟩
structure ItOk (K : PySem.W.Frag) (J : It) (s : Src) (In : Hp → List Addr → Prop) : Prop where
  step : ∀ H α M H' α' M', In H α → RM K H α M → Nx K α H α' H' M' → In H' α'
  atI : ∀ H α M i x, In H α → RM K H α M → TabAll H → s.ok M = true → s.xs[i]? = some x → J.go i H ∧ ∀ v H', J.yld i H v H' → Nx K α H α H' M ∧ RP K H' x v
  own : s.fr = true → ∀ (H : Hp) (α : List Addr) (M : Mem) (c : Addr) (acc zs : List V), In H α → RM K H α M → H c = some (.lst acc) → c ∉ α → In (upd H c (.lst zs)) α
  fin : ∀ H α M i, In H α → RM K H α M → TabAll H → s.ok M = true → s.xs.length ≤ i → J.stop i H
def iS (X : Cx) (k : IK) (fs : Env → Mem → Option (List D × Mem)) : TI := fun σ H R => ∃ ρ M α ds s M', RS X σ H ρ M α ∧ fs ρ M = some (ds, M') ∧ src k ds M' = some s ∧
  ∀ J H' α' In, Nx X.K α H α' H' M' → ItOk X.K J s In → In H' α' → s.ok M' = true → R J H'
theorem all1 {A : Type} {p : A → Bool} {a : A} (h : p a = true) : [a].all p = true := by simp [h]
theorem asSrc_ok {M : Mem} {d : D} {s : Src} (h : asSrc M d = some s) : s.ok M = true ∧ ∀ M', s.ok M' = true → items M' d = some s.xs := by
  unfold asSrc at h
  split at h <;> try contradiction
  · cases h; exact ⟨rfl, fun _ _ => rfl⟩
  · obtain ⟨xs, e, rfl⟩ := Option.map_eq_some_iff.mp h
    refine ⟨by simp [Src.ok, e], fun M' h' => ?_⟩
    show M'[_]? = _
    simpa [Src.ok] using h'
  · cases h; exact ⟨rfl, fun _ _ => rfl⟩
theorem asSrc_list {M M' : Mem} {d : D} {s : Src} (h : asSrc M d = some s) (hn : ∀ l, d ≠ .p (.tup l)) (ho : s.ok M' = true) : itemsL M' d = some s.xs := by
  have := (asSrc_ok h).2 M' ho
  cases d with
  | p x =>
    cases x with
    | tup l => exact absurd rfl (hn l)
    | _ => cases h
  | l i => exact this
  | scr xs => exact this
theorem asSrc_nos {M : Mem} {d : D} {s : Src} (h : asSrc M d = some s) (hf : s.fr = true) : nos d = true := by
  cases d with
  | scr xs => cases h; cases hf
  | _ => rfl
theorem it_list {K : PySem.W.Frag} {M0 : Mem} {d : D} {s : Src} {a : Addr} (h : asSrc M0 d = some s) (hn : ∀ l, d ≠ .p (.tup l)) : ItOk K (Itl K a) s fun H α => RD K H α d (.ref a) := by
  refine ⟨fun H α M H' α' M' r m n => n.rd m r, fun H α M i x r m t ho hx => ?_, fun hf H α M D acc zs r m e _ => rd_own e (asSrc_nos h hf) r, fun H α M i r m t ho hx => ?_⟩
  · obtain ⟨b, vs, e, q, rp⟩ := itemsL_rd m r (asSrc_list h hn ho)
    cases e
    obtain ⟨v, hv, rv⟩ := rp.get hx
    refine ⟨⟨vs, v, q, hv⟩, fun w H' ⟨e1, e2⟩ => ?_⟩
    subst e1
    have := e2 vs q
    rw [hv] at this; cases this
    exact ⟨Nx.refl m t, rv⟩
  · obtain ⟨b, vs, e, q, rp⟩ := itemsL_rd m r (asSrc_list h hn ho)
    cases e
    exact ⟨vs, q, by rw [← rp.length]; exact hx⟩
theorem it_tup {K : PySem.W.Frag} {l : List P} {a : Addr} : ItOk K (Itt K a) ⟨l, [], true⟩ fun H α => RD K H α (.p (.tup l)) (.ref a) := by
  refine ⟨fun H α M H' α' M' r m n => n.rd m r, fun H α M i x r m t ho hx => ?_, fun hf H α M D acc zs r m e _ => rd_own e rfl r, fun H α M i r m t ho hx => ?_⟩
  · obtain ⟨b, vs, e, q, rp⟩ := rd_tuple r
    cases e
    obtain ⟨v, hv, rv⟩ := rp.get hx
    refine ⟨⟨vs, v, q, hv⟩, fun w H' ⟨e1, e2⟩ => ?_⟩
    subst e1
    have := e2 vs q
    rw [hv] at this; cases this
    exact ⟨Nx.refl m t, rv⟩
  · obtain ⟨b, vs, e, q, rp⟩ := rd_tuple r
    cases e
    exact ⟨vs, q, by rw [← rp.length]; exact hx⟩
theorem it_rng {K : PySem.W.Frag} (lo : Int) (n : Nat) : ItOk K (Itr lo n) ⟨rangeP lo n, [], true⟩ fun _ _ => True := by
  refine ⟨fun _ _ _ _ _ _ _ _ _ => trivial, fun H α M i x _ m t _ hx => ?_, fun _ _ _ _ _ _ _ _ _ _ _ => trivial, fun H α M i _ m t _ hx => ?_⟩
  · have hx : (rangeP lo n)[i]? = some x := hx
    unfold rangeP at hx
    rw [List.getElem?_map] at hx
    obtain ⟨k, e1, e2⟩ := Option.map_eq_some_iff.mp hx
    obtain ⟨h1, h2⟩ := List.getElem?_eq_some_iff.mp e1
    rw [List.getElem_range] at h2
    rw [List.length_range] at h1
    subst h2
    refine ⟨h1, fun w H' ⟨e3, e4⟩ => ?_⟩
    subst e3
    refine ⟨Nx.refl m t, ?_⟩
    rw [← e2, e4]
    rfl
  · show n ≤ i
    have hx : (rangeP lo n).length ≤ i := hx
    unfold rangeP at hx
    simpa using hx
theorem enumP_get : ∀ (xs : List P) (k i : Nat), (enumP k xs)[i]? = (xs[i]?).map fun x => P.tup [.int ((k + i : Nat) : Int), x]
  | [], k, i => by simp [enumP]
  | x :: xs, k, 0 => by simp [enumP]
  | x :: xs, k, i + 1 => by
    have := enumP_get xs (k + 1) i
    simp only [enumP, List.getElem?_cons_succ, this]
    rw [show k + 1 + i = k + (i + 1) from by omega]
theorem enumP_len : ∀ (xs : List P) (k : Nat), (enumP k xs).length = xs.length
  | [], _ => rfl
  | x :: xs, k => by simp [enumP, enumP_len xs]
theorem rp_pair {K : PySem.W.Frag} {H : Hp} {x y : P} {v w : V} {p : Addr} (h : H p = none) (rx : RP K H x v) (ry : RP K H y w) : RP K (upd H p (.tup [v, w])) (.tup [x, y]) (.ref p) := by
  unfold RP
  refine ⟨p, _, rfl, .inl (.inl (upd_same ..)), ?_⟩
  have g := fun (z : P) (u : V) (r : RP K H z u) => RP.grow (α := []) (fun b hb => by simp at hb) (grow_new (o := .tup [v, w]) h) z u r
  unfold RPs
  refine ⟨g _ _ rx, ?_⟩
  unfold RPs
  refine ⟨g _ _ ry, ?_⟩
  unfold RPs
  trivial
theorem it_enm {K : PySem.W.Frag} {M0 : Mem} {d : D} {s : Src} {a : Addr} (h : asSrc M0 d = some s) (hn : ∀ l, d ≠ .p (.tup l)) : ItOk K (Ite K a) ⟨enumP 0 s.xs, s.ls, s.fr⟩ fun H α => RD K H α d (.ref a) := by
  refine ⟨fun H α M H' α' M' r m n => n.rd m r, fun H α M i x r m t ho hx => ?_, fun hf H α M D acc zs r m e _ => rd_own e (asSrc_nos h hf) r, fun H α M i r m t ho hx => ?_⟩
  · obtain ⟨b, vs, e, q, rp⟩ := itemsL_rd m r (asSrc_list h hn (show s.ok M = true from ho))
    cases e
    have hx : (enumP 0 s.xs)[i]? = some x := hx
    rw [enumP_get] at hx
    obtain ⟨y, e1, e2⟩ := Option.map_eq_some_iff.mp hx
    obtain ⟨v, hv, rv⟩ := rp.get e1
    refine ⟨⟨vs, v, q, hv⟩, fun w H' ⟨T, z, e3, e4, e5, e6⟩ => ?_⟩
    have := e6 vs q
    rw [hv] at this; cases this
    subst e5; subst e3
    refine ⟨Nx.new m t e4 (fun ps z => by cases z), ?_⟩
    rw [← e2, Nat.zero_add]
    exact rp_pair e4 (by unfold RP; rfl) rv
  · obtain ⟨b, vs, e, q, rp⟩ := itemsL_rd m r (asSrc_list h hn (show s.ok M = true from ho))
    cases e
    have hx : (enumP 0 s.xs).length ≤ i := hx
    rw [enumP_len] at hx
    exact ⟨vs, q, by rw [← rp.length]; exact hx⟩
theorem it_enmT {K : PySem.W.Frag} {l : List P} {a : Addr} : ItOk K (E1.IteT K a) ⟨enumP 0 l, [], true⟩ fun H α => RD K H α (.p (.tup l)) (.ref a) := by
  refine ⟨fun H α M H' α' M' r m n => n.rd m r, fun H α M i x r m t ho hx => ?_, fun hf H α M D acc zs r m e _ => rd_own e rfl r, fun H α M i r m t ho hx => ?_⟩
  · obtain ⟨b, vs, e, q, rp⟩ := rd_tuple r
    cases e
    have hx : (enumP 0 l)[i]? = some x := hx
    rw [enumP_get] at hx
    obtain ⟨y, e1, e2⟩ := Option.map_eq_some_iff.mp hx
    obtain ⟨v, hv, rv⟩ := rp.get e1
    refine ⟨⟨vs, v, q, hv⟩, fun w H' ⟨T, z, e3, e4, e5, e6⟩ => ?_⟩
    have := e6 vs q
    rw [hv] at this; cases this
    subst e5; subst e3
    refine ⟨Nx.new m t e4 (fun ps z => by cases z), ?_⟩
    rw [← e2, Nat.zero_add]
    exact rp_pair e4 (by unfold RP; rfl) rv
  · obtain ⟨b, vs, e, q, rp⟩ := rd_tuple r
    cases e
    have hx : (enumP 0 l).length ≤ i := hx
    rw [enumP_len] at hx
    exact ⟨vs, q, by rw [← rp.length]; exact hx⟩
theorem zipP_get : ∀ (xs ys : List P) (i : Nat), (zipP xs ys)[i]? = (xs[i]?).bind fun x => (ys[i]?).map fun y => P.tup [x, y]
  | [], _, i => by simp [zipP]
  | x :: xs, [], i => by simp [zipP]
  | x :: xs, y :: ys, 0 => by simp [zipP]
  | x :: xs, y :: ys, i + 1 => by simp [zipP, zipP_get xs ys i]
theorem zipP_len : ∀ (xs ys : List P), (zipP xs ys).length = min xs.length ys.length
  | [], _ => by simp [zipP]
  | x :: xs, [] => by simp [zipP]
  | x :: xs, y :: ys => by simp [zipP, zipP_len xs ys]
theorem ok_app {s t : Src} {M : Mem} {xs : List P} {b : Bool} : (Src.mk xs (s.ls ++ t.ls) b).ok M = (s.ok M && t.ok M) := by
  simp [Src.ok]
theorem it_zip {K : PySem.W.Frag} {M0 : Mem} {d e : D} {s t : Src} {a b : Addr} (h : asSrc M0 d = some s) (h' : asSrc M0 e = some t) (hn : ∀ l, d ≠ .p (.tup l)) (hn' : ∀ l, e ≠ .p (.tup l)) :
    ItOk K (Itz K a b) ⟨zipP s.xs t.xs, s.ls ++ t.ls, s.fr && t.fr⟩ fun H α => RD K H α d (.ref a) ∧ RD K H α e (.ref b) := by
  refine ⟨fun H α M H' α' M' r m n => ⟨n.rd m r.1, n.rd m r.2⟩, fun H α M i x r m tt ho hx => ?_, fun hf H α M D acc zs r m e _ => ?_, fun H α M i r m tt ho hx => ?_⟩
  rotate_left
  · have hf : (s.fr && t.fr) = true := hf
    rw [Bool.and_eq_true] at hf
    exact ⟨rd_own e (asSrc_nos h hf.1) r.1, rd_own e (asSrc_nos h' hf.2) r.2⟩
  rotate_left
  · rw [ok_app, Bool.and_eq_true] at ho
    obtain ⟨_, vs, e1, q1, rp1⟩ := itemsL_rd m r.1 (asSrc_list h hn ho.1)
    obtain ⟨_, us, e2, q2, rp2⟩ := itemsL_rd m r.2 (asSrc_list h' hn' ho.2)
    cases e1; cases e2
    have hx : (zipP s.xs t.xs)[i]? = some x := hx
    rw [zipP_get] at hx
    obtain ⟨x1, f1, hx⟩ := Option.bind_eq_some_iff.mp hx
    obtain ⟨y1, f2, rfl⟩ := Option.map_eq_some_iff.mp hx
    obtain ⟨v, hv, rv⟩ := rp1.get f1
    obtain ⟨u, hu, ru⟩ := rp2.get f2
    refine ⟨⟨vs, us, v, u, q1, q2, hv, hu⟩, fun w H' ⟨T, z, z', e3, e4, e5, e6, e7⟩ => ?_⟩
    have g1 := e6 vs q1
    have g2 := e7 us q2
    rw [hv] at g1; cases g1
    rw [hu] at g2; cases g2
    subst e5; subst e3
    exact ⟨Nx.new m tt e4 (fun ps z => by cases z), rp_pair e4 rv ru⟩
  · rw [ok_app, Bool.and_eq_true] at ho
    obtain ⟨_, vs, e1, q1, rp1⟩ := itemsL_rd m r.1 (asSrc_list h hn ho.1)
    obtain ⟨_, us, e2, q2, rp2⟩ := itemsL_rd m r.2 (asSrc_list h' hn' ho.2)
    cases e1; cases e2
    have hx : (zipP s.xs t.xs).length ≤ i := hx
    rw [zipP_len, rp1.length, rp2.length] at hx
    exact ⟨vs, us, q1, q2, by omega⟩
theorem it_zipT {K : PySem.W.Frag} {xs ys : List P} {a b : Addr} :
    ItOk K (ItzT K a b) ⟨zipP xs ys, [], true⟩ fun H α => RD K H α (.p (.tup xs)) (.ref a) ∧ RD K H α (.p (.tup ys)) (.ref b) := by
  refine ⟨fun H α M H' α' M' r m n => ⟨n.rd m r.1, n.rd m r.2⟩, fun H α M i x r m tt ho hx => ?_, fun hf H α M D acc zs r m e _ => ⟨rd_own e rfl r.1, rd_own e rfl r.2⟩, fun H α M i r m tt ho hx => ?_⟩
  · obtain ⟨_, vs, e1, q1, rp1⟩ := rd_tuple r.1
    obtain ⟨_, us, e2, q2, rp2⟩ := rd_tuple r.2
    cases e1; cases e2
    have hx : (zipP xs ys)[i]? = some x := hx
    rw [zipP_get] at hx
    obtain ⟨x1, f1, hx⟩ := Option.bind_eq_some_iff.mp hx
    obtain ⟨y1, f2, rfl⟩ := Option.map_eq_some_iff.mp hx
    obtain ⟨v, hv, rv⟩ := rp1.get f1
    obtain ⟨u, hu, ru⟩ := rp2.get f2
    refine ⟨⟨vs, us, v, u, q1, q2, hv, hu⟩, fun w H' ⟨T, z, z', e3, e4, e5, e6, e7⟩ => ?_⟩
    have g1 := e6 vs q1
    have g2 := e7 us q2
    rw [hv] at g1; cases g1
    rw [hu] at g2; cases g2
    subst e5; subst e3
    exact ⟨Nx.new m tt e4 (fun ps z => by cases z), rp_pair e4 rv ru⟩
  · obtain ⟨_, vs, e1, q1, rp1⟩ := rd_tuple r.1
    obtain ⟨_, us, e2, q2, rp2⟩ := rd_tuple r.2
    cases e1; cases e2
    have hx : (zipP xs ys).length ≤ i := hx
    rw [zipP_len, rp1.length, rp2.length] at hx
    exact ⟨vs, us, q1, q2, by omega⟩
section
variable {X : Cx} {tg e e2 : Expr} {pos p : Pos} {fa : Env → Mem → Option (D × Mem)} {fs : Env → Mem → Option (List D × Mem)}
def one1 (fa : Env → Mem → Option (D × Mem)) : Env → Mem → Option (List D × Mem) := fun ρ M => do
  let (x, M) ← fa ρ M
  let (xs, M) ← some ([], M)
  some (x :: xs, M)
theorem one1_ok {ρ : Env} {M M' : Mem} {ds : List D} (h : one1 fa ρ M = some (ds, M')) : ∃ d, ds = [d] ∧ fa ρ M = some (d, M') := by
  obtain ⟨⟨d, M1⟩, e1, h⟩ := ob h
  cases h
  exact ⟨d, rfl, e1⟩
theorem i_seq (he : PE X e (tI X fa)) : PI X tg e (iS X .seq (one1 fa)) := by
  refine ⟨fun pins s0 σ H R I h => ?_⟩
  obtain ⟨ρ, M, α, ds, s, M', r, e1, e2, q⟩ := h
  obtain ⟨d, rfl, e3⟩ := one1_ok e1
  have e2 : asSrc M' d = some s := e2
  have ho := (asSrc_ok e2).1
  by_cases hd : ∃ l, d = .p (.tup l)
  · obtain ⟨l, rfl⟩ := hd
    cases e2
    refine (pi_tup he).run pins s0 σ H R I (tI.use r e3 fun v H' α' n rd r1 => ?_)
    obtain ⟨a, vs, rfl, s, rp⟩ := rd_tuple rd
    exact ⟨a, rfl, ⟨vs, s⟩, q _ H' α' _ n it_tup rd ho⟩
  · have hn : ∀ l, d ≠ .p (.tup l) := fun l z => hd ⟨l, z⟩
    refine (pi_list he).run pins s0 σ H R I (tI.use r e3 fun v H' α' n rd r1 => ?_)
    obtain ⟨a, vs, rfl, s, rp⟩ := itemsL_rd r1.mem rd (asSrc_list e2 hn ho)
    exact ⟨a, rfl, ⟨vs, s⟩, q _ H' α' _ n (it_list e2 hn) rd ho⟩
theorem small_ok {i : Int} (h : small i = true) : -(2 ^ 62) ≤ i ∧ i < 2 ^ 62 := by
  unfold small at h
  simpa only [Bool.and_eq_true, decide_eq_true_eq] using h
theorem i_rng1 (hg : Gl X "range") (hm : X.mg "range" = none) (ha : PA X [e] (tIA X fs)) (hs : starEach [e] X.env = [(false, eval e X.env)]) (h1 : ∀ ρ M ds M', fs ρ M = some (ds, M') → ds.length = 1) :
    PI X tg (.Call (.Name "range" p) [e] [] pos) (iS X .rng fs) := by
  refine ⟨fun pins s0 σ H R I h => ?_⟩
  obtain ⟨ρ, M, α, ds, s, M', r, e1, e2, q⟩ := h
  have hl := h1 _ _ _ _ e1
  match ds, hl with
  | [d], _ =>
    cases d with
    | p x =>
      cases x with
      | int n =>
        have e2 : (if small n then some (Src.mk (rangeP 0 n.toNat) [] true) else none) = some s := e2
        split at e2 <;> try contradiction
        rename_i hn
        cases e2
        refine (pi_range1 hg hm ha hs).run pins s0 σ H R I (tIA.use r e1 fun vs H' α' n' rd r1 => ?_)
        obtain ⟨v, rfl, rv⟩ := rds1 rd
        exact ⟨n, by rw [rd_int rv], (small_ok hn).1, (small_ok hn).2, q _ H' α' _ n' (it_rng 0 _) trivial rfl⟩
      | _ => cases e2
    | l i => cases e2
    | scr xs => cases e2
theorem i_rng2 (hg : Gl X "range") (hm : X.mg "range" = none) (ha : PA X [e, e2] (tIA X fs)) (hs : starEach [e, e2] X.env = [(false, eval e X.env), (false, eval e2 X.env)]) (hs2 : starEach [e2] X.env = [(false, eval e2 X.env)])
    (h1 : ∀ ρ M ds M', fs ρ M = some (ds, M') → ds.length = 2) : PI X tg (.Call (.Name "range" p) [e, e2] [] pos) (iS X .rng fs) := by
  refine ⟨fun pins s0 σ H R I h => ?_⟩
  obtain ⟨ρ, M, α, ds, s, M', r, e1, e2, q⟩ := h
  have hl := h1 _ _ _ _ e1
  match ds, hl with
  | [d, d'], _ =>
    unfold src at e2
    split at e2 <;> try contradiction
    all_goals (rename_i hh; cases hh)
    split at e2 <;> try contradiction
    rename_i a b hn
    cases e2
    rw [Bool.and_eq_true] at hn
    refine (pi_range2 hg hm ha hs hs2).run pins s0 σ H R I (tIA.use r e1 fun vs H' α' n' rd r1 => ?_)
    obtain ⟨v, w, rfl, rv, rw_⟩ := rds2 rd
    exact ⟨_, _, by rw [rd_int rv, rd_int rw_], ⟨(small_ok hn.1).1, (small_ok hn.1).2, (small_ok hn.2).1, (small_ok hn.2).2⟩, q _ H' α' _ n' (it_rng _ _) trivial rfl⟩
theorem i_enm {elts : List Expr} {kk : Nat} {tpos : Pos} (hg : Gl X "enumerate") (hm : X.mg "enumerate" = none) (ha : PA X [e] (tIA X fs)) (hs : starEach [e] X.env = [(false, eval e X.env)]) (h1 : ∀ ρ M ds M', fs ρ M = some (ds, M') → ds.length = 1) :
    PI X (.Tuple elts kk tpos) (.Call (.Name "enumerate" p) [e] [] pos) (iS X .enm fs) := by
  refine ⟨fun pins s0 σ H R I h => ?_⟩
  obtain ⟨ρ, M, α, ds, s, M', r, e1, e2, q⟩ := h
  have hl := h1 _ _ _ _ e1
  match ds, hl with
  | [d], _ =>
    by_cases ht : ∃ l, d = .p (.tup l)
    · obtain ⟨l, rfl⟩ := ht
      have e2 : some (Src.mk (enumP 0 l) [] true) = some s := e2
      cases e2
      refine (E1.pi_enumT hg hm ha hs).run pins s0 σ H R I (tIA.use r e1 fun vs H' α' n' rd r1 => ?_)
      obtain ⟨v, rfl, rv⟩ := rds1 rd
      obtain ⟨a, us, rfl, sq, rp⟩ := rd_tuple rv
      exact ⟨a, us, rfl, sq, q _ H' α' _ n' it_enmT rv rfl⟩
    have hn : ∀ l, d ≠ .p (.tup l) := fun l z => ht ⟨l, z⟩
    have e2 : (asSrc M' d).map (fun s => (⟨enumP 0 s.xs, s.ls, s.fr⟩ : Src)) = some s := by
      cases d with
      | p x => cases x with
        | tup l => exact absurd rfl (hn l)
        | _ => exact e2
      | _ => exact e2
    obtain ⟨s', e3, rfl⟩ := Option.map_eq_some_iff.mp e2
    have ho := (asSrc_ok e3).1
    refine (pi_enum hg hm ha hs).run pins s0 σ H R I (tIA.use r e1 fun vs H' α' n' rd r1 => ?_)
    obtain ⟨v, rfl, rv⟩ := rds1 rd
    obtain ⟨a, us, rfl, sq, rp⟩ := itemsL_rd r1.mem rv (asSrc_list e3 hn ho)
    exact ⟨a, us, rfl, sq, q _ H' α' _ n' (it_enm e3 hn) rv ho⟩
theorem i_zip {elts : List Expr} {kk : Nat} {tpos : Pos} (hg : Gl X "zip") (hm : X.mg "zip" = none) (ha : PA X [e, e2] (tIA X fs)) (hs : starEach [e, e2] X.env = (false, eval e X.env) :: starEach [e2] X.env) (hpl : (backTo pos (starEach [e2] X.env)).any (·.1) = false)
    (h1 : ∀ ρ M ds M', fs ρ M = some (ds, M') → ds.length = 2) : PI X (.Tuple elts kk tpos) (.Call (.Name "zip" p) [e, e2] [] pos) (iS X .zip fs) := by
  refine ⟨fun pins s0 σ H R I h => ?_⟩
  obtain ⟨ρ, M, α, ds, s, M', r, e1, e2, q⟩ := h
  have hl := h1 _ _ _ _ e1
  match ds, hl with
  | [d, d'], _ =>
    unfold src at e2
    split at e2 <;> try contradiction
    · rename_i hh; cases hh
      cases e2
      refine (pi_zipA hg hm ha hs hpl).run pins s0 σ H R I (tIA.use r e1 fun vs H' α' n' rd r1 => ?_)
      obtain ⟨v, w, rfl, rv, rw_⟩ := rds2 rd
      obtain ⟨a, us, rfl, sq, rp⟩ := rd_tuple rv
      obtain ⟨b, us', rfl, sq', rp'⟩ := rd_tuple rw_
      exact ⟨a, b, us, us', rfl, .inr ⟨sq, sq', q _ H' α' _ n' it_zipT ⟨rv, rw_⟩ rfl⟩⟩
    · rename_i hh; cases hh
      split at e2 <;> try contradiction
      rename_i hn
      obtain ⟨s1, e3, e2⟩ := ob e2
      obtain ⟨s2, e4, e2⟩ := ob e2
      cases e2
      have hn1 : ∀ l, d ≠ .p (.tup l) := fun l z => by subst z; exact absurd hn (by simp [isTup])
      have hn2 : ∀ l, d' ≠ .p (.tup l) := fun l z => by subst z; exact absurd hn (by simp [isTup])
      have ho1 := (asSrc_ok e3).1
      have ho2 := (asSrc_ok e4).1
      refine (pi_zipA hg hm ha hs hpl).run pins s0 σ H R I (tIA.use r e1 fun vs H' α' n' rd r1 => ?_)
      obtain ⟨v, w, rfl, rv, rw_⟩ := rds2 rd
      obtain ⟨a, us, rfl, sq, rp⟩ := itemsL_rd r1.mem rv (asSrc_list e3 hn1 ho1)
      obtain ⟨b, us', rfl, sq', rp'⟩ := itemsL_rd r1.mem rw_ (asSrc_list e4 hn2 ho2)
      exact ⟨a, b, us, us', rfl, .inl ⟨sq, sq', q _ H' α' _ n' (it_zip e3 e4 hn1 hn2) ⟨rv, rw_⟩ (by rw [ok_app, ho1, ho2]; rfl)⟩⟩
/-- for -/
theorem s_for {iter : Expr} {body : List Stmt} {k : IK} {t : T} {f : Env → Mem → Option Out} (hp : PassesOwn (model X.prog X.w) X.A X.env X.xe) (hc : X.calm = true) (hi : PI X tg iter (iS X k fs)) (hg : PG X tg (tGp X t)) (hb : PSs X body (tS X f)) (hs : ∀ x, foldedSetIterable iter X.env x = pure x) :
    PS X (.For tg iter body [] pos) (tS X fun ρ M => do
      let (ds, M) ← fs ρ M
      let s ← src k ds M
      forL s (fun x ρ M => (t.put x ρ).bind fun ρ' => f ρ' M) s.xs ρ M) := (ps_for hp hc hi hg hb hs).weak fun D σ H h => by
  obtain ⟨ρ, M, α, o, r, e, q⟩ := h
  obtain ⟨⟨ds, M1⟩, e1, e⟩ := ob e
  obtain ⟨s, e2, e⟩ := ob e
  refine ⟨ρ, M, α, ds, s, M1, r, e1, e2, fun J H1 α1 In n1 it hIn ho => ?_⟩
  have r1 := r.step n1
  refine ⟨fun i m σ2 H2 => ∃ ρ2 M2 α2, RS X σ2 H2 ρ2 M2 α2 ∧ Nx X.K α H α2 H2 M2 ∧ In H2 α2 ∧ s.ok M2 = true ∧ m = (s.xs.drop i).length ∧ forL s (fun x ρ M => (t.put x ρ).bind fun ρ' => f ρ' M) (s.xs.drop i) ρ2 M2 = some o,
    ⟨_, ρ, M1, α1, r1, n1, hIn, ho, rfl, e⟩, ?_⟩
  rintro i m σ2 H2 ⟨ρ2, M2, α2, r2, n2, hIn2, ho2, hm, e⟩
  cases hx : s.xs[i]? with
  | none =>
    rw [List.getElem?_eq_none_iff] at hx
    rw [List.drop_eq_nil_of_le hx] at e
    cases e
    exact .inl ⟨it.fin H2 α2 M2 i hIn2 r2.mem r2.tab ho2 hx, q σ2 H2 α2 n2 r2.env⟩
  | some x =>
    obtain ⟨go, yl⟩ := it.atI H2 α2 M2 i x hIn2 r2.mem r2.tab ho2 hx
    obtain ⟨hlt, hxe⟩ := List.getElem?_eq_some_iff.mp hx
    rw [List.drop_eq_getElem_cons hlt, hxe] at e hm
    obtain ⟨o1, e3, e⟩ := ob (show (do
      match ← (t.put x ρ2).bind fun ρ' => f ρ' M2 with
      | .nx ρ M => if s.ok M then forL s (fun x ρ M => (t.put x ρ).bind fun ρ' => f ρ' M) (s.xs.drop (i + 1)) ρ M else none
      | .ct ρ M => if s.ok M then forL s (fun x ρ M => (t.put x ρ).bind fun ρ' => f ρ' M) (s.xs.drop (i + 1)) ρ M else none
      | .bk ρ M => some (.nx ρ M)
      | .rt d M => some (.rt d M)) = some o from e)
    obtain ⟨ρ3, e4, e5⟩ := Option.bind_eq_some_iff.mp e3
    refine .inr ⟨go, fun σ' H' => ∃ ρ2 M2 α2, RS X σ' H' ρ2 M2 α2 ∧ Nx X.K α H α2 H' M2 ∧ In H' α2 ∧ s.ok M2 = true ∧ forL s (fun x ρ M => (t.put x ρ).bind fun ρ' => f ρ' M) (s.xs.drop (i + 1)) ρ2 M2 = some o,
      fun σ' H' ⟨a1, a2, a3, a4, a5, a6, a7, a8⟩ => ⟨_, by rw [hm, List.length_cons]; exact Nat.lt_succ_self _, a1, a2, a3, a4, a5, a6, a7, rfl, a8⟩, fun v H' hy => ?_⟩
    obtain ⟨n3, rv⟩ := yl v H' hy
    have r3 := r2.step n3
    have hIn3 := it.step _ _ _ _ _ _ hIn2 r2.mem n3
    have n23 := n2.trans r.mem n3
    refine ⟨ρ2, M2, α2, x, ρ3, r3, rv, e4, fun σ3 re3 _ => ?_⟩
    refine ⟨ρ3, M2, α2, o1, r3.with re3, e5, ?_⟩
    cases o1 with
    | nx ρ4 M4 =>
      dsimp only at e
      split at e <;> try contradiction
      rename_i h4
      exact fun σ' H4 α4 n4 re => ⟨ρ4, M4, α4, (r3.step n4).with re, n23.trans r.mem n4, it.step _ _ _ _ _ _ hIn3 r3.mem n4, h4, e⟩
    | ct ρ4 M4 =>
      dsimp only at e
      split at e <;> try contradiction
      rename_i h4
      exact fun σ' H4 α4 n4 re => ⟨ρ4, M4, α4, (r3.step n4).with re, n23.trans r.mem n4, it.step _ _ _ _ _ _ hIn3 r3.mem n4, h4, e⟩
    | bk ρ4 M4 => cases e; exact fun σ' H4 α4 n4 re => q σ' H4 α4 (n23.trans r.mem n4) re
    | rt d M4 => cases e; exact fun v H4 α4 n4 rd => q v H4 α4 (n23.trans r.mem n4) rd
end
end IX
end

section
set_option Elab.async false
set_option autoImplicit false
set_option linter.all false
set_option maxRecDepth 100000
set_option maxHeartbeats 4000000
/-! List comprehensions. -/
namespace IX
open PySem PySem.Spec PyProof.Rows L2 GX
section
variable {X : Cx} {fs fs1 : Env → Mem → Option (List D × Mem)} {fi fi1 : Env → Mem → Option (Bool × Mem)} {fe : Env → Mem → Option (D × Mem)} {k k1 : IK} {t t1 : T} {vs vs1 : List Nat}
def lcT (t : T) (vs : List Nat) (fi : Env → Mem → Option (Bool × Mem)) (fe : Env → Mem → Option (D × Mem)) (ρ : Env) : P → Mem → Option (List P × Mem) := fun x M => do
  let ρ' ← t.put x (wipeE ρ vs)
  let (b, M) ← fi ρ' M
  if b then do
    let (y, M) ← fe ρ' M
    match y with
    | .p r => some ([r], M)
    | _ => none
  else some ([], M)
def lcF (vs : List Nat) (t : T) (k : IK) (fs : Env → Mem → Option (List D × Mem)) (fi : Env → Mem → Option (Bool × Mem)) (fe : Env → Mem → Option (D × Mem)) : Env → Mem → Option (D × Mem) := fun ρ M => do
  let (ds, M) ← fs ρ M
  let s ← src k ds M
  let (ys, M) ← turns s (lcT t vs fi fe ρ) s.xs M
  newl ys M
def lc2T (t : T) (vs : List Nat) (fi : Env → Mem → Option (Bool × Mem)) (fs1 : Env → Mem → Option (List D × Mem)) (k1 : IK) (t1 : T) (vs1 : List Nat) (fi1 : Env → Mem → Option (Bool × Mem)) (fe : Env → Mem → Option (D × Mem)) (ρ : Env) : P → Mem → Option (List P × Mem) := fun x M => do
  let ρ' ← t.put x (wipeE ρ vs)
  let (b, M) ← fi ρ' M
  if b then do
    let (ds1, M) ← fs1 ρ' M
    let s1 ← src k1 ds1 M
    if noScr ρ' && s1.fr then turns s1 (lcT t1 vs1 fi1 fe ρ') s1.xs M else none
  else some ([], M)
def lc2F (vs : List Nat) (t : T) (k : IK) (fs : Env → Mem → Option (List D × Mem)) (fi : Env → Mem → Option (Bool × Mem)) (fs1 : Env → Mem → Option (List D × Mem)) (k1 : IK) (t1 : T) (vs1 : List Nat) (fi1 : Env → Mem → Option (Bool × Mem)) (fe : Env → Mem → Option (D × Mem)) : Env → Mem → Option (D × Mem) := fun ρ M => do
  let (ds, M) ← fs ρ M
  let s ← src k ds M
  let (ys, M) ← turns s (lc2T t vs fi fs1 k1 t1 vs1 fi1 fe ρ) s.xs M
  newl ys M
theorem turns_cons {s : Src} {F : P → Mem → Option (List P × Mem)} {x : P} {r : List P} {M Mf : Mem} {zs : List P} (h : turns s F (x :: r) M = some (zs, Mf)) : ∃ o M1 zs1, F x M = some (o, M1) ∧ s.ok M1 = true ∧ turns s F r M1 = some (zs1, Mf) ∧ zs = o ++ zs1 := by
  obtain ⟨⟨o, M1⟩, e1, h⟩ := ob (show (do
    let (o, M) ← F x M
    if s.ok M then do
      let (ys, M) ← turns s F r M
      some (o ++ ys, M)
    else none) = some (zs, Mf) from h)
  dsimp only at h
  split at h <;> try contradiction
  rename_i ho
  obtain ⟨⟨ys, M2⟩, e2, h⟩ := ob h
  cases h
  exact ⟨o, M1, ys, e1, ho, e2, rfl⟩
/-- the state of a comprehension's loop: the new list stands at c -/
structure LcW (X : Cx) (s : Src) (F : P → Mem → Option (List P × Mem)) (all : List P) (Mf : Mem) (In : Hp → List Addr → Prop) (α1 : List Addr) (H1 : Hp) (c : Addr) (i : Nat) (H : Hp) (M : Mem) (α : List Addr) (acc : List V) (ys zs : List P) : Prop where
  nx : Nx X.K α1 H1 α H M
  nin : c ∉ α
  cell : H c = some (.lst acc)
  rp : RPs X.K H ys acc
  ok : s.ok M = true
  inn : In H α
  run : turns s F (s.xs.drop i) M = some (zs, Mf)
  tot : ys ++ zs = all
theorem lc_of (hs : ∀ i ∈ t.slots, i ∈ vs) {σ : L2.St} {H : Hp} {Q : VK} (h : tI X (lcF vs t k fs fi fe) σ H Q) : tLc (iS X k fs) (tGp X t) (tIT X fi) (tI X fe) vs σ H Q := by
  obtain ⟨ρ, M, α, d, M', r, e, q⟩ := h
  obtain ⟨⟨ds, M1⟩, e1, e⟩ := ob e
  obtain ⟨s, e2, e⟩ := ob e
  obtain ⟨⟨all, Mf⟩, e3, e⟩ := ob e
  obtain ⟨hl, rfl, rfl⟩ := newl_some e
  refine ⟨ρ, M, α, ds, s, M1, r, e1, e2, fun J H1 α1 In n1 it hIn ho c hc => ?_⟩
  have r1 := r.step n1
  have n0 : Nx X.K α1 H1 α1 (upd H1 c (.lst [])) M1 := Nx.new r1.mem r1.tab hc fun ps z => by cases z
  refine ⟨fun i m H => ∃ M α acc ys zs, LcW X s (lcT t vs fi fe ρ) all Mf In α1 H1 c i H M α acc ys zs ∧ m = (s.xs.drop i).length,
    ⟨_, M1, α1, [], [], all, ⟨n0, fun z => ?_, upd_same .., by unfold RPs; trivial, ho, it.step _ _ _ _ _ _ hIn r1.mem n0, e3, rfl⟩, rfl⟩, ?_⟩
  · obtain ⟨ws, e⟩ := r1.mem.lst z
    rw [hc] at e; cases e
  rintro i m H2 ⟨M2, α2, acc, ys, zs, w, hm⟩
  cases hx : s.xs[i]? with
  | none =>
    rw [List.getElem?_eq_none_iff] at hx
    have hr := w.run
    rw [List.drop_eq_nil_of_le hx] at hr
    cases hr
    have ht := w.tot
    rw [List.append_nil] at ht
    subst ht
    refine .inl ⟨it.fin H2 α2 _ i w.inn w.nx.mem w.nx.tab w.ok hx, ?_⟩
    have n := n1.trans r.mem (w.nx.adopt hc w.nin w.cell w.rp)
    refine q _ H2 _ n ⟨c, ?_, rfl⟩
    rw [← w.nx.mem.len, List.getElem?_append_right (Nat.le_refl _)]
    simp
  | some x =>
    obtain ⟨go, yl⟩ := it.atI H2 α2 M2 i x w.inn w.nx.mem w.nx.tab w.ok hx
    obtain ⟨hlt, hxe⟩ := List.getElem?_eq_some_iff.mp hx
    have hr := w.run
    rw [List.drop_eq_getElem_cons hlt, hxe] at hr hm
    obtain ⟨o, M3, zs1, f1, ho3, hr2, rfl⟩ := turns_cons hr
    obtain ⟨ρ', f2, f1⟩ := ob f1
    obtain ⟨⟨b, M4⟩, f3, f1⟩ := ob f1
    refine .inr ⟨go, fun H => ∃ M α acc ys zs, LcW X s (lcT t vs fi fe ρ) all Mf In α1 H1 c (i + 1) H M α acc ys zs,
      fun H' ⟨a1, a2, a3, a4, a5, a6⟩ => ⟨_, by rw [hm, List.length_cons]; exact Nat.lt_succ_self _, a1, a2, a3, a4, a5, a6, rfl⟩, fun v H' hy => ?_⟩
    obtain ⟨n3, rv⟩ := yl v H' hy
    have nn := w.nx.trans r1.mem n3
    have env : REnv X.K H' α2 (wipeE ρ vs) (L2.wipe σ vs) := (nn.env r1.mem r1.env).wipe vs
    have r3 : RS X (L2.wipe σ vs) H' (wipeE ρ vs) M2 α2 := ⟨env, nn.mem, nn.tab, r1.code.grow nn.grow fun b hb => r1.mem.lst hb, r1.trk.grow nn.grow fun b hb => r1.mem.lst hb⟩
    refine ⟨_, M2, α2, x, ρ', r3, rv, f2, fun σ3 re3 sm => ⟨sm.wipe hs, ?_⟩⟩
    have r4 := r3.with re3
    have c3 := n3.keepD w.nx.mem w.nin w.cell
    refine tIT.use r4 f3 fun H4 α4 n4 r5 => ?_
    have nn4 := nn.trans r1.mem n4
    have c4 := n4.keepD r4.mem w.nin c3
    have i4 := n4.notin w.nin c3
    have rp4 := n4.rps r4.mem (n3.rps w.nx.mem w.rp)
    have in4 := it.step _ _ _ _ _ _ (it.step _ _ _ _ _ _ w.inn w.nx.mem n3) r4.mem n4
    cases b with
    | false =>
      cases f1
      exact ⟨M3, α4, acc, ys, zs1, ⟨nn4, i4, c4, rp4, ho3, in4, hr2, by simpa using w.tot⟩⟩
    | true =>
      obtain ⟨⟨y, M5⟩, f4, f1⟩ := ob f1
      obtain ⟨ry, rfl, rfl, rfl⟩ : ∃ ry, y = .p ry ∧ o = [ry] ∧ M3 = M5 := by
        cases y with
        | p ry => cases f1; exact ⟨ry, rfl, rfl, rfl⟩
        | l _ => cases f1
        | scr _ => cases f1
      refine tI.use r5 f4 fun u H5 α5 n5 d5 r6 => ?_
      have c5 := n5.keepD r5.mem i4 c4
      have i5 := n5.notin i4 c4
      have rp5 := n5.rps r5.mem rp4
      have hlen : acc.length < sizeLine := by
        have := w.tot
        have h2 := congrArg List.length this
        simp only [List.length_append, List.length_cons] at h2
        have h3 := w.rp.length
        omega
      have nn5 := nn4.trans r1.mem n5
      refine ⟨acc, c5, hlen, M3, α5, acc ++ [u], ys ++ [ry], zs1, ⟨nn5.own hc i5 c5, i5, upd_same .., ?_, ho3, ?_, hr2, by simpa using w.tot⟩⟩
      · refine RPs.grow (na_own c5) grow_own _ _ (rp5.append ?_)
        show RPs _ _ [_] [_]
        unfold RPs
        exact ⟨d5, by unfold RPs; trivial⟩
      · have := nn5.own (zs := acc ++ [u]) hc i5 c5
        exact it.step _ _ _ _ _ _ hIn r1.mem this
end
section
variable {X : Cx} {fs fs1 : Env → Mem → Option (List D × Mem)} {fi fi1 : Env → Mem → Option (Bool × Mem)} {fe : Env → Mem → Option (D × Mem)} {k k1 : IK} {t t1 : T} {vs vs1 : List Nat}
/-- the inner loop's state -/
structure LcV (X : Cx) (s1 : Src) (F : P → Mem → Option (List P × Mem)) (mid : List P) (Mi : Mem) (In1 : Hp → List Addr → Prop) (α1 : List Addr) (H1 : Hp) (c : Addr) (ρ' : Env) (σ2 : L2.St) (i : Nat) (H : Hp) (M : Mem) (α : List Addr) (acc : List V) (ys zs : List P) : Prop where
  nx : Nx X.K α1 H1 α H M
  nin : c ∉ α
  cell : H c = some (.lst acc)
  rp : RPs X.K H ys acc
  ok : s1.ok M = true
  inn : In1 H α
  env : REnv X.K H α ρ' σ2
  run : turns s1 F (s1.xs.drop i) M = some (zs, Mi)
  tot : ys ++ zs = mid
theorem lc2_of (hs : ∀ i ∈ t.slots, i ∈ vs) (hs1 : ∀ i ∈ t1.slots, i ∈ vs1) {σ : L2.St} {H : Hp} {Q : VK} (h : tI X (lc2F vs t k fs fi fs1 k1 t1 vs1 fi1 fe) σ H Q) :
    tLc2 (iS X k fs) (tGp X t) (tIT X fi) (iS X k1 fs1) (tGp X t1) (tIT X fi1) (tI X fe) vs vs1 σ H Q := by
  obtain ⟨ρ, M, α, d, M', r, e, q⟩ := h
  obtain ⟨⟨ds, M1⟩, e1, e⟩ := ob e
  obtain ⟨s, e2, e⟩ := ob e
  obtain ⟨⟨all, Mf⟩, e3, e⟩ := ob e
  obtain ⟨hl, rfl, rfl⟩ := newl_some e
  refine ⟨ρ, M, α, ds, s, M1, r, e1, e2, fun J H1 α1 In n1 it hIn ho c hc => ?_⟩
  have r1 := r.step n1
  have n0 : Nx X.K α1 H1 α1 (upd H1 c (.lst [])) M1 := Nx.new r1.mem r1.tab hc fun ps z => by cases z
  refine ⟨fun i m H => ∃ M α acc ys zs, LcW X s (lc2T t vs fi fs1 k1 t1 vs1 fi1 fe ρ) all Mf In α1 H1 c i H M α acc ys zs ∧ m = (s.xs.drop i).length,
    ⟨_, M1, α1, [], [], all, ⟨n0, fun z => ?_, upd_same .., by unfold RPs; trivial, ho, it.step _ _ _ _ _ _ hIn r1.mem n0, e3, rfl⟩, rfl⟩, ?_⟩
  · obtain ⟨ws, e⟩ := r1.mem.lst z
    rw [hc] at e; cases e
  rintro i m H2 ⟨M2, α2, acc, ys, zs, w, hm⟩
  cases hx : s.xs[i]? with
  | none =>
    rw [List.getElem?_eq_none_iff] at hx
    have hr := w.run
    rw [List.drop_eq_nil_of_le hx] at hr
    cases hr
    have ht := w.tot
    rw [List.append_nil] at ht
    subst ht
    refine .inl ⟨it.fin H2 α2 _ i w.inn w.nx.mem w.nx.tab w.ok hx, ?_⟩
    have n := n1.trans r.mem (w.nx.adopt hc w.nin w.cell w.rp)
    refine q _ H2 _ n ⟨c, ?_, rfl⟩
    rw [← w.nx.mem.len, List.getElem?_append_right (Nat.le_refl _)]
    simp
  | some x =>
    obtain ⟨go, yl⟩ := it.atI H2 α2 M2 i x w.inn w.nx.mem w.nx.tab w.ok hx
    obtain ⟨hlt, hxe⟩ := List.getElem?_eq_some_iff.mp hx
    have hr := w.run
    rw [List.drop_eq_getElem_cons hlt, hxe] at hr hm
    obtain ⟨o, M3, zs1, f1, ho3, hr2, rfl⟩ := turns_cons hr
    obtain ⟨ρ', f2, f1⟩ := ob f1
    obtain ⟨⟨b, M4⟩, f3, f1⟩ := ob f1
    refine .inr ⟨go, fun H => ∃ M α acc ys zs, LcW X s (lc2T t vs fi fs1 k1 t1 vs1 fi1 fe ρ) all Mf In α1 H1 c (i + 1) H M α acc ys zs,
      fun H' ⟨a1, a2, a3, a4, a5, a6⟩ => ⟨_, by rw [hm, List.length_cons]; exact Nat.lt_succ_self _, a1, a2, a3, a4, a5, a6, rfl⟩, fun v H' hy => ?_⟩
    obtain ⟨n3, rv⟩ := yl v H' hy
    have nn := w.nx.trans r1.mem n3
    have env : REnv X.K H' α2 (wipeE ρ vs) (L2.wipe σ vs) := (nn.env r1.mem r1.env).wipe vs
    have r3 : RS X (L2.wipe σ vs) H' (wipeE ρ vs) M2 α2 := ⟨env, nn.mem, nn.tab, r1.code.grow nn.grow fun b hb => r1.mem.lst hb, r1.trk.grow nn.grow fun b hb => r1.mem.lst hb⟩
    refine ⟨_, M2, α2, x, ρ', r3, rv, f2, fun σ3 re3 sm => ⟨sm.wipe hs, ?_⟩⟩
    have r4 := r3.with re3
    have c3 := n3.keepD w.nx.mem w.nin w.cell
    refine tIT.use r4 f3 fun H4 α4 n4 r5 => ?_
    have nn4 := nn.trans r1.mem n4
    have c4 := n4.keepD r4.mem w.nin c3
    have i4 := n4.notin w.nin c3
    have rp4 := n4.rps r4.mem (n3.rps w.nx.mem w.rp)
    cases b with
    | false =>
      cases f1
      have in4 := it.step _ _ _ _ _ _ hIn r1.mem nn4
      exact ⟨M3, α4, acc, ys, zs1, ⟨nn4, i4, c4, rp4, ho3, in4, hr2, by simpa using w.tot⟩⟩
    | true =>
      obtain ⟨⟨ds1, M5⟩, g1, f1⟩ := ob f1
      obtain ⟨s1, g2, f1⟩ := ob f1
      split at f1 <;> try contradiction
      rename_i hns
      rw [Bool.and_eq_true] at hns
      refine ⟨_, M4, α4, ds1, s1, M5, r5, g1, g2, fun J1 H5 α5 In1 n5 it1 hIn1 ho5 => ?_⟩
      have r6 := r5.step n5
      have c5 := n5.keepD r5.mem i4 c4
      have i5 := n5.notin i4 c4
      have rp5 := n5.rps r5.mem rp4
      have nn5 := nn4.trans r1.mem n5
      refine ⟨fun j k H => ∃ M α acc ys' zs', LcV X s1 (lcT t1 vs1 fi1 fe ρ') (ys ++ o) M3 In1 α1 H1 c ρ' σ3 j H M α acc ys' zs' ∧ k = (s1.xs.drop j).length,
        ⟨_, M5, α5, acc, ys, o, ⟨nn5, i5, c5, rp5, ho5, hIn1, r6.env, f1, rfl⟩, rfl⟩, ?_⟩
      rintro j k' H6 ⟨M6, α6, acc6, ys6, zs6, w6, hm6⟩
      have m6 := w6.nx.mem
      cases hx6 : s1.xs[j]? with
      | none =>
        rw [List.getElem?_eq_none_iff] at hx6
        have hr6 := w6.run
        rw [List.drop_eq_nil_of_le hx6] at hr6
        cases hr6
        refine .inl ⟨it1.fin H6 α6 _ j w6.inn m6 w6.nx.tab w6.ok hx6, ?_⟩
        refine ⟨_, α6, acc6, ys6, zs1, ⟨w6.nx, w6.nin, w6.cell, w6.rp, ho3, it.step _ _ _ _ _ _ hIn r1.mem w6.nx, hr2, ?_⟩⟩
        have h1 := w6.tot
        rw [List.append_nil] at h1
        rw [h1, List.append_assoc]
        exact w.tot
      | some x6 =>
        obtain ⟨go6, yl6⟩ := it1.atI H6 α6 M6 j x6 w6.inn m6 w6.nx.tab w6.ok hx6
        obtain ⟨hlt6, hxe6⟩ := List.getElem?_eq_some_iff.mp hx6
        have hr6 := w6.run
        rw [List.drop_eq_getElem_cons hlt6, hxe6] at hr6 hm6
        obtain ⟨o6, M7, zs7, p1, ho7, hr7, rfl⟩ := turns_cons hr6
        obtain ⟨ρ2, p2, p1⟩ := ob p1
        obtain ⟨⟨b6, M8⟩, p3, p1⟩ := ob p1
        refine .inr ⟨go6, fun H => ∃ M α acc ys' zs', LcV X s1 (lcT t1 vs1 fi1 fe ρ') (ys ++ o) M3 In1 α1 H1 c ρ' σ3 (j + 1) H M α acc ys' zs',
          fun H' ⟨a1, a2, a3, a4, a5, a6⟩ => ⟨_, by rw [hm6, List.length_cons]; exact Nat.lt_succ_self _, a1, a2, a3, a4, a5, a6, rfl⟩, fun v7 H7 hy7 => ?_⟩
        obtain ⟨n7, rv7⟩ := yl6 v7 H7 hy7
        have nn7 := w6.nx.trans r1.mem n7
        have env7 : REnv X.K H7 α6 ρ' σ3 := n7.env m6 w6.env
        have r7 : RS X (L2.wipe σ3 vs1) H7 (wipeE ρ' vs1) M6 α6 := ⟨env7.wipe vs1, nn7.mem, nn7.tab, r1.code.grow nn7.grow fun b hb => r1.mem.lst hb, r1.trk.grow nn7.grow fun b hb => r1.mem.lst hb⟩
        refine ⟨_, M6, α6, x6, ρ2, r7, rv7, p2, fun σ8 re8 sm8 => ⟨sm8.wipe hs1, ?_⟩⟩
        have r8 := r7.with re8
        have c7 := n7.keepD m6 w6.nin w6.cell
        refine tIT.use r8 p3 fun H8 α8 n8 r9 => ?_
        have nn8 := nn7.trans r1.mem n8
        have c8 := n8.keepD r8.mem w6.nin c7
        have i8 := n8.notin w6.nin c7
        have rp8 := n8.rps r8.mem (n7.rps m6 w6.rp)
        have in8 := it1.step _ _ _ _ _ _ (it1.step _ _ _ _ _ _ w6.inn m6 n7) r8.mem n8
        have env8 := n8.env r8.mem env7
        cases b6 with
        | false =>
          cases p1
          exact ⟨M7, α8, acc6, ys6, zs7, ⟨nn8, i8, c8, rp8, ho7, in8, env8, hr7, by simpa using w6.tot⟩⟩
        | true =>
          obtain ⟨⟨y, M9⟩, p4, p1⟩ := ob p1
          obtain ⟨ry, rfl, rfl, rfl⟩ : ∃ ry, y = .p ry ∧ o6 = [ry] ∧ M7 = M9 := by
            cases y with
            | p ry => cases p1; exact ⟨ry, rfl, rfl, rfl⟩
            | l _ => cases p1
            | scr _ => cases p1
          refine tI.use r9 p4 fun u H9 α9 n9 d9 r10 => ?_
          have c9 := n9.keepD r9.mem i8 c8
          have i9 := n9.notin i8 c8
          have rp9 := n9.rps r9.mem rp8
          have hlen : acc6.length < sizeLine := by
            have h1 := congrArg List.length w.tot
            have h2 := congrArg List.length w6.tot
            simp only [List.length_append, List.length_cons] at h1 h2
            have h3 := w6.rp.length
            omega
          have nn9 := nn8.trans r1.mem n9
          have in9 := it1.step _ _ _ _ _ _ in8 r9.mem n9
          have env9 := n9.env r9.mem env8
          refine ⟨acc6, c9, hlen, M7, α9, acc6 ++ [u], ys6 ++ [ry], zs7, ⟨nn9.own hc i9 c9, i9, upd_same .., ?_, ho7, it1.own hns.2 _ _ _ _ _ _ in9 r10.mem c9 i9, env_own env9 c9 hns.1, hr7, by simpa using w6.tot⟩⟩
          refine RPs.grow (na_own c9) grow_own _ _ (rp9.append ?_)
          show RPs _ _ [_] [_]
          unfold RPs
          exact ⟨d9, by unfold RPs; trivial⟩
end
section
variable {X : Cx} {fs fs1 : Env → Mem → Option (List D × Mem)} {fi fi1 : Env → Mem → Option (Bool × Mem)} {fe : Env → Mem → Option (D × Mem)} {k k1 : IK} {t t1 : T} {vs1 : List Nat} {elt tg iter tg1 iter1 : Expr} {ifs ifs1 : List Expr} {scope : Scope} {own : List (Str × Nat)} {pos spos : Pos}
theorem s_lc (hc : X.calm = true) (hN : X.N.Nodup) (hi : PI X tg iter (iS X k fs)) (ok : BlkOk X.N X.env.scope scope own)
    (hg : ∀ (s : Shared) (H : Hp) (C : Addr) (cl : List (Str × Addr)) (fp : List Addr), PG (X.blk s H scope (compEnvC scope cl C X.env) fp) tg (tGp (X.blk s H scope (compEnvC scope cl C X.env) fp) t))
    (ht : ∀ (s : Shared) (H : Hp) (C : Addr) (cl : List (Str × Addr)) (fp : List Addr), PTs (X.blk s H scope (compEnvC scope cl C X.env) fp) ifs (tIT (X.blk s H scope (compEnvC scope cl C X.env) fp) fi))
    (he : ∀ (s : Shared) (H : Hp) (C : Addr) (cl : List (Str × Addr)) (fp : List Addr), PE (X.blk s H scope (compEnvC scope cl C X.env) fp) elt (tI (X.blk s H scope (compEnvC scope cl C X.env) fp) fe))
    (hs : ∀ x, foldedSetIterable iter X.env x = pure x) (hv : ∀ i ∈ t.slots, i ∈ own.map (·.2)) :
    PE X (.ListComp elt [⟨tg, iter, ifs, 0⟩] scope pos) (tI X (lcF (own.map (·.2)) t k fs fi fe)) := (pe_lc (te := tI X fe) (tt := tIT X fi) (g := tGp X t) hc hN hi ok hg ht he hs).weak fun σ H Q h => lc_of hv h
theorem s_setlc {i : Nat} {y : Str} {py : Pos} (hc : X.calm = true) (hN : X.N.Nodup) (hy : X.N[i]? = some y) (hyl : X.env.scope.names.lookup y = some .local)
    (hsw : swapsWith (.ListComp elt [⟨tg, iter, ifs, 0⟩] scope pos) (some (.Name y py)) spos.line X.env = pure true) (hi : PI X tg iter (iS X k fs)) (ok : BlkOk X.N X.env.scope scope own)
    (hg : ∀ (s : Shared) (H : Hp) (C : Addr) (cl : List (Str × Addr)) (fp : List Addr), PG (X.blk s H scope (compEnvC scope cl C X.env) fp) tg (tGp (X.blk s H scope (compEnvC scope cl C X.env) fp) t))
    (ht : ∀ (s : Shared) (H : Hp) (C : Addr) (cl : List (Str × Addr)) (fp : List Addr), PTs (X.blk s H scope (compEnvC scope cl C X.env) fp) ifs (tIT (X.blk s H scope (compEnvC scope cl C X.env) fp) fi))
    (he : ∀ (s : Shared) (H : Hp) (C : Addr) (cl : List (Str × Addr)) (fp : List Addr), PE (X.blk s H scope (compEnvC scope cl C X.env) fp) elt (tI (X.blk s H scope (compEnvC scope cl C X.env) fp) fe))
    (hs : ∀ x, foldedSetIterable iter X.env x = pure x) (hv : ∀ i ∈ t.slots, i ∈ own.map (·.2)) :
    PS X (.Assign [.Name y py] (.ListComp elt [⟨tg, iter, ifs, 0⟩] scope pos) spos) (tS X (setF (.nm i) (lcF (own.map (·.2)) t k fs fi fe))) :=
  (ps_setLc (te := tI X fe) (tt := tIT X fi) (g := tGp X t) hc hN hy hyl hsw hi ok hg ht he hs).weak fun D σ H h => gname_of (fun _ q => lc_of hv q) h
theorem s_lc2 (hc : X.calm = true) (hN : X.N.Nodup) (hi : PI X tg iter (iS X k fs)) (ok : BlkOk X.N X.env.scope scope own) (hv1 : ∀ i ∈ vs1, i ∈ own.map (·.2))
    (hg : ∀ (s : Shared) (H : Hp) (C : Addr) (cl : List (Str × Addr)) (fp : List Addr), PG (X.blk s H scope (compEnvC scope cl C X.env) fp) tg (tGp (X.blk s H scope (compEnvC scope cl C X.env) fp) t))
    (ht : ∀ (s : Shared) (H : Hp) (C : Addr) (cl : List (Str × Addr)) (fp : List Addr), PTs (X.blk s H scope (compEnvC scope cl C X.env) fp) ifs (tIT (X.blk s H scope (compEnvC scope cl C X.env) fp) fi))
    (hi1 : ∀ (s : Shared) (H : Hp) (C : Addr) (cl : List (Str × Addr)) (fp : List Addr), PI (X.blk s H scope (compEnvC scope cl C X.env) fp) tg1 iter1 (iS (X.blk s H scope (compEnvC scope cl C X.env) fp) k1 fs1))
    (hg1 : ∀ (s : Shared) (H : Hp) (C : Addr) (cl : List (Str × Addr)) (fp : List Addr), PG (X.blk s H scope (compEnvC scope cl C X.env) fp) tg1 (tGp (X.blk s H scope (compEnvC scope cl C X.env) fp) t1))
    (ht1 : ∀ (s : Shared) (H : Hp) (C : Addr) (cl : List (Str × Addr)) (fp : List Addr), PTs (X.blk s H scope (compEnvC scope cl C X.env) fp) ifs1 (tIT (X.blk s H scope (compEnvC scope cl C X.env) fp) fi1))
    (he : ∀ (s : Shared) (H : Hp) (C : Addr) (cl : List (Str × Addr)) (fp : List Addr), PE (X.blk s H scope (compEnvC scope cl C X.env) fp) elt (tI (X.blk s H scope (compEnvC scope cl C X.env) fp) fe))
    (hs : ∀ x, foldedSetIterable iter X.env x = pure x) (hs1 : ∀ env x, foldedSetIterable iter1 env x = pure x) (hv : ∀ i ∈ t.slots, i ∈ own.map (·.2)) (hv2 : ∀ i ∈ t1.slots, i ∈ vs1) :
    PE X (.ListComp elt [⟨tg, iter, ifs, 0⟩, ⟨tg1, iter1, ifs1, 0⟩] scope pos) (tI X (lc2F (own.map (·.2)) t k fs fi fs1 k1 t1 vs1 fi1 fe)) :=
  (pe_lc2 (te := tI X fe) (tt := tIT X fi) (g := tGp X t) (g1 := tGp X t1) (tt1 := tIT X fi1) (wi1 := iS X k1 fs1) hc hN hi ok hv1 hg ht hi1 hg1 ht1 he hs hs1).weak fun σ H Q h => lc2_of hv hv2 h
theorem s_setlc2 {i : Nat} {y : Str} {py : Pos} (hc : X.calm = true) (hN : X.N.Nodup) (hy : X.N[i]? = some y) (hyl : X.env.scope.names.lookup y = some .local)
    (hsw : swapsWith (.ListComp elt [⟨tg, iter, ifs, 0⟩, ⟨tg1, iter1, ifs1, 0⟩] scope pos) (some (.Name y py)) spos.line X.env = pure true) (hi : PI X tg iter (iS X k fs)) (ok : BlkOk X.N X.env.scope scope own) (hv1 : ∀ i ∈ vs1, i ∈ own.map (·.2))
    (hg : ∀ (s : Shared) (H : Hp) (C : Addr) (cl : List (Str × Addr)) (fp : List Addr), PG (X.blk s H scope (compEnvC scope cl C X.env) fp) tg (tGp (X.blk s H scope (compEnvC scope cl C X.env) fp) t))
    (ht : ∀ (s : Shared) (H : Hp) (C : Addr) (cl : List (Str × Addr)) (fp : List Addr), PTs (X.blk s H scope (compEnvC scope cl C X.env) fp) ifs (tIT (X.blk s H scope (compEnvC scope cl C X.env) fp) fi))
    (hi1 : ∀ (s : Shared) (H : Hp) (C : Addr) (cl : List (Str × Addr)) (fp : List Addr), PI (X.blk s H scope (compEnvC scope cl C X.env) fp) tg1 iter1 (iS (X.blk s H scope (compEnvC scope cl C X.env) fp) k1 fs1))
    (hg1 : ∀ (s : Shared) (H : Hp) (C : Addr) (cl : List (Str × Addr)) (fp : List Addr), PG (X.blk s H scope (compEnvC scope cl C X.env) fp) tg1 (tGp (X.blk s H scope (compEnvC scope cl C X.env) fp) t1))
    (ht1 : ∀ (s : Shared) (H : Hp) (C : Addr) (cl : List (Str × Addr)) (fp : List Addr), PTs (X.blk s H scope (compEnvC scope cl C X.env) fp) ifs1 (tIT (X.blk s H scope (compEnvC scope cl C X.env) fp) fi1))
    (he : ∀ (s : Shared) (H : Hp) (C : Addr) (cl : List (Str × Addr)) (fp : List Addr), PE (X.blk s H scope (compEnvC scope cl C X.env) fp) elt (tI (X.blk s H scope (compEnvC scope cl C X.env) fp) fe))
    (hs : ∀ x, foldedSetIterable iter X.env x = pure x) (hs1 : ∀ env x, foldedSetIterable iter1 env x = pure x) (hv : ∀ i ∈ t.slots, i ∈ own.map (·.2)) (hv2 : ∀ i ∈ t1.slots, i ∈ vs1) :
    PS X (.Assign [.Name y py] (.ListComp elt [⟨tg, iter, ifs, 0⟩, ⟨tg1, iter1, ifs1, 0⟩] scope pos) spos) (tS X (setF (.nm i) (lc2F (own.map (·.2)) t k fs fi fs1 k1 t1 vs1 fi1 fe))) :=
  (ps_setLc2 (te := tI X fe) (tt := tIT X fi) (g := tGp X t) (g1 := tGp X t1) (tt1 := tIT X fi1) (wi1 := iS X k1 fs1) hc hN hy hyl hsw hi ok hv1 hg ht hi1 hg1 ht1 he hs hs1).weak fun D σ H h => gname_of (fun _ q => lc2_of hv hv2 q) h
end
end IX
end

section
set_option Elab.async false
set_option autoImplicit false
set_option linter.all false
set_option maxRecDepth 100000
set_option maxHeartbeats 4000000
/-! Generator expressions within tuple, sum, all, any. -/
namespace IX
open PySem PySem.Spec PyProof.Rows L2 GX
section
variable {K : PySem.W.Frag} {H H' : Hp} {α α' : List Addr} {M M' : Mem}
theorem Nx.of0 (m : RM K H α M) (g : Grow [] H H') (t : TabAll H') : Nx K α H α H' M := ⟨g.mono fun b hb => by simp at hb, ⟨[], by simp, fun b h => by simp at h⟩, m.grow0 g, t⟩
theorem Nx.same (m : RM K H α M) (n : Nx K α H α' H' M') (e : M' = M) : α' = α := by
  obtain ⟨β, e1, _⟩ := n.ext
  have h1 := n.mem.len
  rw [e, ← m.len, e1, List.length_append] at h1
  have : β = [] := List.length_eq_zero_iff.mp (by omega)
  rw [e1, this, List.append_nil]
end
def genT (t : T) (vs : List Nat) (fi : Env → Mem → Option (Bool × Mem)) (fe : Env → Mem → Option (D × Mem)) (ρ : Env) (M : Mem) : P → Option (Option P) := fun x => do
  let ρ' ← t.put x (wipeE ρ vs)
  let (b, M') ← fi ρ' M
  if b then do
    let (y, M'') ← fe ρ' M'
    match y with
    | .p r => if M'' = M then some (some r) else none
    | _ => none
  else if M' = M then some none else none
def genF (gk : GK) (vs : List Nat) (t : T) (k : IK) (fs : Env → Mem → Option (List D × Mem)) (fi : Env → Mem → Option (Bool × Mem)) (fe : Env → Mem → Option (D × Mem)) : Env → Mem → Option (D × Mem) := fun ρ M => do
  let (ds, M) ← fs ρ M
  let s ← src k ds M
  genEnd gk s (genT t vs fi fe ρ M) M
theorem gturns_cons {F : P → Option (Option P)} {x : P} {r : List P} {zs : List P} (h : gturns F (x :: r) = some zs) : ∃ o zs1, F x = some o ∧ gturns F r = some zs1 ∧ zs = o.toList ++ zs1 := by
  obtain ⟨o, e1, h⟩ := ob (show (do
    let o ← F x
    let ys ← gturns F r
    some (o.toList ++ ys)) = some zs from h)
  obtain ⟨ys, e2, h⟩ := ob h
  cases h
  exact ⟨o, ys, e1, e2, rfl⟩
section
variable {X : Cx} {fs : Env → Mem → Option (List D × Mem)} {fi : Env → Mem → Option (Bool × Mem)} {fe : Env → Mem → Option (D × Mem)} {k : IK} {t : T} {elt tg iter : Expr} {ifs : List Expr} {scope : Scope} {own : List (Str × Nat)} {pos cpos p : Pos}
/-- what a turn's F gives -/
theorem genT_some {vs : List Nat} {ρ : Env} {M : Mem} {x : P} {o : Option P} (h : genT t vs fi fe ρ M x = some o) : ∃ ρ' b M1, t.put x (wipeE ρ vs) = some ρ' ∧ fi ρ' M = some (b, M1) ∧ ((b = false ∧ o = none ∧ M1 = M) ∨ (b = true ∧ ∃ r, o = some r ∧ fe ρ' M1 = some (.p r, M))) := by
  obtain ⟨ρ', e1, h⟩ := ob h
  obtain ⟨⟨b, M1⟩, e2, h⟩ := ob h
  refine ⟨ρ', b, M1, e1, e2, ?_⟩
  cases b with
  | false =>
    have h : (if M1 = M then some none else none) = some o := h
    split at h
    · rename_i e; cases h; exact .inl ⟨rfl, rfl, e⟩
    · cases h
  | true =>
    obtain ⟨⟨y, M2⟩, e3, h⟩ := ob h
    cases y with
    | p r =>
      have h : (if M2 = M then some (some r) else none) = some o := h
      split at h
      · rename_i e; cases h; subst e; exact .inr ⟨rfl, r, rfl, e3⟩
      · cases h
    | l _ => cases h
    | scr _ => cases h
/-- the parts of the frame of a generator -/
def GenP (X : Cx) (Ac : Around) (scope : Scope) (tg elt : Expr) (ifs : List Expr) (t : T) (fi : Env → Mem → Option (Bool × Mem)) (fe : Env → Mem → Option (D × Mem)) : Prop :=
  ∀ H Xg, IsG X Xg Ac H scope → PG Xg tg (tGp Xg t) ∧ PTs Xg ifs (tIT Xg fi) ∧ PE Xg elt (tI Xg fe)
theorem reads_col {C : Con} {Ac : Around} {σ : L2.St} {J : It} {s : Src} {In : Hp → List Addr → Prop} {ρ : Env} {M : Mem} {α : List Addr} {H : Hp} {all : List P} (hp : GenP X Ac scope tg elt ifs t fi fe) (hs : ∀ i ∈ t.slots, i ∈ own.map (·.2))
    (r : RS X σ H ρ M α) (it : ItOk X.K J s In) (hIn : In H α) (ho : s.ok M = true) (hr : gturns (genT t (own.map (·.2)) fi fe ρ M) s.xs = some all) (hlen : all.length + 1 < sizeLine)
    (hY : ∀ zs r rest ys y H', all = zs ++ r :: rest → RPs X.K H' (zs ++ [r]) (ys ++ [y]) → C.Yl (ys ++ [y]) H') (hD : ∀ ys H', Nx X.K α H α H' M → RPs X.K H' all ys → C.Dn ys H') : GX.Reads X C Ac H J elt tg ifs scope own σ := by
  intro Xg hg
  obtain ⟨pg, pt, pe⟩ := hp H Xg hg
  obtain ⟨s4, cl, L, cv, fp, pn, rfl, hcv⟩ := hg
  refine ⟨_, _, _, fun i m ys H' => ∃ zs rest, Nx X.K α H α H' M ∧ In H' α ∧ RPs X.K H' zs ys ∧ gturns (genT t (own.map (·.2)) fi fe ρ M) (s.xs.drop i) = some rest ∧ all = zs ++ rest ∧ m = (s.xs.drop i).length, _, pg, pt, pe, ?_,
    [], all, Nx.refl r.mem r.tab, hIn, by unfold RPs; trivial, hr, rfl, rfl⟩
  rintro i m ys H2 ⟨zs, rest, n2, in2, rp2, hr2, ha, hm⟩
  cases hx : s.xs[i]? with
  | none =>
    rw [List.getElem?_eq_none_iff] at hx
    rw [List.drop_eq_nil_of_le hx] at hr2
    cases hr2
    rw [List.append_nil] at ha
    subst ha
    exact .inl ⟨it.fin H2 α M i in2 n2.mem n2.tab ho hx, hD _ _ n2 rp2⟩
  | some x =>
    obtain ⟨go, yl⟩ := it.atI H2 α M i x in2 n2.mem n2.tab ho hx
    obtain ⟨hlt, hxe⟩ := List.getElem?_eq_some_iff.mp hx
    rw [List.drop_eq_getElem_cons hlt, hxe] at hr2 hm
    obtain ⟨o, rest1, f1, hr3, rfl⟩ := gturns_cons hr2
    obtain ⟨ρ', b, M1, f2, f3, f4⟩ := genT_some f1
    refine .inr ⟨go, fun ys H' => ∃ zs rest, Nx X.K α H α H' M ∧ In H' α ∧ RPs X.K H' zs ys ∧ gturns (genT t (own.map (·.2)) fi fe ρ M) (s.xs.drop (i + 1)) = some rest ∧ all = zs ++ rest,
      fun ys' H' ⟨a1, a2, a3, a4, a5, a6, a7⟩ => ⟨_, by rw [hm, List.length_cons]; exact Nat.lt_succ_self _, a1, a2, a3, a4, a5, a6, a7, rfl⟩, fun v H' hy => ?_⟩
    obtain ⟨n3, rv⟩ := yl v H' hy
    have nn := n2.trans r.mem n3
    have in3 := it.step _ _ _ _ _ _ in2 n2.mem n3
    have env : REnv X.K H' α (wipeE ρ (own.map (·.2))) (L2.wipe σ (own.map (·.2))) := (nn.env r.mem r.env).wipe _
    have r3 : RSt X.K X.base cv (L2.wipe σ (own.map (·.2))) H' (wipeE ρ (own.map (·.2))) M α := ⟨env, nn.mem, nn.tab, hcv.grow nn.grow fun b hb => r.mem.lst hb, r.trk.grow nn.grow fun b hb => r.mem.lst hb⟩
    refine ⟨_, M, α, x, ρ', r3, rv, f2, fun σ3 re3 sm => ⟨sm.wipe hs, ?_⟩⟩
    have r4 := r3.with re3
    refine tIT.use (X := Cxg X Ac s4 H scope (gEnv scope cl L cv builtinsNs X.env) fp pn) r4 f3 fun H4 α4 n4 r5 => ?_
    have rp3 := n3.rps n2.mem rp2
    have rp4 := n4.rps r4.mem rp3
    rcases f4 with ⟨rfl, rfl, rfl⟩ | ⟨rfl, rr, rfl, f5⟩
    · obtain rfl := n4.same nn.mem rfl
      exact ⟨zs, rest1, nn.trans r.mem n4, it.step _ _ _ _ _ _ in3 nn.mem n4, rp4, hr3, ha⟩
    · refine tI.use (X := Cxg X Ac s4 H scope (gEnv scope cl L cv builtinsNs X.env) fp pn) r5 f5 fun u H5 α5 n5 d5 r6 => ?_
      have n45 := n4.trans nn.mem n5
      obtain rfl := n45.same nn.mem rfl
      have rp5 : RPs X.K H5 (zs ++ [rr]) (ys ++ [u]) := (n5.rps r5.mem rp4).append (by
        show RPs _ _ [_] [_]
        unfold RPs
        exact ⟨d5, by unfold RPs; trivial⟩)
      refine ⟨?_, hY zs rr rest1 ys u H5 ha rp5, fun _ => ⟨zs ++ [rr], rest1, nn.trans r.mem n45, it.step _ _ _ _ _ _ in3 nn.mem n45, rp5, hr3, by simpa using ha⟩⟩
      have h1 := congrArg List.length ha
      simp only [List.length_append, Option.toList_some, List.length_cons] at h1
      have := rp2.length
      omega
/-- how many yield ahead of the first that stops -/
def gcount (st : Bool) (F : P → Option (Option P)) : List P → Nat
  | [] => 0
  | x :: r => match F x with
    | some (some y) => match truth [] (.p y) with
      | some b => if b = st then 0 else gcount st F r + 1
      | none => 0
    | _ => gcount st F r
theorem reads_test {st : Bool} {Q : VK} {Ac : Around} {σ : L2.St} {J : It} {s : Src} {In : Hp → List Addr → Prop} {ρ : Env} {M : Mem} {α : List Addr} {H : Hp} {b0 : Bool} (hp : GenP X Ac scope tg elt ifs t fi fe) (hs : ∀ i ∈ t.slots, i ∈ own.map (·.2))
    (r : RS X σ H ρ M α) (it : ItOk X.K J s In) (hIn : In H α) (ho : s.ok M = true) (hr : gtest st (genT t (own.map (·.2)) fi fe ρ M) s.xs = some b0) (hlen : s.xs.length + 1 < sizeLine)
    (hQ : ∀ H', Nx X.K α H α H' M → Q (.bl b0) H') : GX.Reads X (cTest X.K st (fun zs => zs.length ≤ gcount st (genT t (own.map (·.2)) fi fe ρ M) s.xs) fun b H' => Q (.bl b) H') Ac H J elt tg ifs scope own σ := by
  intro Xg hg
  obtain ⟨pg, pt, pe⟩ := hp H Xg hg
  obtain ⟨s4, cl, L, cv, fp, pn, rfl, hcv⟩ := hg
  refine ⟨_, _, _, fun i m ys H' => Nx X.K α H α H' M ∧ In H' α ∧ ys.length ≤ i ∧ ys.length + gcount st (genT t (own.map (·.2)) fi fe ρ M) (s.xs.drop i) = gcount st (genT t (own.map (·.2)) fi fe ρ M) s.xs ∧ gtest st (genT t (own.map (·.2)) fi fe ρ M) (s.xs.drop i) = some b0 ∧ m = (s.xs.drop i).length, _, pg, pt, pe, ?_,
    Nx.refl r.mem r.tab, hIn, Nat.le_refl _, Nat.zero_add _, hr, rfl⟩
  rintro i m ys H2 ⟨n2, in2, hl2, hc2, hr2, hm⟩
  cases hx : s.xs[i]? with
  | none =>
    rw [List.getElem?_eq_none_iff] at hx
    rw [List.drop_eq_nil_of_le hx] at hr2
    cases hr2
    exact .inl ⟨it.fin H2 α M i in2 n2.mem n2.tab ho hx, hQ _ n2⟩
  | some x =>
    obtain ⟨go, yl⟩ := it.atI H2 α M i x in2 n2.mem n2.tab ho hx
    obtain ⟨hlt, hxe⟩ := List.getElem?_eq_some_iff.mp hx
    rw [List.drop_eq_getElem_cons hlt, hxe] at hr2 hm hc2
    obtain ⟨o, f1, hr3⟩ := ob (show (do
      let o ← genT t (own.map (·.2)) fi fe ρ M x
      match o with
      | none => gtest st (genT t (own.map (·.2)) fi fe ρ M) (s.xs.drop (i + 1))
      | some y => do
        let b ← truth [] (.p y)
        if b = st then some st else gtest st (genT t (own.map (·.2)) fi fe ρ M) (s.xs.drop (i + 1))) = some b0 from hr2)
    simp only [gcount, f1] at hc2
    obtain ⟨ρ', b, M1, f2, f3, f4⟩ := genT_some f1
    refine .inr ⟨go, fun ys H' => Nx X.K α H α H' M ∧ In H' α ∧ ys.length ≤ i + 1 ∧ ys.length + gcount st (genT t (own.map (·.2)) fi fe ρ M) (s.xs.drop (i + 1)) = gcount st (genT t (own.map (·.2)) fi fe ρ M) s.xs ∧ gtest st (genT t (own.map (·.2)) fi fe ρ M) (s.xs.drop (i + 1)) = some b0,
      fun ys' H' ⟨a1, a2, a3, a4, a5⟩ => ⟨_, by rw [hm, List.length_cons]; exact Nat.lt_succ_self _, a1, a2, a3, a4, a5, rfl⟩, fun v H' hy => ?_⟩
    obtain ⟨n3, rv⟩ := yl v H' hy
    have nn := n2.trans r.mem n3
    have in3 := it.step _ _ _ _ _ _ in2 n2.mem n3
    have env : REnv X.K H' α (wipeE ρ (own.map (·.2))) (L2.wipe σ (own.map (·.2))) := (nn.env r.mem r.env).wipe _
    have r3 : RSt X.K X.base cv (L2.wipe σ (own.map (·.2))) H' (wipeE ρ (own.map (·.2))) M α := ⟨env, nn.mem, nn.tab, hcv.grow nn.grow fun b hb => r.mem.lst hb, r.trk.grow nn.grow fun b hb => r.mem.lst hb⟩
    refine ⟨_, M, α, x, ρ', r3, rv, f2, fun σ3 re3 sm => ⟨sm.wipe hs, ?_⟩⟩
    have r4 := r3.with re3
    refine tIT.use (X := Cxg X Ac s4 H scope (gEnv scope cl L cv builtinsNs X.env) fp pn) r4 f3 fun H4 α4 n4 r5 => ?_
    rcases f4 with ⟨rfl, rfl, rfl⟩ | ⟨rfl, rr, rfl, f5⟩
    · obtain rfl := n4.same nn.mem rfl
      exact ⟨nn.trans r.mem n4, it.step _ _ _ _ _ _ in3 nn.mem n4, Nat.le_succ_of_le hl2, hc2, hr3⟩
    · refine tI.use (X := Cxg X Ac s4 H scope (gEnv scope cl L cv builtinsNs X.env) fp pn) r5 f5 fun u H5 α5 n5 d5 r6 => ?_
      have n45 := n4.trans nn.mem n5
      obtain rfl := n45.same nn.mem rfl
      obtain ⟨tb, g1, g2⟩ := ob hr3
      have htru : TruV X.K u H5 tb := truth_ok (M := []) (α := []) ⟨by simp, rfl, fun i a xs e => by simp at e⟩ (show RD X.K H5 [] (.p rr) u from d5) g1
      have n5t := nn.trans r.mem n45
      simp only [g1] at hc2
      by_cases e : tb = st
      · rw [if_pos e] at hc2 g2
        cases g2
        exact ⟨by omega, ⟨u, tb, by simp, htru, .inr ⟨e, hQ _ n5t⟩⟩, fun hz => absurd (show (ys ++ [u]).length ≤ _ from hz) (by rw [List.length_append, List.length_singleton]; omega)⟩
      · rw [if_neg e] at hc2 g2
        refine ⟨by omega, ⟨u, tb, by simp, htru, .inl ⟨?_, ?_⟩⟩, fun _ => ⟨n5t, it.step _ _ _ _ _ _ in3 nn.mem n45, by rw [List.length_append, List.length_singleton]; omega, by rw [List.length_append, List.length_singleton]; omega, g2⟩⟩
        · cases tb <;> cases st <;> simp_all
        · show (ys ++ [u]).length ≤ _
          rw [List.length_append, List.length_singleton]; omega
/-- f(generator) of a built-in function, of a type -/
theorem gen_callB {kk : Nat} {x : Str} {id : String} {Q' : Value → Shared → Prop} {pins : List (Addr × Obj)} {σ : L2.St} {H : Hp} {s : Shared} {wi : TI} {R : It → Hp → Prop}
    (hg : Gl X x) (hm : X.mg x = none) (hv : bootBuiltins x = some (.builtin id)) (hn : x ≠ "__name__") (hdb : (x == ("__debug__" : Str)) = false)
    (he : starEach [.GeneratorExp elt [⟨tg, iter, ifs, 0⟩] scope pos] X.env = [(false, eval (.GeneratorExp elt [⟨tg, iter, ifs, 0⟩] scope pos) X.env)]) (he0 : starEach [] X.env = [])
    (hN : X.N.Nodup) (hr : Room kk X.A) (bm : BmAt X.base X.mg) (ok : GenOk X.N X.env.scope scope own) (hcalm : X.calm = true) (hi : PI X tg iter wi) (hs : ∀ x, genFold iter X.env x = pure x)
    (I : Inv X pins σ H s) (h : wi σ H fun J H1 => CodeAt X.base H1 X.env.code ∧ TabAll H1 ∧ R J H1)
    (hQ : ∀ J H1 H2 a gn s5, R J H1 → Grow [] H1 H2 → TabAll H2 → MadeAt X pins σ H2 J elt tg iter ifs scope own pos a gn s5 → wpAny (model X.prog X.w) X.A (call (.builtin id) [.ref a]) Q' X.xe s5) :
    wpAny (model X.prog X.w) X.A (eval (.Call (.Name x p) [.GeneratorExp elt [⟨tg, iter, ifs, 0⟩] scope pos] [] cpos) X.env) Q' X.xe s := by
  refine wpAny_Call_Name_kw (ld_blt I hg hm hv ?_ hn hdb)
  refine PyProof.Rows.callWith_builtin1 ?_ (by rw [he, he0]) (by rw [he0]; rfl)
  rw [he]
  show wpAny _ _ (spliced [(false, _)]) _ _ s
  exact Calls.spliced_cons (gen_made hN hr bm ok hcalm hi hs I h fun J H1 H2 a gn s5 q1 q2 q3 q4 => Calls.spliced_nil (hQ J H1 H2 a gn s5 q1 q2 q3 q4))
theorem gen_callT {kk : Nat} {x : Str} {id : String} {Q' : Value → Shared → Prop} {pins : List (Addr × Obj)} {σ : L2.St} {H : Hp} {s : Shared} {wi : TI} {R : It → Hp → Prop}
    (hg : Gl X x) (hm : X.mg x = none) (hv : bootBuiltins x = some (.type id)) (hn : x ≠ "__name__") (hdb : (x == ("__debug__" : Str)) = false)
    (he : starEach [.GeneratorExp elt [⟨tg, iter, ifs, 0⟩] scope pos] X.env = [(false, eval (.GeneratorExp elt [⟨tg, iter, ifs, 0⟩] scope pos) X.env)]) (he0 : starEach [] X.env = [])
    (hN : X.N.Nodup) (hr : Room kk X.A) (bm : BmAt X.base X.mg) (ok : GenOk X.N X.env.scope scope own) (hcalm : X.calm = true) (hi : PI X tg iter wi) (hs : ∀ x, genFold iter X.env x = pure x)
    (I : Inv X pins σ H s) (h : wi σ H fun J H1 => CodeAt X.base H1 X.env.code ∧ TabAll H1 ∧ R J H1)
    (hQ : ∀ J H1 H2 a gn s5, R J H1 → Grow [] H1 H2 → TabAll H2 → MadeAt X pins σ H2 J elt tg iter ifs scope own pos a gn s5 → wpAny (model X.prog X.w) X.A (call (.type id) [.ref a]) Q' X.xe s5) :
    wpAny (model X.prog X.w) X.A (eval (.Call (.Name x p) [.GeneratorExp elt [⟨tg, iter, ifs, 0⟩] scope pos] [] cpos) X.env) Q' X.xe s := by
  refine wpAny_Call_Name_kw (ld_blt I hg hm hv ?_ hn hdb)
  refine PyProof.Rows.callWith_type1 ?_ (by rw [he, he0]) (by rw [he0]; rfl)
  rw [he]
  show wpAny _ _ (spliced [(false, _)]) _ _ s
  exact Calls.spliced_cons (gen_made hN hr bm ok hcalm hi hs I h fun J H1 H2 a gn s5 q1 q2 q3 q4 => Calls.spliced_nil (hQ J H1 H2 a gn s5 q1 q2 q3 q4))
theorem ints_eq : ∀ {xs : List P} {is : List Int}, intsP xs = some is → xs = is.map P.int
  | [], _, h => by cases h; rfl
  | .int i :: xs, is, h => by
    obtain ⟨is', e1, rfl⟩ := Option.map_eq_some_iff.mp (show (intsP xs).map (i :: ·) = some is from h)
    rw [ints_eq e1]; rfl
  | .non :: _, _, h => by cases h
  | .bl _ :: _, _, h => by cases h
  | .str _ :: _, _, h => by cases h
  | .tup _ :: _, _, h => by cases h
theorem isum_ints (is : List Int) : isum (is.map V.int) = is.sum := by
  unfold isum
  rw [List.map_map]
  show (is.map _).sum = _
  rw [show (vint ∘ V.int) = id from rfl, List.map_id]
/-- the around of a consumer's turns -/
def GKA (A : Around) : GK → Around
  | .tuple => A.in4
  | _ => A.in1.in1
def GKn : GK → Str
  | .tuple => "tuple" | .sum => "sum" | .all => "all" | .any => "any"
theorem s_gen {gk : GK} {kk : Nat} (hg : Gl X (GKn gk)) (hm : X.mg (GKn gk) = none)
    (he : starEach [.GeneratorExp elt [⟨tg, iter, ifs, 0⟩] scope pos] X.env = [(false, eval (.GeneratorExp elt [⟨tg, iter, ifs, 0⟩] scope pos) X.env)]) (he0 : starEach [] X.env = [])
    (hN : X.N.Nodup) (hr : Room kk X.A) (bm : BmAt X.base X.mg) (ok : GenOk X.N X.env.scope scope own) (hcalm : X.calm = true) (hi : PI X tg iter (iS X k fs)) (hs : ∀ x, genFold iter X.env x = pure x)
    (hv : ∀ i ∈ t.slots, i ∈ own.map (·.2)) (hp : GenP X (GKA X.A gk) scope tg elt ifs t fi fe) :
    PE X (.Call (.Name (GKn gk) p) [.GeneratorExp elt [⟨tg, iter, ifs, 0⟩] scope pos] [] cpos) (tI X (genF gk (own.map (·.2)) t k fs fi fe)) := by
  refine ⟨fun pins s0 σ H Q I h => ?_⟩
  obtain ⟨ρ, M, α, d, M', r, e, q⟩ := h
  obtain ⟨⟨ds, M1⟩, e1, e⟩ := ob e
  obtain ⟨s, e2, e⟩ := ob e
  let Rr : It → Hp → Prop := fun J H1 => ∃ α1 In, Nx X.K α H α1 H1 M1 ∧ ItOk X.K J s In ∧ In H1 α1 ∧ s.ok M1 = true
  have hw : iS X k fs σ H fun J H1 => CodeAt X.base H1 X.env.code ∧ TabAll H1 ∧ Rr J H1 :=
    ⟨ρ, M, α, ds, s, M1, r, e1, e2, fun J H1 α1 In n1 it hIn ho => ⟨(r.step n1).code, n1.tab, α1, In, n1, it, hIn, ho⟩⟩
  have nn : ∀ {J H1 H2}, Rr J H1 → Grow [] H1 H2 → TabAll H2 → ∃ α1 In, Nx X.K α H α1 H2 M1 ∧ RS X σ H2 ρ M1 α1 ∧ ItOk X.K J s In ∧ In H2 α1 ∧ s.ok M1 = true := fun {J H1 H2} hR g2 t2 => by
    obtain ⟨α1, In, n1, it, hIn, ho⟩ := hR
    have n2 := Nx.of0 n1.mem g2 t2
    exact ⟨α1, In, n1.trans r.mem n2, r.step (n1.trans r.mem n2), it, it.step _ _ _ _ _ _ hIn n1.mem n2, ho⟩
  cases gk with
  | tuple =>
    obtain ⟨all, e3, e⟩ := Option.bind_eq_some_iff.mp (show (gturns _ s.xs).bind _ = some (d, M') from e)
    split at e <;> try contradiction
    rename_i hl
    cases e
    refine gen_callT (x := "tuple") hg hm PyProof.Rows.boot_tuple (by decide) (by decide) he he0 hN hr bm ok hcalm hi hs I hw fun J H1 H2 a gn s5 hR g2 t2 made => ?_
    obtain ⟨α1, In, n2, r2, it, hIn, ho⟩ := nn hR g2 t2
    refine call_tuple_g hr made fun S => reads_col (C := cTup S _) hp hv r2 it hIn ho e3 hl (fun _ _ _ _ _ _ _ _ => trivial) fun ys H' n3 rp => ?_
    intro pp hpp
    exact new_tup n3.mem n3.tab rp (fun w H'' α'' n4 d4 => q w H'' α'' ((n2.trans r.mem n3).trans r.mem n4) d4) pp hpp
  | sum =>
    obtain ⟨all, e3, e⟩ := Option.bind_eq_some_iff.mp (show (gturns _ s.xs).bind _ = some (d, M') from e)
    obtain ⟨is, e4, e⟩ := Option.bind_eq_some_iff.mp e
    split at e <;> try contradiction
    rename_i hl
    cases e
    refine gen_callB (x := "sum") hg hm PyProof.Rows.boot_sum (by decide) (by decide) he he0 hN hr bm ok hcalm hi hs I hw fun J H1 H2 a gn s5 hR g2 t2 made => ?_
    obtain ⟨α1, In, n2, r2, it, hIn, ho⟩ := nn hR g2 t2
    refine call_sum_g hr made fun S => reads_col (C := cSum S _) hp hv r2 it hIn ho e3 hl (fun zs rr rest ys y H' ha rp => ?_) fun ys H' n3 rp => ?_
    · have h1 := ints_eq e4
      rw [ha] at h1
      have h2 : rr ∈ is.map P.int := by rw [← h1]; simp
      obtain ⟨i, _, rfl⟩ := List.mem_map.mp h2
      refine ⟨i, ?_⟩
      have hl2 := rp.length
      obtain ⟨v, hv1, hv2⟩ := rp.get (i := zs.length) (x := .int i) (by simp)
      simp only [List.length_append, List.length_singleton] at hl2
      rw [List.getElem?_append_right (by omega), show zs.length - ys.length = 0 from by omega] at hv1
      simp at hv1
      subst hv1
      rw [List.getLast?_append]
      simp
      exact hv2
    · rw [ints_ok rp e4]
      show Q (.int (isum _)) H'
      rw [isum_ints]
      exact q _ H' α1 (n2.trans r.mem n3) (by exact rfl)
  | all =>
    have e : (if s.xs.length + 1 < sizeLine then (gtest false (genT t (own.map (·.2)) fi fe ρ M1) s.xs).map fun b => (D.p (.bl b), M1) else none) = some (d, M') := e
    split at e <;> try contradiction
    rename_i hl
    obtain ⟨b0, e3, e⟩ := Option.map_eq_some_iff.mp e
    cases e
    refine gen_callB (x := "all") hg hm PyProof.Rows.boot_all (by decide) (by decide) he he0 hN hr bm ok hcalm hi hs I hw fun J H1 H2 a gn s5 hR g2 t2 made => ?_
    obtain ⟨α1, In, n2, r2, it, hIn, ho⟩ := nn hR g2 t2
    exact call_all_g hr made (reads_test hp hv r2 it hIn ho e3 hl fun H' n3 => q _ H' α1 (n2.trans r.mem n3) (by exact rfl))
  | any =>
    have e : (if s.xs.length + 1 < sizeLine then (gtest true (genT t (own.map (·.2)) fi fe ρ M1) s.xs).map fun b => (D.p (.bl b), M1) else none) = some (d, M') := e
    split at e <;> try contradiction
    rename_i hl
    obtain ⟨b0, e3, e⟩ := Option.map_eq_some_iff.mp e
    cases e
    refine gen_callB (x := "any") hg hm PyProof.Rows.boot_any (by decide) (by decide) he he0 hN hr bm ok hcalm hi hs I hw fun J H1 H2 a gn s5 hR g2 t2 made => ?_
    obtain ⟨α1, In, n2, r2, it, hIn, ho⟩ := nn hR g2 t2
    exact call_any_g hr made (reads_test hp hv r2 it hIn ho e3 hl fun H' n3 => q _ H' α1 (n2.trans r.mem n3) (by exact rfl))
end
end IX
end

section
set_option Elab.async false
set_option autoImplicit false
set_option linter.all false
set_option maxRecDepth 100000
set_option maxHeartbeats 4000000
/-! Calls of the text's own defs; a def's promise. -/
namespace IX
open PySem PySem.Spec PyProof.Rows L2 GX
/-- the promise of a def that gives what w gives -/
def spI (K : PySem.W.Frag) (np : Nat) (w : List D → Mem → Option (D × Mem)) : Sp := fun vs H Q _ => vs.length = np ∧ ∃ α ds M d M', RM K H α M ∧ TabAll H ∧ Trk K H ∧ RDs K H α ds vs ∧ w ds M = some (d, M') ∧
  ∀ v H' α', Nx K α H α' H' M' → RD K H' α' d v → Q v H'
section
variable {K : PySem.W.Frag} {H H' : Hp} {α α' : List Addr} {M M' : Mem}
theorem getAll_len {A : Type} {xs : List A} : ∀ {is : List Nat} {ys : List A}, getAll xs is = some ys → ys.length = is.length
  | [], ys, h => by cases h; rfl
  | i :: is, ys, h => by
    obtain ⟨x, e1, h⟩ := ob (show (do
      let x ← xs[i]?
      let rs ← getAll xs is
      some (x :: rs)) = some ys from h)
    obtain ⟨rs, e2, h⟩ := ob h
    cases h
    rw [List.length_cons, List.length_cons, getAll_len e2]
theorem getAll_get {A : Type} {xs : List A} : ∀ {is : List Nat} {ys : List A} {j i : Nat}, getAll xs is = some ys → is[j]? = some i → ys[j]? = xs[i]? ∧ ∃ y, xs[i]? = some y
  | [], _, _, _, _, h' => by simp at h'
  | i :: is, ys, j, i', h, h' => by
    obtain ⟨x, e1, h⟩ := ob (show (do
      let x ← xs[i]?
      let rs ← getAll xs is
      some (x :: rs)) = some ys from h)
    obtain ⟨rs, e2, h⟩ := ob h
    cases h
    cases j with
    | zero => simp at h'; subst h'; exact ⟨by simp [e1], x, e1⟩
    | succ j =>
      rw [List.getElem?_cons_succ] at h' ⊢
      exact getAll_get e2 h'
theorem getAll_mem {A : Type} {xs : List A} {is : List Nat} {ys : List A} (h : getAll xs is = some ys) : ∀ y ∈ ys, y ∈ xs := fun y hy => by
  obtain ⟨j, hj, e⟩ := List.mem_iff_getElem.mp hy
  have hj' : j < is.length := by rw [← getAll_len h]; exact hj
  obtain ⟨e1, z, e2⟩ := getAll_get (j := j) (i := is[j]) h (List.getElem?_eq_getElem hj')
  rw [List.getElem?_eq_getElem hj, e, e2] at e1
  cases e1
  exact List.mem_of_getElem? e2
theorem getAll_nodup {A : Type} {xs : List A} (hx : xs.Nodup) {is : List Nat} {ys : List A} (h : getAll xs is = some ys) (hi : is.Nodup) : ys.Nodup := by
  induction is generalizing ys with
  | nil => cases h; exact List.nodup_nil
  | cons i is ih =>
    obtain ⟨x, e1, h⟩ := ob (show (do
      let x ← xs[i]?
      let rs ← getAll xs is
      some (x :: rs)) = some ys from h)
    obtain ⟨rs, e2, h⟩ := ob h
    cases h
    rw [List.nodup_cons] at hi ⊢
    refine ⟨fun hm => ?_, ih e2 hi.2⟩
    obtain ⟨j, hj, e⟩ := List.mem_iff_getElem.mp hm
    have hj' : j < is.length := by rw [← getAll_len e2]; exact hj
    obtain ⟨e3, z, e4⟩ := getAll_get (j := j) (i := is[j]) e2 (List.getElem?_eq_getElem hj')
    rw [List.getElem?_eq_getElem hj, e, e4] at e3
    cases e3
    have : is[j] = i := (List.getElem?_inj (List.getElem?_eq_some_iff.mp e4).1 hx).mp (e4.trans e1.symm)
    exact hi.1 (by rw [← this]; exact List.getElem_mem hj')
/-- the arguments as the callee sees them -/
theorem callIn_ok : ∀ {as : List D} {vs : List V} {n : Nat} {αp αc : List Addr}, αp.length = n → getAll α (callIn as n).2 = some αc → (∀ a ∈ αp ++ αc, a ∈ α) → RDs K H α as vs → RDs K H (αp ++ αc) (callIn as n).1 vs
  | [], [], _, _, _, _, _, _, _ => trivial
  | .p x :: as, v :: vs, n, αp, αc, hn, hg, hm, r => ⟨r.1, callIn_ok (as := as) hn hg hm r.2⟩
  | .scr xs :: as, v :: vs, n, αp, αc, hn, hg, hm, r => by
    refine ⟨?_, callIn_ok (as := as) hn hg hm r.2⟩
    obtain ⟨a, us, e, q, rp⟩ := r.1
    refine ⟨a, us, e, ?_, rp⟩
    rcases q with ⟨q, hn⟩ | q
    · exact .inl ⟨q, fun z => hn (hm a z)⟩
    · exact .inr q
  | .l i :: as, v :: vs, n, αp, αc, hn, hg, hm, r => by
    obtain ⟨a, e1, hg⟩ := ob (show (do
      let x ← α[i]?
      let rs ← getAll α (callIn as (n + 1)).2
      some (x :: rs)) = some αc from hg)
    obtain ⟨rs, e2, hg⟩ := ob hg
    cases hg
    have hap : αp ++ a :: rs = (αp ++ [a]) ++ rs := by simp
    refine ⟨?_, ?_⟩
    · obtain ⟨a', e3, e4⟩ := r.1
      rw [e1] at e3; cases e3
      refine ⟨a, ?_, e4⟩
      rw [List.getElem?_append_right (by omega), hn, Nat.sub_self]
      rfl
    · rw [hap]
      exact callIn_ok (as := as) (by simp [hn]) e2 (by rw [← hap]; exact hm) r.2
  | [], _ :: _, _, _, _, _, _, _, r => r.elim
  | .p _ :: _, [], _, _, _, _, _, _, r => r.elim
  | .scr _ :: _, [], _, _, _, _, _, _, r => r.elim
  | .l _ :: _, [], _, _, _, _, _, _, r => r.elim
theorem putAll_len : ∀ {is : List Nat} {xs : List (List P)} {M : Mem}, (putAll M is xs).length = M.length
  | [], _, _ => by simp [putAll]
  | _ :: _, [], _ => by simp [putAll]
  | i :: is, x :: xs, M => by
    show (putAll (M.set i x) is xs).length = _
    rw [putAll_len, List.length_set]
theorem putAll_out : ∀ {is : List Nat} {xs : List (List P)} {M : Mem} {k : Nat}, k ∉ is → (putAll M is xs)[k]? = M[k]?
  | [], _, _, _, _ => by simp [putAll]
  | _ :: _, [], _, _, _ => by simp [putAll]
  | i :: is, x :: xs, M, k, h => by
    simp only [List.mem_cons, not_or] at h
    show (putAll (M.set i x) is xs)[k]? = _
    rw [putAll_out h.2, List.getElem?_set_ne (Ne.symm h.1)]
theorem putAll_in : ∀ {is : List Nat} {xs : List (List P)} {M : Mem} {j k : Nat}, is.Nodup → is[j]? = some k → k < M.length → j < xs.length → (putAll M is xs)[k]? = xs[j]?
  | [], _, _, _, _, _, h, _, _ => by simp at h
  | _ :: _, [], _, _, _, _, _, _, h => by simp at h
  | i :: is, x :: xs, M, 0, k, hn, h, hk, _ => by
    simp at h; subst h
    show (putAll (M.set i x) is xs)[i]? = _
    rw [putAll_out (List.nodup_cons.mp hn).1, List.getElem?_set_self hk]; rfl
  | i :: is, x :: xs, M, j + 1, k, hn, h, hk, hj => by
    show (putAll (M.set i x) is xs)[k]? = _
    rw [List.getElem?_cons_succ]
    exact putAll_in (List.nodup_cons.mp hn).2 (by simpa using h) (by simpa using hk) (by simpa using hj)
theorem call_ok {as : List D} {vs : List V} {Ms : Mem} {w : List D → Mem → Option (D × Mem)} {d0 d : D} {Mc : Mem} {Q : VK} {E : XK} {np : Nat} (m : RM K H α M) (t : TabAll H) (tk : Trk K H) (r : RDs K H α as vs) (hl : vs.length = np)
    (hn : (callIn as 0).2.Nodup) (hM : getAll M (callIn as 0).2 = some Ms) (hw : w (callIn as 0).1 Ms = some (d0, Mc)) (ho : callOut (callIn as 0).2 d0 Mc M = some (d, M'))
    (q : ∀ v H' α', Nx K α H α' H' M' → RD K H' α' d v → Q v H') : spI K np w vs H Q E := by
  generalize hb : (callIn as 0).1 = bs at hw
  generalize hi : (callIn as 0).2 = is at hn hM ho
  have hlM := getAll_len hM
  -- the callee's cells
  obtain ⟨αc, hg⟩ : ∃ αc, getAll α is = some αc := by
    have : ∀ {js : List Nat} {Ns : Mem}, getAll M js = some Ns → ∃ αc, getAll α js = some αc := by
      intro js
      induction js with
      | nil => intro Ns _; exact ⟨[], rfl⟩
      | cons j js ih =>
        intro Ns h
        obtain ⟨x, e1, h⟩ := ob (show (do
          let x ← M[j]?
          let rs ← getAll M js
          some (x :: rs)) = some Ns from h)
        obtain ⟨rs, e2, h⟩ := ob h
        obtain ⟨αc, e3⟩ := ih e2
        have hj : j < α.length := by rw [m.len]; exact (List.getElem?_eq_some_iff.mp e1).1
        exact ⟨α[j] :: αc, by show (α[j]? >>= _) = _; rw [List.getElem?_eq_getElem hj]; show (getAll α js >>= _) = _; rw [e3]; rfl⟩
    exact this hM
  have hlc := getAll_len hg
  have hsub := getAll_mem hg
  have hnd := getAll_nodup m.nd hg hn
  have mc : RM K H αc Ms := ⟨hnd, by rw [hlc, hlM], fun j a xs e1 e2 => by
    have hj : j < is.length := by rw [← hlc]; exact (List.getElem?_eq_some_iff.mp e1).1
    obtain ⟨g1, _⟩ := getAll_get (j := j) (i := is[j]) hg (List.getElem?_eq_getElem hj)
    obtain ⟨g2, _⟩ := getAll_get (j := j) (i := is[j]) hM (List.getElem?_eq_getElem hj)
    rw [e1] at g1
    rw [e2] at g2
    exact m.cell is[j] a xs g1.symm g2.symm⟩
  have rc : RDs K H αc bs vs := by
    have := callIn_ok (as := as) (n := 0) (αp := []) (αc := αc) rfl (by rw [hi]; exact hg) (fun a ha => hsub a ha) r
    rw [hb] at this
    exact this
  refine ⟨hl, αc, bs, Ms, d0, Mc, mc, t, tk, rc, hw, fun v H' αc' n rd => ?_⟩
  obtain ⟨β, e1, f1⟩ := n.ext
  have na : ∀ b ∈ αc, ∃ xs, H b = some (.lst xs) := fun b hb => m.lst (hsub b hb)
  have hlc' : αc'.length = Mc.length := n.mem.len
  have hcl : is.length ≤ Mc.length := by rw [← hlc', e1, List.length_append, hlc]; omega
  -- behind the call
  have nx : Nx K α H α H' (putAll M is Mc) := by
    refine ⟨n.grow.mono hsub, ⟨[], by simp, fun b h => by simp at h⟩, ⟨m.nd, by rw [putAll_len]; exact m.len, fun k a xs g1 g2 => ?_⟩, n.tab⟩
    by_cases hk : k ∈ is
    · obtain ⟨j, hj, ej⟩ := List.mem_iff_getElem.mp hk
      have hj' : is[j]? = some k := by rw [List.getElem?_eq_getElem hj, ej]
      have hkM : k < M.length := by rw [← m.len]; exact (List.getElem?_eq_some_iff.mp g1).1
      rw [putAll_in hn hj' hkM (by omega)] at g2
      obtain ⟨g3, _⟩ := getAll_get hg hj'
      refine n.mem.cell j a xs ?_ g2
      rw [e1, List.getElem?_append_left (by rw [hlc]; exact hj), g3]
      exact g1
    · rw [putAll_out hk] at g2
      obtain ⟨us, g3, g4⟩ := m.cell k a xs g1 g2
      refine ⟨us, grow_at na n.grow g3 (fun z => ?_) (fun ps z => by cases z), RPs.grow na n.grow _ _ g4⟩
      obtain ⟨j, hj, ej⟩ := List.mem_iff_getElem.mp z
      have hj' : j < is.length := by rw [← hlc]; exact hj
      obtain ⟨g5, y, g6⟩ := getAll_get (j := j) (i := is[j]) hg (List.getElem?_eq_getElem hj')
      rw [List.getElem?_eq_getElem hj, ej, g6] at g5
      cases g5
      have : is[j] = k := (List.getElem?_inj (List.getElem?_eq_some_iff.mp g6).1 m.nd).mp (g6.trans g1.symm)
      exact hk (by rw [← this]; exact List.getElem_mem hj')
  cases d0 with
  | p x =>
    cases ho
    exact q v H' α nx rd
  | scr xs => cases ho
  | l j =>
    obtain ⟨a, g1, rfl⟩ := rd
    have ho : (match is[j]? with
      | some i => some (D.l i, putAll M is Mc)
      | none => Mc[j]?.bind fun xs => some (.l M.length, putAll M is Mc ++ [xs])) = some (d, M') := ho
    cases hj : is[j]? with
    | some i =>
      rw [hj] at ho
      cases ho
      refine q _ H' α nx ⟨a, ?_, rfl⟩
      obtain ⟨g3, _⟩ := getAll_get hg hj
      rw [e1, List.getElem?_append_left (by rw [hlc]; exact (List.getElem?_eq_some_iff.mp hj).1), g3] at g1
      exact g1
    | none =>
      rw [hj] at ho
      obtain ⟨xs, g2, ho⟩ := Option.bind_eq_some_iff.mp ho
      cases ho
      have hjl : is.length ≤ j := List.getElem?_eq_none_iff.mp hj
      have hβ : a ∈ β := by
        rw [e1, List.getElem?_append_right (by rw [hlc]; exact hjl)] at g1
        exact List.mem_of_getElem? g1
      obtain ⟨us, g3, g4⟩ := n.mem.cell j a xs g1 g2
      have hna : a ∉ α := fun z => by
        obtain ⟨ws, g5⟩ := m.lst z
        rw [f1 a hβ] at g5; cases g5
      refine q _ H' (α ++ [a]) (nx.adopt (f1 a hβ) hna g3 g4) ⟨a, ?_, rfl⟩
      rw [← m.len, List.getElem?_append_right (Nat.le_refl _)]
      simp
end
/-- no exception ever comes out -/
def CXF : CXT := fun _ _ _ _ _ _ => False
theorem passF {X : Cx} {E : XK} : Passes CXF X E := fun _ _ _ _ _ _ _ h => h.elim
section
variable {X : Cx} {fs : Env → Mem → Option (List D × Mem)} {e : Expr} {es : List Expr} {p pos : Pos} {k : Nat} {f : Addr} {fd : FuncData} {ps ks : List Str} {x : Str} {w : List D → Mem → Option (D × Mem)}
def callF (w : List D → Mem → Option (D × Mem)) (ix : List Nat) (fs : Env → Mem → Option (List D × Mem)) : Env → Mem → Option (D × Mem) := fun ρ M => do
  let (ds, M) ← fs ρ M
  let as ← getAll ds ix
  if (callIn as 0).2.Nodup then do
    let Ms ← getAll M (callIn as 0).2
    let (d, Mc) ← w (callIn as 0).1 Ms
    callOut (callIn as 0).2 d Mc M
  else none
theorem rds_len {K : PySem.W.Frag} {H : Hp} {α : List Addr} : ∀ {ds : List D} {vs : List V}, RDs K H α ds vs → ds.length = vs.length
  | [], [], _ => rfl
  | _ :: ds, _ :: vs, h => by rw [List.length_cons, List.length_cons, rds_len h.2]
  | [], _ :: _, h => h.elim
  | _ :: _, [], h => h.elim
theorem rds_get {K : PySem.W.Frag} {H : Hp} {α : List Addr} : ∀ {ds : List D} {vs : List V} {i : Nat} {d : D}, RDs K H α ds vs → ds[i]? = some d → ∃ v, vs[i]? = some v ∧ RD K H α d v
  | [], _, _, _, _, e => by simp at e
  | d :: ds, v :: vs, 0, d', h, e => by simp at e; subst e; exact ⟨v, rfl, h.1⟩
  | d :: ds, v :: vs, i + 1, d', h, e => by simpa using rds_get h.2 (by simpa using e)
  | _ :: _, [], _, _, h, _ => h.elim
theorem rds_all {K : PySem.W.Frag} {H : Hp} {α : List Addr} {ds : List D} {vs : List V} (h : RDs K H α ds vs) : ∀ {ix : List Nat} {as : List D}, getAll ds ix = some as → ∃ us, getAll vs ix = some us ∧ RDs K H α as us
  | [], as, e => by cases e; exact ⟨[], rfl, trivial⟩
  | i :: ix, as, e => by
    obtain ⟨d, e1, e⟩ := ob (show (do
      let x ← ds[i]?
      let rs ← getAll ds ix
      some (x :: rs)) = some as from e)
    obtain ⟨rs, e2, e⟩ := ob e
    cases e
    obtain ⟨v, g1, g2⟩ := rds_get h e1
    obtain ⟨us, g3, g4⟩ := rds_all h e2
    exact ⟨v :: us, by show (vs[i]? >>= _) = _; rw [g1]; show (getAll vs ix >>= _) = _; rw [g3]; rfl, g2, g4⟩
theorem getAll_id {A : Type} (xs : List A) : getAll xs (List.range xs.length) = some xs := by
  have key : ∀ (ys pre : List A), getAll (pre ++ ys) (List.range' pre.length ys.length) = some ys := by
    intro ys
    induction ys with
    | nil => intro pre; rfl
    | cons y ys ih =>
      intro pre
      rw [List.length_cons, List.range'_succ]
      show ((pre ++ y :: ys)[pre.length]? >>= _) = _
      rw [List.getElem?_append_right (Nat.le_refl _), Nat.sub_self]
      have := ih (pre ++ [y])
      rw [List.append_assoc, List.singleton_append, List.length_append, List.length_singleton] at this
      show (getAll (pre ++ y :: ys) (List.range' (pre.length + 1) ys.length) >>= _) = _
      rw [this]; rfl
  have := key xs []
  rw [List.nil_append] at this
  rw [List.range_eq_range']
  exact this
/-- f(a, ..) all by place -/
theorem s_call (F : FnOk X.prog X.w X.K X.mg X.base CXF k f fd ps (spI X.K ps.length w)) (hr : Room k X.A) (hg : Gl X x) (hm : X.mg x = some (.ref f)) (hk : PySem.W.keepIn X.K (.ref f) = true) (hb : Binds X.K fd ps [])
    (ha : PA X (e :: es) (tIA X fs)) (hdb : (x == ("__debug__" : Str)) = false) (he : starEach (e :: es) X.env = (false, eval e X.env) :: starEach es X.env) (hpl : (backTo pos (starEach es X.env)).any (·.1) = false)
    (hn : (e :: es).length = ps.length) (h1 : ∀ ρ M ds M', fs ρ M = some (ds, M') → ds.length = (e :: es).length) :
    PE X (.Call (.Name x p) (e :: es) [] pos) (tI X (callF w (List.range ps.length) fs)) := (pe_call (E := fun _ _ _ => False) F hr hg hm hk hb .nil passF ha hdb he hpl).weak fun σ H Q h => by
  obtain ⟨ρ, M, α, d, M', r, e0, q⟩ := h
  obtain ⟨⟨ds, M1⟩, e1, e0⟩ := ob e0
  obtain ⟨as, e2, e0⟩ := ob e0
  split at e0 <;> try contradiction
  rename_i hnd
  obtain ⟨Ms, e3, e0⟩ := ob e0
  obtain ⟨⟨d0, Mc⟩, e4, e0⟩ := ob e0
  have hl := h1 _ _ _ _ e1
  rw [← hn, ← hl, getAll_id] at e2
  cases e2
  refine tIA.use r e1 fun vs H1 α1 n1 rd r1 => ?_
  rw [List.append_nil]
  refine call_ok r1.mem r1.tab r1.trk rd ?_ hnd e3 e4 e0 fun v H' α' n d => q v H' α' (n1.trans r.mem n) d
  rw [← rds_len rd, hl, hn]
/-- f(k = a, ..) all by name -/
theorem pe_callK0 {CX : CXT} {E : XK} {sp : Sp} {kws : List Keyword} {tk : TA} {g : List Value → List Value → List Value} {gV : List V → List V → List V} (F : FnOk X.prog X.w X.K X.mg X.base CX k f fd ps sp) (hr : Room k X.A) (hg : Gl X x) (hm : X.mg x = some (.ref f)) (hk : PySem.W.keepIn X.K (.ref f) = true) (hb : KBinds X.K fd ps ks g gV) (hx : Passes CX X E)
    (hkw : PK X kws tk) (hall : (backToKw pos (keywordEach kws X.env)).all (·.1.isSome) = true) (hks : (backToKw pos (keywordEach kws X.env)).filterMap (·.1) = ks)
    (hdb : (x == ("__debug__" : Str)) = false) (hpl : ((backTo pos (starEach [] X.env)).any (·.1) || (backToKw pos (keywordEach kws X.env)).any (·.1.isNone)) = false) :
    PE X (.Call (.Name x p) [] kws pos) (tCallK sp gV E tNil tk) := by
  refine ⟨fun pins s σ H Q I h => ?_⟩
  refine wpAny_Call_Name_kw (ld_glob I hg hm ?_ hdb)
  refine PySem.W.callWith_KW0 (h₀ := X.base) I.ok.mod.kin hk hall (thn (hkw.run pos pins s σ H _ I h) fun ws s2 ⟨zs, H2, I2, rz, q2⟩ => ⟨I2.kIn, ?_⟩) hpl
  rw [hks]
  exact run_fnk (us := []) (vs := []) F hr hb hx I2 .nil rz q2
def tIK := @tIA
theorem k_nil : PK X [] (tIA X fun _ M => some ([], M)) := ⟨fun pos pins s σ H Q I h => pk_nil.run pos pins s σ H Q I (by
  obtain ⟨ρ, M, α, d, M', r0, e, q⟩ := h
  cases e
  exact q [] H α (Nx.refl r0.mem r0.tab) trivial)⟩
theorem k_cons {fa : Env → Mem → Option (D × Mem)} {kws : List Keyword} {nm : Option Str} {kpos : Pos} (ha : PE X e (tI X fa)) (hs : PK X kws (tIA X fs)) : PK X (⟨nm, e, kpos⟩ :: kws) (tIA X fun ρ M => do
      let (x, M) ← fa ρ M
      let (xs, M) ← fs ρ M
      some (x :: xs, M)) := ⟨fun pos pins s σ H Q I h => (pk_cons ha hs).run pos pins s σ H Q I (by
  obtain ⟨ρ, M, α, d, M', r0, e, q⟩ := h
  obtain ⟨⟨x, M1⟩, e1, e⟩ := ob e
  obtain ⟨⟨xs, M2⟩, e2, e⟩ := ob e
  cases e
  exact tI.use r0 e1 fun v H1 α1 n1 d1 r1 => tIA.use r1 e2 fun vs H2 α2 n2 d2 r2 => q _ H2 α2 (n1.trans r0.mem n2) ⟨n2.rd r1.mem d1, d2⟩)⟩
/-- the keywords ks, each parameter once: the order -/
def ixOf (ps ks : List Str) : List Nat := ps.map fun p => ks.findIdx (· == p)
def gKs (ps ks : List Str) {A : Type} (us ws : List A) : List A := match us with
  | [] => (getAll ws (ixOf ps ks)).getD []
  | _ => []
theorem s_callk {kws : List Keyword} (F : FnOk X.prog X.w X.K X.mg X.base CXF k f fd ps (spI X.K ps.length w)) (hr : Room k X.A) (hg : Gl X x) (hm : X.mg x = some (.ref f)) (hk : PySem.W.keepIn X.K (.ref f) = true)
    (hb : KBinds X.K fd ps ks (gKs ps ks) (gKs ps ks))
    (hkw : PK X kws (tIA X fs)) (hall : (backToKw pos (keywordEach kws X.env)).all (·.1.isSome) = true) (hks : (backToKw pos (keywordEach kws X.env)).filterMap (·.1) = ks)
    (hdb : (x == ("__debug__" : Str)) = false) (hpl : ((backTo pos (starEach [] X.env)).any (·.1) || (backToKw pos (keywordEach kws X.env)).any (·.1.isNone)) = false) :
    PE X (.Call (.Name x p) [] kws pos) (tI X (callF w (ixOf ps ks) fs)) := (pe_callK0 (E := fun _ _ _ => False) F hr hg hm hk hb passF hkw hall hks hdb hpl).weak fun σ H Q h => by
  obtain ⟨ρ, M, α, d, M', r, e0, q⟩ := h
  obtain ⟨⟨ds, M1⟩, e1, e0⟩ := ob e0
  obtain ⟨as, e2, e0⟩ := ob e0
  split at e0 <;> try contradiction
  rename_i hnd
  obtain ⟨Ms, e3, e0⟩ := ob e0
  obtain ⟨⟨d0, Mc⟩, e4, e0⟩ := ob e0
  refine tIA.use r e1 fun vs H1 α1 n1 rd r1 => ?_
  obtain ⟨us, g1, g2⟩ := rds_all rd e2
  show spI X.K ps.length w ((getAll vs (ixOf ps ks)).getD []) H1 Q _
  rw [g1]
  refine call_ok r1.mem r1.tab r1.trk g2 ?_ hnd e3 e4 e0 fun v H' α' n d => q v H' α' (n1.trans r.mem n) d
  show us.length = _
  rw [getAll_len g1]
  simp [ixOf]
end
/-- a def's promise from its body -/
theorem fn_I {P : Program} {w : World} {K : PySem.W.Frag} {mg : Str → Option Value} {base : Heap} {k : Nat} {f : Addr} {name qual : Str} {params : Arguments} {body : List Stmt} {scope : Scope} {dV kV doc pm cdv ct oc : Value} {an od : Option Addr}
    {osl : Array (Option Value)} {N ps : List Str} {W : List D → Mem → Option (D × Mem)} {fb : Env → Mem → Option Out} (lk : K.lookup f = some ⟨oc, od, .func (PySem.W.fnOf name qual params body scope dV kV doc pm an cdv ct), osl⟩) (hcd : PySem.W.codeIn K cdv qual = true) (S : FnScope N ps scope)
    (hbase : K.In base) {c Pt : Addr} (hcd2 : cdv = .ref c) (hct : PySem.W.codeHdIn K c Pt = true)
    (hW : ∀ ds M d M', ds.length = ps.length → W ds M = some (d, M') → ∃ o, fb (ds.map some ++ List.replicate (N.length - ps.length) none) M = some o ∧ fin o = some (d, M'))
    (hbody : ∀ (A : Around) (outer : List PySem.Env) (s : Shared) (H : Hp) (E : XK), Room k (A.deeper (envOfC qual scope s.heap.objs.size f cdv)) →
      PSs (cxOf CXF P w K mg base N qual scope f cdv A outer s H E) body (tS (cxOf CXF P w K mg base N qual scope f cdv A outer s H E) fb)) :
    FnOk P w K mg base CXF (k + 1) f (PySem.W.fnOf name qual params body scope dV kV doc pm an cdv ct) ps (spI K ps.length W) := by
  refine fn_of lk hcd S (fun vs H Q E h => h.1) fun A outer s H vs Q E hr h => ?_
  refine ⟨_, hbody A outer s H E hr, ?_⟩
  obtain ⟨hl, α, ds, M, d, M', m, t, tk, rd, hw, q⟩ := h
  have hdl := rds_len rd
  have hch := PySem.W.codeHd_of_K hbase hct
  have hne : c ≠ Pt := by obtain ⟨_, _, _, _, _, _, _, _, _, _, _, _, _, _, _, _, _, _, hne⟩ := hch; exact hne
  obtain ⟨o, h1, h2⟩ := hW ds M d M' (by rw [hdl, hl]) hw
  refine ⟨_, M, α, o, ⟨?_, m, t, ⟨c, Pt, hcd2, hne, tk c Pt hct, .inl hch⟩, tk⟩, h1, ?_⟩
  · have hpl : ps.length ≤ N.length := by have := congrArg List.length S.pre; rw [List.length_take] at this; omega
    refine ⟨?_, fun i d' hi => ?_⟩
    · unfold L2.start
      simp only [List.length_append, List.length_map, List.length_replicate, hdl, hl]
    · by_cases hlt : i < ds.length
      · rw [List.getElem?_append_left (by simpa using hlt), List.getElem?_map] at hi
        obtain ⟨d2, e1, e2⟩ := Option.map_eq_some_iff.mp hi
        cases e2
        obtain ⟨v, g1, g2⟩ := rds_get rd e1
        refine ⟨v, ?_, g2⟩
        unfold L2.start
        rw [List.getElem?_append_left (by rw [List.length_map, ← hdl]; exact hlt), List.getElem?_map, g1]
        rfl
      · rw [List.getElem?_append_right (by simpa using hlt), List.getElem?_replicate] at hi
        split at hi <;> cases hi
  · cases o with
    | rt d2 M2 => cases h2; exact q
    | nx ρ2 M2 => cases h2; exact fun σ' H' α' n _ => q .non H' α' n rfl
    | bk _ _ => cases h2
    | ct _ _ => cases h2
end IX
end

section
set_option Elab.async false
set_option autoImplicit false
set_option linter.all false
set_option maxRecDepth 100000
set_option maxHeartbeats 4000000
/-! From the program's text to the small language. -/
namespace IX
open PySem PySem.Spec PyProof.Rows L2 GX
/-- what is known of the module: constants; defs by number, with parameters and the keyword orders that are called -/
structure Pg where
  G : List (Str × P)
  F : List (Str × (Nat × List Str × List (List Str)))
def bltN : List Str := ["len", "abs", "int", "bool", "max", "min", "sum", "tuple", "list", "isinstance", "all", "any", "range", "enumerate", "zip", "str"]
def slotOf (N : List Str) (x : Str) : Option Nat := N.findIdx? (· == x)
def okName (x : Str) : Bool := !(x == ("__debug__" : Str)) && !(x == ("__classdict__" : Str))
def isVis (sc : Scope) (x : Str) : Bool := match sc.names.lookup x with
  | some .local | some .cell | some .free => true
  | _ => false
def isLoc (sc : Scope) (x : Str) : Bool := match sc.names.lookup x with
  | some .local | some .cell => true
  | _ => false
def isGl (sc : Scope) (x : Str) : Bool := match sc.names.lookup x with
  | some .globalImplicit => true
  | _ => false
def cstP : Const → Option P
  | .none => some .non
  | .bool b => some (.bl b)
  | .int i => some (.int i)
  | .str x => some (.str x)
  | _ => none
def opB : Operator → Option BO
  | .Add => some .add | .Sub => some .sub | .Mult => some .mul | .FloorDiv => some .fdiv | .Mod => some .mod | .Pow => some .pow
  | _ => none
def opC : CmpOp → CO
  | .Eq => .eq | .NotEq => .ne | .Lt => .lt | .LtE => .le | .Gt => .gt | .GtE => .ge | .Is => .is | .IsNot => .isnot | .In => .isin | .NotIn => .notin
def notStar : Expr → Bool
  | .Starred _ _ => false
  | _ => true
def notSlice : Expr → Bool
  | .Slice _ _ _ _ => false
  | _ => true
def notSet : Expr → Bool
  | .Set _ _ _ => false
  | .List _ _ => false
  | _ => true
def plainT : Expr → Bool
  | .Name _ _ | .Call _ _ _ _ | .Subscript _ _ _ | .BinOp _ _ _ _ | .Constant _ _ _ => true
  | _ => false
def ownOf (N : List Str) (scope : Scope) : List (Str × Nat) := scope.names.filterMap fun y => match y.2 with
  | .local | .cell => (slotOf N y.1).map fun i => (y.1, i)
  | _ => none
def biOf (x : Str) : Option BI := (List.lookup x ([("len", .len), ("abs", .abs), ("int", .int), ("bool", .bool), ("max", .max), ("min", .min), ("sum", .sum), ("tuple", .tuple), ("list", .list)] : List (Str × BI)))
def gkOf (x : Str) : Option GK := (List.lookup x ([("tuple", .tuple), ("sum", .sum), ("all", .all), ("any", .any)] : List (Str × GK)))
def tyOf (x : Str) : Option BI := (List.lookup x ([("int", .isint), ("bool", .isbool), ("tuple", .istup), ("str", .isstr)] : List (Str × BI)))
def subB (t : T) (own : List (Str × Nat)) : Bool := t.slots.all fun i => (own.map (·.2)).contains i
mutual
def trG (N : List Str) (sc : Scope) : Nat → Expr → Option T
  | 0, _ => none
  | n + 1, e => match e with
    | .Name x _ => if isLoc sc x then (slotOf N x).map .nm else none
    | .Tuple es _ _ => (trGs N sc n es).map .tp
    | _ => none
termination_by structural n => n
def trGs (N : List Str) (sc : Scope) : Nat → List Expr → Option (List T)
  | 0, _ => none
  | _ + 1, [] => some []
  | n + 1, e :: es => if notStar e then (trG N sc n e).bind fun t => (trGs N sc n es).map fun ts => t :: ts else none
termination_by structural n => n
end
mutual
def trE (π : Pg) : Nat → Nat → List Str → Scope → Expr → Option E
  | 0, _, _, _, _ => none
  | n + 1, g, N, sc, e => match e with
    | .Constant c _ _ => (cstP c).map .c
    | .Name x _ => if okName x then (if isVis sc x then (slotOf N x).map .v else if isGl sc x then (π.G.lookup x).map fun _ => .g x else none) else none
    | .BinOp a o b _ => (opB o).bind fun o => (trE π n g N sc a).bind fun A => (trE π n g N sc b).map fun B => .bin o A B
    | .UnaryOp .USub a _ => (trE π n g N sc a).map .neg
    | .UnaryOp .Not a _ => (trE π n g N sc a).map .not
    | .BoolOp .And (e :: es) _ => (trEs π n g N sc (e :: es)).map .and
    | .BoolOp .Or (e :: es) _ => (trEs π n g N sc (e :: es)).map .or
    | .Compare a [o] [b] _ => if behindInMarks (coOp (opC o)) b then none else (trE π n g N sc a).bind fun A => (trE π n g N sc b).map fun B => .cmp (opC o) A B
    | .Compare a [o, o'] [b, c] _ => if lastMarks [coOp (opC o), coOp (opC o')] [b, c] then none else (trE π n g N sc a).bind fun A => (trE π n g N sc b).bind fun B => (trE π n g N sc c).map fun C => .cmp2 (opC o) (opC o') A B C
    | .IfExp c a b _ => (trT π n g N sc c).bind fun C => (trE π n g N sc a).bind fun A => (trE π n g N sc b).map fun B => .ife C A B
    | .Tuple es _ _ => (trEs π n g N sc es).map .tup
    | .List es _ => (trEs π n g N sc es).map .lst
    | .Subscript a (.Slice lo hi none _) _ => (trE π n g N sc a).bind fun A => (trO π n g N sc lo).bind fun L => (trO π n g N sc hi).map fun H => .slc A L H
    | .Subscript a b _ => if notSlice b then (trE π n g N sc a).bind fun A => (trE π n g N sc b).map fun B => .idx A B else none
    | .Call (.Attribute (.Name o p) x apos) [a] [] pos => if x == ("append" : Str) && apos.endLine == pos.line && notStar a then (trE π n g N sc (.Name o p)).bind fun O => (trE π n g N sc a).map fun A => .mt .append O [A] else none
    | .Call (.Name x _) args kws _ => if isGl sc x && okName x then trC π n g N sc x args kws else none
    | .ListComp elt [⟨tg, iter, ifs, 0⟩] scope _ =>
      let own := ownOf N scope
      if blkC N sc scope own && notSet iter then (trI π n g N sc tg iter).bind fun q => (trG N scope n tg).bind fun t => (trTs π n g N (relS scope sc) ifs).bind fun is => (trE π n g N (relS scope sc) elt).bind fun A => if subB t own then some (.lc (own.map (·.2)) A t q.1 q.2 is) else none else none
    | .ListComp elt [⟨tg, iter, ifs, 0⟩, ⟨tg1, iter1, ifs1, 0⟩] scope _ =>
      let own := ownOf N scope
      if blkC N sc scope own && notSet iter && notSet iter1 then (trI π n g N sc tg iter).bind fun q => (trG N scope n tg).bind fun t => (trTs π n g N (relS scope sc) ifs).bind fun is => (trI π n g N (relS scope sc) tg1 iter1).bind fun q1 => (trG N scope n tg1).bind fun t1 =>
        (trTs π n g N (relS scope sc) ifs1).bind fun is1 => (trE π n g N (relS scope sc) elt).bind fun A => if subB t own && subB t1 own then some (.lc2 (own.map (·.2)) A t q.1 q.2 is t1.slots t1 q1.1 q1.2 is1) else none else none
    | _ => none
termination_by structural n => n
def trC (π : Pg) : Nat → Nat → List Str → Scope → Str → List Expr → List Keyword → Option E
  | 0, _, _, _, _, _, _ => none
  | n + 1, g, N, sc, x, args, kws => match π.F.lookup x with
    | some (i, ps, kss) => match args, kws with
      | e :: es, [] => if (e :: es).length == ps.length then (trEs π n g N sc (e :: es)).map fun l => .call i l (List.range ps.length) else none
      | [], kws => if kws.all (fun k => k.arg.isSome) && kss.contains (kws.filterMap (·.arg)) then (trKs π n g N sc kws).map fun l => .call i l (ixOf ps (kws.filterMap (·.arg))) else none
      | _, _ => none
    | none => match args, kws with
      | [a, .Name t _], [] => if x == ("isinstance" : Str) then (if isGl sc t && okName t && notStar a then (tyOf t).bind fun b => (trE π n g N sc a).map fun A => .bi b [A] else none)
          else (biOf x).bind fun b => (trEs π n g N sc args).map fun l => .bi b l
      | [.GeneratorExp elt [⟨tg, iter, ifs, 0⟩] scope _], [] => match g with
        | 0 => none
        | g + 1 =>
          let own := ownOf N scope
          if blkC N sc scope own && notSet iter && !scope.isCoroutine && decide (scope.names.lookup (".0" : Str) = some NameKind.local) then (gkOf x).bind fun gk => (trI π n (g + 1) N sc tg iter).bind fun q => (trG N scope n tg).bind fun t => (trTs π n g N scope ifs).bind fun is => (trE π n g N scope elt).bind fun A =>
            if subB t own then some (.gen gk (own.map (·.2)) A t q.1 q.2 is) else none else none
      | e :: es, [] => (biOf x).bind fun b => (trEs π n g N sc (e :: es)).map fun l => .bi b l
      | _, _ => none
termination_by structural n => n
def trT (π : Pg) : Nat → Nat → List Str → Scope → Expr → Option E
  | 0, _, _, _, _ => none
  | n + 1, g, N, sc, e => match e with
    | .BoolOp .And (e :: es) _ => (trTl π n g N sc (e :: es)).map .and
    | .BoolOp .Or (e :: es) _ => (trTl π n g N sc (e :: es)).map .or
    | .UnaryOp .Not a _ => (trT π n g N sc a).map .not
    | .Compare a [o] [b] _ => if behindInMarks (coOp (opC o)) b then none else (trE π n g N sc a).bind fun A => (trE π n g N sc b).map fun B => .cmp (opC o) A B
    | .Compare a [o, o'] [b, c] _ => if lastMarks [coOp (opC o), coOp (opC o')] [b, c] then none else (trE π n g N sc a).bind fun A => (trE π n g N sc b).bind fun B => (trE π n g N sc c).map fun C => .cmp2 (opC o) (opC o') A B C
    | e => if plainT e then (trE π n g N sc e).map .tru else none
termination_by structural n => n
def trEs (π : Pg) : Nat → Nat → List Str → Scope → List Expr → Option (List E)
  | 0, _, _, _, _ => none
  | _ + 1, _, _, _, [] => some []
  | n + 1, g, N, sc, e :: es => if notStar e then (trE π n g N sc e).bind fun A => (trEs π n g N sc es).map fun l => A :: l else none
termination_by structural n => n
def trKs (π : Pg) : Nat → Nat → List Str → Scope → List Keyword → Option (List E)
  | 0, _, _, _, _ => none
  | _ + 1, _, _, _, [] => some []
  | n + 1, g, N, sc, ⟨_, e, _⟩ :: es => (trE π n g N sc e).bind fun A => (trKs π n g N sc es).map fun l => A :: l
termination_by structural n => n
def trTl (π : Pg) : Nat → Nat → List Str → Scope → List Expr → Option (List E)
  | 0, _, _, _, _ => none
  | _ + 1, _, _, _, [] => some []
  | n + 1, g, N, sc, e :: es => (trT π n g N sc e).bind fun A => (trTl π n g N sc es).map fun l => A :: l
termination_by structural n => n
def trTs (π : Pg) : Nat → Nat → List Str → Scope → List Expr → Option (List E)
  | 0, _, _, _, _ => none
  | _ + 1, _, _, _, [] => some []
  | n + 1, g, N, sc, [c] => (trT π n g N sc c).map fun A => [A]
  | _ + 1, _, _, _, _ => none
termination_by structural n => n
def trO (π : Pg) : Nat → Nat → List Str → Scope → Option Expr → Option (Option E)
  | 0, _, _, _, _ => none
  | _ + 1, _, _, _, none => some none
  | n + 1, g, N, sc, some e => (trE π n g N sc e).map some
termination_by structural n => n
def trI (π : Pg) : Nat → Nat → List Str → Scope → Expr → Expr → Option (IK × List E)
  | 0, _, _, _, _, _ => none
  | n + 1, g, N, sc, tg, iter => match iter with
    | .Call (.Name x _) args [] _ =>
      if x == ("range" : Str) && isGl sc x && (π.F.lookup x).isNone then (match args with
        | [a] => (trEs π n g N sc [a]).map fun l => (.rng, l)
        | [a, b] => (trEs π n g N sc [a, b]).map fun l => (.rng, l)
        | _ => none)
      else if x == ("enumerate" : Str) && isGl sc x && (π.F.lookup x).isNone then (match tg, args with
        | .Tuple _ _ _, [a] => (trEs π n g N sc [a]).map fun l => (.enm, l)
        | _, _ => none)
      else if x == ("zip" : Str) && isGl sc x && (π.F.lookup x).isNone then (match tg, args with
        | .Tuple _ _ _, [a, b] => (trEs π n g N sc [a, b]).map fun l => (.zip, l)
        | _, _ => none)
      else (trE π n g N sc iter).map fun A => (.seq, [A])
    | iter => (trE π n g N sc iter).map fun A => (.seq, [A])
termination_by structural n => n
end
/-! statements -/
def notComp : Expr → Bool
  | .ListComp _ _ _ _ | .SetComp _ _ _ _ | .DictComp _ _ _ _ _ => false
  | _ => true
def swB (sc : Scope) (t : Str) (p : Pos) (e : Expr) : Bool := match e with
  | .ListComp _ _ s q => (match sc.names.lookup t with | some .local => true | _ => false) && p.line == q.line && !(s.names.any fun (n, k) => n == t && (k == .local || k == .cell))
  | _ => false
def locN (sc : Scope) (l : Nat) : Expr → Option Str
  | .Name id pos => if (match sc.names.lookup id with | some .local => true | _ => false) && pos.line == l then some id else none
  | _ => none
/-- a pair, a triple of plain names, stored from the right -/
def trP (π : Pg) (n g : Nat) (N : List Str) (sc : Scope) (ts vs : List Expr) : Option S := match ts, vs with
  | [.Name x px, .Name y py], [a, b] =>
    (slotOf N x).bind fun i => (slotOf N y).bind fun j => if i != j && (locN sc px.line (.Name x px)).isSome && (locN sc px.line (.Name y py)).isSome && notStar a && notStar b && !(foldedForSure 8 a && foldedForSure 8 b) && !(constantsAlone 8 a && constantsAlone 8 b) then
      (trEs π n g N sc [a, b]).map fun l => .par [i, j] l else none
  | [.Name x px, .Name y py, .Name z pz], [a, b, c] =>
    (slotOf N x).bind fun i => (slotOf N y).bind fun j => (slotOf N z).bind fun l => if i != j && i != l && j != l && (locN sc px.line (.Name x px)).isSome && (locN sc px.line (.Name y py)).isSome && (locN sc px.line (.Name z pz)).isSome && notStar a && notStar b && notStar c &&
        !(foldedForSure 8 a && foldedForSure 8 b && foldedForSure 8 c) && !(constantsAlone 8 a && constantsAlone 8 b && constantsAlone 8 c) then
      (trEs π n g N sc [a, b, c]).map fun q => .par [i, j, l] q else none
  | _, _ => none
/-- one of the names is no plain local -/
def anyOff (sc : Scope) (ts : List Expr) : Bool := ts.any fun t => (locN sc ((ts.head?.map (·.pos.line)).getD 0) t).isNone
/-- target = e -/
def trA (π : Pg) (n g : Nat) (N : List Str) (sc : Scope) (tg e : Expr) : Option S := match tg with
    | .Name x _ => if isLoc sc x then (slotOf N x).bind fun i => (trE π n g N sc e).map fun A => .set (.nm i) A else none
    | .Subscript o i _ => if notSlice i then (trE π n g N sc o).bind fun O => (trE π n g N sc i).bind fun I => (trE π n g N sc e).map fun A => .seti O I A else none
    | .Tuple ts k tp => match e with
      | .Tuple vs k2 tp2 => if anyOff sc ts then (trG N sc n (.Tuple ts k tp)).bind fun t => (trE π n g N sc e).map fun A => .set t A else trP π n g N sc ts vs
      | e => if notComp e then (trG N sc n (.Tuple ts k tp)).bind fun t => (trE π n g N sc e).map fun A => .set t A else none
    | _ => none
mutual
def trS (π : Pg) : Nat → Nat → List Str → Scope → Stmt → Option S
  | 0, _, _, _, _ => none
  | n + 1, g, N, sc, st => match st with
    | .Expr (.Constant (.str _) _ _) _ => some .pas
    | .Expr e _ => if notComp e then (trE π n g N sc e).map .ex else none
    | .Return none _ => some .retn
    | .Return (some e) _ => (trE π n g N sc e).map .ret
    | .Pass _ => some .pas
    | .Break _ => some .brk
    | .Continue _ => some .cnt
    | .If c a b _ => (trT π n g N sc c).bind fun C => (trSs π n g N sc a).bind fun A => (trSs π n g N sc b).map fun B => .ife C A B
    | .While c b [] _ => (trT π n g N sc c).bind fun C => (trSs π n g N sc b).map fun B => .whl C B
    | .For tg iter b [] _ => if notSet iter then (trI π n g N sc tg iter).bind fun q => (trG N sc n tg).bind fun t => (trSs π n g N sc b).map fun B => .loop t q.1 q.2 B else none
    | .AugAssign (.Name x _) o e _ => if isLoc sc x then (slotOf N x).bind fun i => (opB o).bind fun o => (trE π n g N sc e).map fun A => .aug i o A else none
    | .AugAssign (.Subscript a i _) o e _ => if notSlice i then (opB o).bind fun o => (trE π n g N sc a).bind fun A => (trE π n g N sc i).bind fun I => (trE π n g N sc e).map fun B => .augi A I o B else none
    | .Assign [tg] e pos => trA π n g N sc tg e
    | _ => none
termination_by structural n => n
def trSs (π : Pg) : Nat → Nat → List Str → Scope → List Stmt → Option (List S)
  | 0, _, _, _, _ => none
  | _ + 1, _, _, _, [] => some []
  | n + 1, g, N, sc, s :: ss => (trS π n g N sc s).bind fun A => (trSs π n g N sc ss).map fun l => A :: l
termination_by structural n => n
end
end IX
end

section
set_option Elab.async false
set_option autoImplicit false
set_option linter.all false
set_option maxRecDepth 100000
set_option maxHeartbeats 4000000
/-! The translation is sound: expressions. -/
namespace IX
open PySem PySem.Spec PyProof.Rows L2 GX
structure CtxOk (π : Pg) (W : Wd) (lv g : Nat) (N : List Str) (sc : Scope) (X : Cx) : Prop where
  hN : X.N = N
  hsc : X.env.scope = sc
  nd : N.Nodup
  room : Room (lv + g) X.A
  calm : X.calm = true
  bm : BmAt X.base X.mg
  blt : ∀ x ∈ bltN, X.mg x = none
  con : ∀ x p, π.G.lookup x = some p → ∃ u v, X.mg x = some u ∧ RelV v u ∧ ∀ H, RP X.K H p v
  fns : ∀ x i ps kss, π.F.lookup x = some (i, ps, kss) → ∃ f fd, X.mg x = some (.ref f) ∧ PySem.W.keepIn X.K (.ref f) = true ∧ FnOk X.prog X.w X.K X.mg X.base CXF lv f fd ps (spI X.K ps.length (W i)) ∧ Binds X.K fd ps [] ∧
    ∀ ks ∈ kss, KBinds X.K fd ps ks (gKs ps ks) (gKs ps ks)
section
variable {e : Expr} {es : List Expr} {env : PySem.Env} {pos : Pos}
theorem star_cons (h : notStar e = true) : starEach (e :: es) env = (false, eval e env) :: starEach es env := by
  cases e <;> first | rfl | cases h
theorem star_any : ∀ {es : List Expr}, es.all notStar = true → (backTo pos (starEach es env)).any (·.1) = false
  | [], _ => rfl
  | e :: es, h => by
    rw [List.all_cons, Bool.and_eq_true] at h
    rw [star_cons h.1]
    show (false || (backTo pos (starEach es env)).any (·.1)) = false
    rw [star_any h.2]; rfl
theorem asg_cons (h : notStar e = true) : assignEach (e :: es) env = (false, assign e env) :: assignEach es env := by
  cases e <;> first | rfl | cases h
theorem asg_len : ∀ {es : List Expr}, es.all notStar = true → (assignEach es env).length = es.length ∧ (assignEach es env).findIdx? (·.1) = none
  | [], _ => ⟨rfl, rfl⟩
  | e :: es, h => by
    rw [List.all_cons, Bool.and_eq_true] at h
    rw [asg_cons h.1]
    have := asg_len (es := es) h.2
    exact ⟨by rw [List.length_cons, List.length_cons, this.1], by rw [List.findIdx?_cons]; simp [this.2]⟩
theorem plain_ix (h : notSlice e = true) : PlainIx e := by
  cases e <;> first | (intro _ _; rfl) | cases h
theorem set_fold (h : notSet e = true) : ∀ x, foldedSetIterable e env x = pure x := by
  cases e <;> first | (intro _; rfl) | cases h
theorem gen_fold (h : notSet e = true) : ∀ x, genFold e env x = pure x := by
  cases e <;> first | (intro _; rfl) | cases h
theorem plain_test (h : plainT e = true) : ∀ whole, isTrue e env whole = (do let v ← whole; standAt e.pos; holding [v] (truthy v)) := by
  cases e <;> first | (intro _; rfl) | cases h
end
section
variable {π : Pg} {W : Wd} {lv g : Nat} {N : List Str} {sc scope : Scope} {X : Cx}
theorem findIdx_get {N : List Str} {x : Str} {i : Nat} (h : slotOf N x = some i) : N[i]? = some x := by
  unfold slotOf at h
  obtain ⟨h1, h2, _⟩ := List.findIdx?_eq_some_iff_getElem.mp h
  rw [List.getElem?_eq_getElem h1]
  exact congrArg some (beq_iff_eq.mp h2)
theorem vis_ok {x : Str} (h : isVis sc x = true) : Vis sc x := by
  unfold isVis at h
  unfold Vis
  split at h <;> first | (rename_i e; first | exact .inl e | exact .inr (.inl e) | exact .inr (.inr e)) | cases h
theorem loc_ok {x : Str} (h : isLoc sc x = true) : L2.Loc sc x := by
  unfold isLoc at h
  unfold L2.Loc
  split at h <;> first | (rename_i e; first | exact .inl e | exact .inr e) | cases h
theorem gl_ok (C : CtxOk π W lv g N sc X) {x : Str} (h : isGl sc x = true) : Gl X x := by
  unfold isGl at h
  show X.env.scope.names.lookup x = _
  rw [C.hsc]
  split at h <;> first | assumption | cases h
theorem okn_ok {x : Str} (h : okName x = true) : (x == ("__debug__" : Str)) = false ∧ (x == ("__classdict__" : Str)) = false := by
  unfold okName at h
  rw [Bool.and_eq_true] at h
  exact ⟨by simpa using h.1, by simpa using h.2⟩
theorem CtxOk.blk (C : CtxOk π W lv g N sc X) (s : Shared) (H : Hp) (c : Addr) (cl : List (Str × Addr)) (fp : List Addr) : CtxOk π W lv g N (relS scope sc) (X.blk s H scope (compEnvC scope cl c X.env) fp) :=
  ⟨C.hN, by rw [← C.hsc]; rfl, C.nd, C.room, C.calm, C.bm, C.blt, C.con, C.fns⟩
theorem room_gen {k : Nat} {A : Around} (r : Room (k + 1) A) (gk : GK) (cenv : PySem.Env) : Room k ((GKA A gk).deeper cenv) := by
  have h1 := r.hd
  have h2 := r.dp
  have h3 := r.un
  cases gk
  · exact ⟨h1, by show A.depth + 1 + 3 * k + 5 < _; omega, by show A.units + 1 + 1 + 1 + 1 + 3 + 16 * k + 200 < _; omega⟩
  all_goals exact ⟨h1, by show A.depth + 1 + 3 * k + 5 < _; omega, by show A.units + 1 + 1 + 3 + 16 * k + 200 < _; omega⟩
theorem CtxOk.gen (C : CtxOk π W lv (g + 1) N sc X) {Xg : Cx} {H : Hp} {gk : GK} (h : IsG X Xg (GKA X.A gk) H scope) : CtxOk π W lv g N scope Xg := by
  obtain ⟨s4, cl, L, cv, fp, pn, rfl, _⟩ := h
  exact ⟨C.hN, rfl, C.nd, room_gen (k := lv + g) C.room gk _, C.calm, C.bm, C.blt, C.con, C.fns⟩
theorem CtxOk.units (C : CtxOk π W lv g N sc X) : X.A.units + 64 < cLine := C.room.units
abbrev Gf (π : Pg) : Str → Option P := fun x => π.G.lookup x
def AllE (X : Cx) (W : Wd) (G : Str → Option P) : List Expr → List E → Prop
  | [], [] => True
  | e :: es, A :: l => notStar e = true ∧ PE X e (tI X (evE W G A)) ∧ AllE X W G es l
  | _, _ => False
def AllT (X : Cx) (W : Wd) (G : Str → Option P) : List Expr → List E → Prop
  | [], [] => True
  | e :: es, A :: l => PT X e (tIT X (evT W G A)) ∧ AllT X W G es l
  | _, _ => False
theorem AllE.star {G : Str → Option P} : ∀ {es : List Expr} {l : List E}, AllE X W G es l → es.all notStar = true
  | [], [], _ => rfl
  | e :: es, A :: l, h => by rw [List.all_cons, h.1, AllE.star h.2.2]; rfl
  | [], _ :: _, h => h.elim
  | _ :: _, [], h => h.elim
theorem AllE.len {G : Str → Option P} : ∀ {es : List Expr} {l : List E}, AllE X W G es l → es.length = l.length
  | [], [], _ => rfl
  | e :: es, A :: l, h => by rw [List.length_cons, List.length_cons, AllE.len h.2.2]
  | [], _ :: _, h => h.elim
  | _ :: _, [], h => h.elim
theorem AllE.pa {G : Str → Option P} : ∀ {es : List Expr} {l : List E}, AllE X W G es l → PA X es (tIA X (evEs W G l))
  | [], [], _ => a_nil
  | e :: es, A :: l, h => a_cons h.2.1 (AllE.pa h.2.2) (star_cons h.1)
  | [], _ :: _, h => h.elim
  | _ :: _, [], h => h.elim
theorem evEs_len {G : Str → Option P} : ∀ {l : List E} {ρ : Env} {M M' : Mem} {ds : List D}, evEs W G l ρ M = some (ds, M') → ds.length = l.length
  | [], _, _, _, _, h => by cases h; rfl
  | A :: l, ρ, M, M', ds, h => by
    obtain ⟨⟨x, M1⟩, e1, h⟩ := ob (show (do
      let (x, M) ← evE W G A ρ M
      let (xs, M) ← evEs W G l ρ M
      some (x :: xs, M)) = some (ds, M') from h)
    obtain ⟨⟨xs, M2⟩, e2, h⟩ := ob h
    cases h
    rw [List.length_cons, List.length_cons, evEs_len e2]
theorem AllE.and {G : Str → Option P} {pos : Pos} : ∀ {es : List Expr} {e : Expr} {A : E} {l : List E}, AllE X W G (e :: es) (A :: l) → PE X (.BoolOp .And (e :: es) pos) (tI X (evAnd W G (A :: l)))
  | [], e, A, [], h => s_and1 h.2.1
  | b :: es, e, A, B :: l, h => s_and h.2.1 (AllE.and h.2.2)
  | [], _, _, _ :: _, h => h.2.2.elim
  | _ :: _, _, _, [], h => h.2.2.elim
theorem AllE.or {G : Str → Option P} {pos : Pos} : ∀ {es : List Expr} {e : Expr} {A : E} {l : List E}, AllE X W G (e :: es) (A :: l) → PE X (.BoolOp .Or (e :: es) pos) (tI X (evOr W G (A :: l)))
  | [], e, A, [], h => s_or1 h.2.1
  | b :: es, e, A, B :: l, h => s_or h.2.1 (AllE.or h.2.2)
  | [], _, _, _ :: _, h => h.2.2.elim
  | _ :: _, _, _, [], h => h.2.2.elim
theorem AllT.and {G : Str → Option P} {pos : Pos} : ∀ {es : List Expr} {e : Expr} {A : E} {l : List E}, AllT X W G (e :: es) (A :: l) → PW X (.BoolOp .And (e :: es) pos) (tIT X (evTAnd W G (A :: l)))
  | [], e, A, [], h => t_and1 h.1
  | b :: es, e, A, B :: l, h => t_and h.1 (AllT.and h.2)
  | [], _, _, _ :: _, h => h.2.elim
  | _ :: _, _, _, [], h => h.2.elim
theorem AllT.or {G : Str → Option P} {pos : Pos} : ∀ {es : List Expr} {e : Expr} {A : E} {l : List E}, AllT X W G (e :: es) (A :: l) → PW X (.BoolOp .Or (e :: es) pos) (tIT X (evTOr W G (A :: l)))
  | [], e, A, [], h => t_or1 h.1
  | b :: es, e, A, B :: l, h => t_or h.1 (AllT.or h.2)
  | [], _, _, _ :: _, h => h.2.elim
  | _ :: _, _, _, [], h => h.2.elim
/-- the names that may be stored -/
def TgOk (tsc : Scope) (X : Cx) : Prop := ∀ x, isLoc tsc x = true → L2.Loc X.env.scope x ∧ (X.fn x = true ∨ X.env.scope.names.lookup x = some .local)
theorem tg_fn (C : CtxOk π W lv g N sc X) (h : ∀ x, X.fn x = true) : TgOk sc X := fun x hx => ⟨by rw [C.hsc]; exact loc_ok hx, .inl (h x)⟩
theorem tg_blk {scope : Scope} (s : Shared) (H : Hp) (c : Addr) (cl : List (Str × Addr)) (fp : List Addr) : TgOk scope (X.blk s H scope (compEnvC scope cl c X.env) fp) := fun x hx => by
  rcases loc_ok hx with h | h
  · have := lookup_relS_keep (sc := X.env.scope) (by decide) h
    exact ⟨.inl this, .inr this⟩
  · have := lookup_relS_keep (sc := X.env.scope) (by decide) h
    exact ⟨.inr this, .inl (by show (scope.names.lookup x == some NameKind.cell) = true; rw [h]; rfl)⟩
theorem tg_gen {Xg : Cx} {Ac : Around} {H : Hp} (h : IsG X Xg Ac H scope) : TgOk scope Xg := fun x hx => by
  obtain ⟨s4, cl, L, cv, fp, pn, rfl, _⟩ := h
  rcases loc_ok hx with h | h
  · exact ⟨.inl h, .inr h⟩
  · exact ⟨.inr h, .inl (by show (scope.names.lookup x == some NameKind.cell) = true; rw [h]; rfl)⟩
/-- targets -/
theorem trG_ok : ∀ n, (∀ {e : Expr} {t : T} {X : Cx} {sc0 : Scope}, CtxOk π W lv g N sc0 X → TgOk sc X → trG N sc n e = some t → PG X e (tGp X t)) ∧
    (∀ {es : List Expr} {ts : List T} {X : Cx} {sc0 : Scope}, CtxOk π W lv g N sc0 X → TgOk sc X → trGs N sc n es = some ts → PGs X es (tGs X ts) ∧ es.all notStar = true ∧ es.length = ts.length)
  | 0 => ⟨fun _ _ h => (by cases h), fun _ _ h => (by cases h)⟩
  | n + 1 => by
    obtain ⟨ih1, ih2⟩ := trG_ok n
    refine ⟨fun {e t X sc0} C K h => ?_, fun {es ts X sc0} C K h => ?_⟩
    · cases e with
      | Name x pos =>
        have h : (if isLoc sc x then (slotOf N x).map T.nm else none) = some t := h
        split at h <;> try contradiction
        rename_i hl
        obtain ⟨i, e1, rfl⟩ := Option.map_eq_some_iff.mp h
        exact g_nm (by rw [C.hN]; exact C.nd) (by rw [C.hN]; exact findIdx_get e1) (K x hl).1 (K x hl).2
      | Tuple es k pos =>
        obtain ⟨ts, e1, rfl⟩ := Option.map_eq_some_iff.mp (show (trGs N sc n es).map T.tp = some t from h)
        obtain ⟨h1, h2, h3⟩ := ih2 C K e1
        have := asg_len (env := X.env) h2
        exact g_tp C.calm h1 (by rw [this.1]; exact h3) this.2
      | _ => cases h
    · cases es with
      | nil => cases h; exact ⟨gs_nil, rfl, rfl⟩
      | cons e es =>
        have h : (if notStar e then (trG N sc n e).bind fun t => (trGs N sc n es).map fun ts => t :: ts else none) = some ts := h
        split at h <;> try contradiction
        rename_i hs
        obtain ⟨t, e1, h⟩ := Option.bind_eq_some_iff.mp h
        obtain ⟨ts', e2, rfl⟩ := Option.map_eq_some_iff.mp h
        obtain ⟨h1, h2, h3⟩ := ih2 C K e2
        exact ⟨gs_cons (ih1 C K e1) h1 (by rw [asg_cons hs]; rfl), by rw [List.all_cons, hs, h2]; rfl, by rw [List.length_cons, List.length_cons, h3]⟩
theorem sub_ok {t : T} {own : List (Str × Nat)} (h : subB t own = true) : ∀ i ∈ t.slots, i ∈ own.map (·.2) := fun i hi => by
  have := List.all_eq_true.mp h i hi
  simpa using this
theorem opc_ok (o : CmpOp) : coOp (opC o) = o := by cases o <;> rfl
theorem s_ops {o : Operator} {bo : BO} (h : opB o = some bo) : ∃ r : Cx → R2, (∀ X : Cx, OpR X (binaryOp o) (r X)) ∧ ∀ X : Cx, OpI X (r X) (binop bo) := by
  cases o <;> cases h
  · exact ⟨fun X => _, fun X => or_add, fun X => oi_add⟩
  · exact ⟨fun X => _, fun X => op_sub, fun X => oi_sub⟩
  · exact ⟨fun X => _, fun X => or_mul, fun X => oi_mul⟩
  · exact ⟨fun X => _, fun X => op_modN, fun X => oi_mod⟩
  · exact ⟨fun X => _, fun X => op_pow, fun X => oi_pow⟩
  · exact ⟨fun X => _, fun X => or_div, fun X => oi_div⟩
structure Snd (π : Pg) (W : Wd) (lv n : Nat) : Prop where
  e : ∀ {g : Nat} {N : List Str} {sc : Scope} {e : Expr} {A : E} {X : Cx}, CtxOk π W lv g N sc X → trE π n g N sc e = some A → PE X e (tI X (evE W (Gf π) A))
  c : ∀ {g : Nat} {N : List Str} {sc : Scope} {x : Str} {args : List Expr} {kws : List Keyword} {A : E} {X : Cx} {p pos : Pos}, CtxOk π W lv g N sc X → isGl sc x = true → okName x = true → trC π n g N sc x args kws = some A → PE X (.Call (.Name x p) args kws pos) (tI X (evE W (Gf π) A))
  t : ∀ {g : Nat} {N : List Str} {sc : Scope} {e : Expr} {A : E} {X : Cx}, CtxOk π W lv g N sc X → trT π n g N sc e = some A → PT X e (tIT X (evT W (Gf π) A))
  es : ∀ {g : Nat} {N : List Str} {sc : Scope} {es : List Expr} {l : List E} {X : Cx}, CtxOk π W lv g N sc X → trEs π n g N sc es = some l → AllE X W (Gf π) es l
  ks : ∀ {g : Nat} {N : List Str} {sc : Scope} {kws : List Keyword} {l : List E} {X : Cx}, CtxOk π W lv g N sc X → trKs π n g N sc kws = some l → PK X kws (tIA X (evEs W (Gf π) l))
  tl : ∀ {g : Nat} {N : List Str} {sc : Scope} {es : List Expr} {l : List E} {X : Cx}, CtxOk π W lv g N sc X → trTl π n g N sc es = some l → AllT X W (Gf π) es l
  ts : ∀ {g : Nat} {N : List Str} {sc : Scope} {es : List Expr} {l : List E} {X : Cx}, CtxOk π W lv g N sc X → trTs π n g N sc es = some l → PTs X es (tIT X (evIfs W (Gf π) l))
  o : ∀ {g : Nat} {N : List Str} {sc : Scope} {e : Option Expr} {A : Option E} {X : Cx}, CtxOk π W lv g N sc X → trO π n g N sc e = some A → PO X e (tIO X (evO W (Gf π) A))
  i : ∀ {g : Nat} {N : List Str} {sc : Scope} {tg iter : Expr} {q : IK × List E} {X : Cx}, CtxOk π W lv g N sc X → trI π n g N sc tg iter = some q → PI X tg iter (iS X q.1 (evEs W (Gf π) q.2))
variable {n : Nat}
theorem snd_es (S : Snd π W lv n) {es : List Expr} {l : List E} (C : CtxOk π W lv g N sc X) (h : trEs π (n + 1) g N sc es = some l) : AllE X W (Gf π) es l := by
  cases es with
  | nil => cases h; exact trivial
  | cons e es =>
    have h : (if notStar e then (trE π n g N sc e).bind fun A => (trEs π n g N sc es).map fun l => A :: l else none) = some l := h
    split at h <;> try contradiction
    rename_i hs
    obtain ⟨A, e1, h⟩ := Option.bind_eq_some_iff.mp h
    obtain ⟨l', e2, rfl⟩ := Option.map_eq_some_iff.mp h
    exact ⟨hs, S.e C e1, S.es C e2⟩
theorem snd_ks (S : Snd π W lv n) {kws : List Keyword} {l : List E} (C : CtxOk π W lv g N sc X) (h : trKs π (n + 1) g N sc kws = some l) : PK X kws (tIA X (evEs W (Gf π) l)) := by
  cases kws with
  | nil => cases h; exact k_nil
  | cons k kws =>
    obtain ⟨nm, e, kp⟩ := k
    obtain ⟨A, e1, h⟩ := Option.bind_eq_some_iff.mp (show ((trE π n g N sc e).bind fun A => (trKs π n g N sc kws).map fun l => A :: l) = some l from h)
    obtain ⟨l', e2, rfl⟩ := Option.map_eq_some_iff.mp h
    exact k_cons (S.e C e1) (S.ks C e2)
theorem snd_tl (S : Snd π W lv n) {es : List Expr} {l : List E} (C : CtxOk π W lv g N sc X) (h : trTl π (n + 1) g N sc es = some l) : AllT X W (Gf π) es l := by
  cases es with
  | nil => cases h; exact trivial
  | cons e es =>
    obtain ⟨A, e1, h⟩ := Option.bind_eq_some_iff.mp (show ((trT π n g N sc e).bind fun A => (trTl π n g N sc es).map fun l => A :: l) = some l from h)
    obtain ⟨l', e2, rfl⟩ := Option.map_eq_some_iff.mp h
    exact ⟨S.t C e1, S.tl C e2⟩
theorem snd_ts (S : Snd π W lv n) {es : List Expr} {l : List E} (C : CtxOk π W lv g N sc X) (h : trTs π (n + 1) g N sc es = some l) : PTs X es (tIT X (evIfs W (Gf π) l)) := by
  match es, h with
  | [], h =>
    cases h
    refine ⟨fun pins s σ H Q I hw => pts_nil.run pins s σ H Q I ?_⟩
    obtain ⟨ρ, M, α, b, M', r, e, q⟩ := hw
    cases e
    exact q H α (Nx.refl r.mem r.tab)
  | [c], h =>
    obtain ⟨A, e1, rfl⟩ := Option.map_eq_some_iff.mp (show (trT π n g N sc c).map (fun A => [A]) = some l from h)
    exact pts_one (S.t C e1)
  | _ :: _ :: _, h => cases h
theorem snd_o (S : Snd π W lv n) {e : Option Expr} {A : Option E} (C : CtxOk π W lv g N sc X) (h : trO π (n + 1) g N sc e = some A) : PO X e (tIO X (evO W (Gf π) A)) := by
  cases e with
  | none => cases h; exact o_none
  | some e =>
    obtain ⟨A', e1, rfl⟩ := Option.map_eq_some_iff.mp (show (trE π n g N sc e).map some = some A from h)
    exact o_some (S.e C e1)
theorem snd_t (S : Snd π W lv n) {e : Expr} {A : E} (C : CtxOk π W lv g N sc X) (h : trT π (n + 1) g N sc e = some A) : PT X e (tIT X (evT W (Gf π) A)) := by
  have plain : ∀ e : Expr, (if plainT e then (trE π n g N sc e).map E.tru else none) = some A → PT X e (tIT X (evT W (Gf π) A)) := fun e h => by
    split at h <;> try contradiction
    rename_i hp
    obtain ⟨B, e1, rfl⟩ := Option.map_eq_some_iff.mp h
    exact t_tru (S.e C e1) (plain_test hp)
  cases e with
  | BoolOp op es pos =>
    cases es with
    | nil => cases op <;> cases h
    | cons e es =>
      cases op with
      | And =>
        obtain ⟨l, e1, rfl⟩ := Option.map_eq_some_iff.mp (show (trTl π n g N sc (e :: es)).map E.and = some A from h)
        have := S.tl C e1
        cases l with
        | nil => exact this.elim
        | cons B l => exact (AllT.and this).pt
      | Or =>
        obtain ⟨l, e1, rfl⟩ := Option.map_eq_some_iff.mp (show (trTl π n g N sc (e :: es)).map E.or = some A from h)
        have := S.tl C e1
        cases l with
        | nil => exact this.elim
        | cons B l => exact (AllT.or this).pt
  | UnaryOp op a pos =>
    cases op with
    | Not =>
      obtain ⟨B, e1, rfl⟩ := Option.map_eq_some_iff.mp (show (trT π n g N sc a).map E.not = some A from h)
      exact t_not (S.t C e1)
    | _ => exact plain _ h
  | Compare a ops bs pos =>
    match ops, bs, h with
    | [o], [b], h =>
      have h : (if behindInMarks (coOp (opC o)) b then none else (trE π n g N sc a).bind fun A => (trE π n g N sc b).map fun B => E.cmp (opC o) A B) = some A := h
      split at h <;> try contradiction
      rename_i hb
      obtain ⟨A1, e1, h⟩ := Option.bind_eq_some_iff.mp h
      obtain ⟨B1, e2, rfl⟩ := Option.map_eq_some_iff.mp h
      have := t_cmp (pos := pos) (o := opC o) C.units (S.e C e1) (S.e C e2) (by simpa using hb)
      rw [opc_ok] at this
      exact this
    | [o, o'], [b, c], h =>
      have h : (if lastMarks [coOp (opC o), coOp (opC o')] [b, c] then none else (trE π n g N sc a).bind fun A => (trE π n g N sc b).bind fun B => (trE π n g N sc c).map fun C => E.cmp2 (opC o) (opC o') A B C) = some A := h
      split at h <;> try contradiction
      rename_i hb
      obtain ⟨A1, e1, h⟩ := Option.bind_eq_some_iff.mp h
      obtain ⟨B1, e2, h⟩ := Option.bind_eq_some_iff.mp h
      obtain ⟨C1, e3, rfl⟩ := Option.map_eq_some_iff.mp h
      have := t_cmp2 (pos := pos) (o := opC o) (o' := opC o') C.units (S.e C e1) (S.e C e2) (S.e C e3) (by simpa using hb)
      rw [opc_ok, opc_ok] at this
      exact this
    | [], _, h => cases h
    | [_], [], h => cases h
    | [_], _ :: _ :: _, h => cases h
    | [_, _], [], h => cases h
    | [_, _], [_], h => cases h
    | [_, _], _ :: _ :: _ :: _, h => cases h
    | _ :: _ :: _ :: _, _, h => cases h
  | _ => exact plain _ h
end
end IX
end

section
set_option Elab.async false
set_option autoImplicit false
set_option linter.all false
set_option maxRecDepth 100000
set_option maxHeartbeats 4000000
/-! The translation is sound: expressions, the rest. -/
namespace IX
open PySem PySem.Spec PyProof.Rows L2 GX
section
variable {π : Pg} {W : Wd} {lv g : Nat} {N : List Str} {sc scope : Scope} {X : Cx} {n : Nat}
theorem CtxOk.len1 {G : Str → Option P} {A : E} : ∀ ρ M ds M', evEs W G [A] ρ M = some (ds, M') → ds.length = 1 := fun _ _ _ _ h => evEs_len h
theorem snd_i (S : Snd π W lv n) {tg iter : Expr} {q : IK × List E} (C : CtxOk π W lv g N sc X) (h : trI π (n + 1) g N sc tg iter = some q) : PI X tg iter (iS X q.1 (evEs W (Gf π) q.2)) := by
  have seq : ∀ iter : Expr, (trE π n g N sc iter).map (fun A => (IK.seq, [A])) = some q → PI X tg iter (iS X q.1 (evEs W (Gf π) q.2)) := fun iter h => by
    obtain ⟨A, e1, rfl⟩ := Option.map_eq_some_iff.mp h
    exact i_seq (S.e C e1)
  cases iter with
  | Call f args kws pos =>
    cases f with
    | Name x p =>
      cases kws with
      | cons _ _ => exact seq _ h
      | nil =>
        replace h : (if x == ("range" : Str) && isGl sc x && (π.F.lookup x).isNone then (match (generalizing := false) args with
            | [a] => (trEs π n g N sc [a]).map fun l => (IK.rng, l)
            | [a, b] => (trEs π n g N sc [a, b]).map fun l => (IK.rng, l)
            | _ => none)
          else if x == ("enumerate" : Str) && isGl sc x && (π.F.lookup x).isNone then (match (generalizing := false) tg, args with
            | .Tuple _ _ _, [a] => (trEs π n g N sc [a]).map fun l => (IK.enm, l)
            | _, _ => none)
          else if x == ("zip" : Str) && isGl sc x && (π.F.lookup x).isNone then (match (generalizing := false) tg, args with
            | .Tuple _ _ _, [a, b] => (trEs π n g N sc [a, b]).map fun l => (IK.zip, l)
            | _, _ => none)
          else (trE π n g N sc (.Call (.Name x p) args [] pos)).map fun A => (IK.seq, [A])) = some q := h
        split at h
        · rename_i hc
          simp only [Bool.and_eq_true] at hc
          obtain ⟨⟨h1, h2⟩, _⟩ := hc
          obtain rfl := beq_iff_eq.mp h1
          have hg := gl_ok C h2
          have hm : X.mg "range" = none := C.blt _ (by simp [bltN])
          split at h <;> try contradiction
          · obtain ⟨l, e1, rfl⟩ := Option.map_eq_some_iff.mp h
            have al := S.es C e1
            have hl := al.len
            have hst := al.star
            rw [List.all_cons, Bool.and_eq_true] at hst
            exact i_rng1 hg hm al.pa (star_cons (es := []) hst.1) fun ρ M ds M' hh => by rw [evEs_len hh, ← hl]; rfl
          · obtain ⟨l, e1, rfl⟩ := Option.map_eq_some_iff.mp h
            have al := S.es C e1
            have hl := al.len
            have hst := al.star
            rw [List.all_cons, Bool.and_eq_true, List.all_cons, Bool.and_eq_true] at hst
            have hb := star_cons (env := X.env) (es := []) hst.2.1
            exact i_rng2 hg hm al.pa (by rw [star_cons hst.1, hb]; rfl) hb fun ρ M ds M' hh => by rw [evEs_len hh, ← hl]; rfl
        · split at h
          · rename_i hc
            simp only [Bool.and_eq_true] at hc
            obtain ⟨⟨h1, h2⟩, _⟩ := hc
            obtain rfl := beq_iff_eq.mp h1
            have hg := gl_ok C h2
            have hm : X.mg "enumerate" = none := C.blt _ (by simp [bltN])
            split at h <;> try contradiction
            obtain ⟨l, e1, rfl⟩ := Option.map_eq_some_iff.mp h
            have al := S.es C e1
            have hl := al.len
            have hst := al.star
            rw [List.all_cons, Bool.and_eq_true] at hst
            exact i_enm hg hm al.pa (star_cons (es := []) hst.1) fun ρ M ds M' hh => by rw [evEs_len hh, ← hl]; rfl
          · split at h
            · rename_i hc
              simp only [Bool.and_eq_true] at hc
              obtain ⟨⟨h1, h2⟩, _⟩ := hc
              obtain rfl := beq_iff_eq.mp h1
              have hg := gl_ok C h2
              have hm : X.mg "zip" = none := C.blt _ (by simp [bltN])
              split at h <;> try contradiction
              obtain ⟨l, e1, rfl⟩ := Option.map_eq_some_iff.mp h
              have al := S.es C e1
              have hl := al.len
              have hst := al.star
              rw [List.all_cons, Bool.and_eq_true] at hst
              exact i_zip hg hm al.pa (star_cons hst.1) (star_any hst.2) fun ρ M ds M' hh => by rw [evEs_len hh, ← hl]; rfl
            · exact seq _ h
    | _ => exact seq _ h
  | _ => exact seq _ h
theorem bi_ok {x : Str} {b : BI} (h : biOf x = some b) {e : Expr} {es : List Expr} {l : List E} {p pos : Pos} (C : CtxOk π W lv g N sc X) (hg : Gl X x) (al : AllE X W (Gf π) (e :: es) l) :
    PE X (.Call (.Name x p) (e :: es) [] pos) (tI X (evE W (Gf π) (.bi b l))) := by
  have hst := al.star
  rw [List.all_cons, Bool.and_eq_true] at hst
  have st := star_cons (env := X.env) (es := es) hst.1
  have sa := star_any (env := X.env) (pos := pos) hst.2
  unfold biOf at h
  simp only [List.lookup] at h
  repeat' split at h
  all_goals first | (cases h; done) | skip
  all_goals (rename_i hx; obtain rfl := beq_iff_eq.mp hx; cases h)
  · exact s_cb (pe_callB call_len_seq hg (C.blt _ (by simp [bltN])) boot_len al.pa (by decide) (by decide) st sa) ci_len
  · exact s_cb (pe_callB call_abs hg (C.blt _ (by simp [bltN])) boot_abs al.pa (by decide) (by decide) st sa) ci_abs
  · exact s_cb (pe_callTy call_int1 hg (C.blt _ (by simp [bltN])) boot_int al.pa (by decide) (by decide) st sa) ci_int
  · exact s_cb (pe_callTy call_bool1 hg (C.blt _ (by simp [bltN])) boot_bool al.pa (by decide) (by decide) st sa) ci_bool
  · exact s_cb (pe_callB (CallR.or (call_max2 C.calm) (CallR.or (cr_max C.calm) (E1.cr_maxT C.calm C.units))) hg (C.blt _ (by simp [bltN])) boot_max al.pa (by decide) (by decide) st sa) ci_max
  · exact s_cb (pe_callB (CallR.or (call_min2 C.calm) (CallR.or (cr_min C.calm) (E1.cr_minT C.calm C.units))) hg (C.blt _ (by simp [bltN])) boot_min al.pa (by decide) (by decide) st sa) ci_min
  · exact s_cb (pe_callB (cr_sum C.calm) hg (C.blt _ (by simp [bltN])) boot_sum al.pa (by decide) (by decide) st sa) ci_sum
  · exact s_cb (pe_callTy call_tuple_of hg (C.blt _ (by simp [bltN])) boot_tuple al.pa (by decide) (by decide) st sa) ci_tuple
  · exact s_cb (pe_callTy call_list_of hg (C.blt _ (by simp [bltN])) boot_list al.pa (by decide) (by decide) st sa) ci_list
end
end IX
end

section
set_option Elab.async false
set_option autoImplicit false
set_option linter.all false
set_option maxRecDepth 100000
set_option maxHeartbeats 4000000
/-! The translation is sound: calls, expressions, together. -/
namespace IX
open PySem PySem.Spec PyProof.Rows L2 GX
section
variable {π : Pg} {W : Wd} {lv g : Nat} {N : List Str} {sc scope : Scope} {X : Cx} {n : Nat}
theorem room_lv (C : CtxOk π W lv g N sc X) : Room lv X.A := C.room.mono (Nat.le_add_right _ _)
theorem kws_names : ∀ (kws : List Keyword) (pos : Pos), kws.all (fun k => k.arg.isSome) = true → (backToKw pos (keywordEach kws X.env)).all (·.1.isSome) = true ∧ (backToKw pos (keywordEach kws X.env)).filterMap (·.1) = kws.filterMap (·.arg) ∧
    (backToKw pos (keywordEach kws X.env)).any (·.1.isNone) = false
  | [], _, _ => ⟨rfl, rfl, rfl⟩
  | ⟨nm, e, kp⟩ :: kws, pos, h => by
    rw [List.all_cons, Bool.and_eq_true] at h
    obtain ⟨h1, h2, h3⟩ := kws_names kws pos h.2
    have hn : nm.isSome = true := h.1
    refine ⟨?_, ?_, ?_⟩
    · show (nm.isSome && (backToKw pos (keywordEach kws X.env)).all (·.1.isSome)) = true
      rw [hn, h1]; rfl
    · show List.filterMap (·.1) ((nm, _) :: backToKw pos (keywordEach kws X.env)) = List.filterMap (·.arg) (⟨nm, e, kp⟩ :: kws)
      rw [List.filterMap_cons, List.filterMap_cons, h2]
    · show (nm.isNone || (backToKw pos (keywordEach kws X.env)).any (·.1.isNone)) = false
      rw [h3]
      cases nm with
      | none => cases hn
      | some _ => rfl
theorem ty_bltn {t : Str} {b : BI} (h : tyOf t = some b) (C : CtxOk π W lv g N sc X) (hg : Gl X t) (hms : X.mg "str" = none) : ∃ T, isT b = some T ∧ ∀ p2, PE X (.Name t p2) (tC (.ty T)) := by
  unfold tyOf at h
  simp only [List.lookup] at h
  repeat' split at h
  all_goals first | (cases h; done) | skip
  all_goals (rename_i hx; obtain rfl := beq_iff_eq.mp hx; cases h)
  · exact ⟨"int", rfl, fun p2 => pe_bltn hg (C.blt _ (by simp [bltN])) boot_int rfl⟩
  · exact ⟨"bool", rfl, fun p2 => pe_bltn hg (C.blt _ (by simp [bltN])) boot_bool rfl⟩
  · exact ⟨"tuple", rfl, fun p2 => pe_bltn hg (C.blt _ (by simp [bltN])) boot_tuple rfl⟩
  · exact ⟨"str", rfl, fun p2 => pe_bltn hg hms boot_str rfl⟩
theorem gk_name {x : Str} {gk : GK} (h : gkOf x = some gk) : x = GKn gk := by
  unfold gkOf at h
  simp only [List.lookup] at h
  repeat' split at h
  all_goals first | (cases h; done) | skip
  all_goals (rename_i hx; obtain rfl := beq_iff_eq.mp hx; cases h; rfl)
theorem own_sub {own : List (Str × Nat)} {t : T} (h : subB t own = true) : ∀ i ∈ t.slots, i ∈ own.map (·.2) := sub_ok h
theorem snd_c (S : Snd π W lv n) {x : Str} {args : List Expr} {kws : List Keyword} {A : E} {p pos : Pos} (C : CtxOk π W lv g N sc X) (hgl : isGl sc x = true) (hn : okName x = true) (h : trC π (n + 1) g N sc x args kws = some A) :
    PE X (.Call (.Name x p) args kws pos) (tI X (evE W (Gf π) A)) := by
  have hg := gl_ok C hgl
  have hdb := (okn_ok hn).1
  replace h : (match (generalizing := false) π.F.lookup x with
    | some (i, ps, kss) => (match (generalizing := false) args, kws with
      | e :: es, [] => if (e :: es).length == ps.length then (trEs π n g N sc (e :: es)).map fun l => E.call i l (List.range ps.length) else none
      | [], kws => if kws.all (fun k => k.arg.isSome) && kss.contains (kws.filterMap (·.arg)) then (trKs π n g N sc kws).map fun l => E.call i l (ixOf ps (kws.filterMap (·.arg))) else none
      | _, _ => none)
    | none => (match (generalizing := false) args, kws with
      | [a, .Name t _], [] => if x == ("isinstance" : Str) then (if isGl sc t && okName t && notStar a then (tyOf t).bind fun b => (trE π n g N sc a).map fun A => E.bi b [A] else none)
          else (biOf x).bind fun b => (trEs π n g N sc args).map fun l => E.bi b l
      | [.GeneratorExp elt [⟨tg, iter, ifs, 0⟩] scope _], [] => (match (generalizing := false) g with
        | 0 => none
        | g + 1 =>
          if blkC N sc scope (ownOf N scope) && notSet iter && !scope.isCoroutine && decide (scope.names.lookup (".0" : Str) = some NameKind.local) then (gkOf x).bind fun gk => (trI π n (g + 1) N sc tg iter).bind fun q => (trG N scope n tg).bind fun t => (trTs π n g N scope ifs).bind fun is => (trE π n g N scope elt).bind fun A =>
            if subB t (ownOf N scope) then some (E.gen gk ((ownOf N scope).map (·.2)) A t q.1 q.2 is) else none else none)
      | e :: es, [] => (biOf x).bind fun b => (trEs π n g N sc (e :: es)).map fun l => E.bi b l
      | _, _ => none)) = some A := h
  split at h
  · rename_i i ps kss hF
    obtain ⟨f, fd, hm, hk, F, hb, hkb⟩ := C.fns x i ps kss hF
    split at h
    · rename_i e es
      split at h <;> try contradiction
      rename_i hl
      obtain ⟨l, e1, rfl⟩ := Option.map_eq_some_iff.mp h
      have al := S.es C e1
      have hst := al.star
      rw [List.all_cons, Bool.and_eq_true] at hst
      exact s_call (w := W i) F (room_lv C) hg hm hk hb al.pa hdb (star_cons hst.1) (star_any hst.2) (by simpa using hl) fun ρ M ds M' hh => by rw [evEs_len hh, ← al.len]
    · split at h <;> try contradiction
      rename_i hc
      rw [Bool.and_eq_true] at hc
      obtain ⟨l, e1, rfl⟩ := Option.map_eq_some_iff.mp h
      obtain ⟨h1, h2, h3⟩ := kws_names (X := X) kws pos hc.1
      exact s_callk (w := W i) F (room_lv C) hg hm hk (hkb _ (by simpa using hc.2)) (S.ks C e1) h1 h2 hdb (by rw [h3]; rfl)
    · cases h
  · split at h
    · rename_i a t p2
      split at h
      · rename_i hx
        obtain rfl := beq_iff_eq.mp hx
        split at h <;> try contradiction
        rename_i hc
        simp only [Bool.and_eq_true] at hc
        obtain ⟨b, e1, h⟩ := Option.bind_eq_some_iff.mp h
        obtain ⟨A', e2, rfl⟩ := Option.map_eq_some_iff.mp h
        obtain ⟨T, hT, hN⟩ := ty_bltn e1 C (gl_ok C hc.1.1) (C.blt _ (by simp [bltN]))
        have st2 := star_cons (env := X.env) (e := .Name t p2) (es := []) rfl
        exact s_isi hT (S.e C e2) (hN p2) hg (C.blt _ (by simp [bltN])) (by rw [star_cons hc.2, st2]; rfl) st2 rfl
      · obtain ⟨b, e1, h⟩ := Option.bind_eq_some_iff.mp h
        obtain ⟨l, e2, rfl⟩ := Option.map_eq_some_iff.mp h
        exact bi_ok e1 C hg (S.es C e2)
    · rename_i elt tg iter ifs scope gp
      split at h <;> try contradiction
      rename_i g
      split at h <;> try contradiction
      rename_i hc
      simp only [Bool.and_eq_true, decide_eq_true_eq] at hc
      obtain ⟨⟨⟨hc1, hc2⟩, hc3⟩, hc4⟩ := hc
      obtain ⟨gk, e1, h⟩ := Option.bind_eq_some_iff.mp h
      obtain ⟨q, e2, h⟩ := Option.bind_eq_some_iff.mp h
      obtain ⟨t, e3, h⟩ := Option.bind_eq_some_iff.mp h
      obtain ⟨is, e4, h⟩ := Option.bind_eq_some_iff.mp h
      obtain ⟨A', e5, h⟩ := Option.bind_eq_some_iff.mp h
      split at h <;> try contradiction
      rename_i hsub
      cases h
      obtain rfl := gk_name e1
      have hb : BlkOk X.N X.env.scope scope (ownOf N scope) := by rw [C.hN, C.hsc]; exact blkOk_by hc1
      exact s_gen hg (C.blt _ (by cases gk <;> simp [bltN, GKn])) (star_cons (es := []) rfl) rfl (by rw [C.hN]; exact C.nd) C.room C.bm ⟨hb, by simpa using hc3, hc4⟩ C.calm (S.i C e2) (gen_fold hc2) (own_sub hsub)
        fun H Xg hX => ⟨(trG_ok n).1 (C.gen hX) (tg_gen hX) e3, S.ts (C.gen hX) e4, S.e (C.gen hX) e5⟩
    · obtain ⟨b, e1, h⟩ := Option.bind_eq_some_iff.mp h
      obtain ⟨l, e2, rfl⟩ := Option.map_eq_some_iff.mp h
      exact bi_ok e1 C hg (S.es C e2)
    · cases h
end
end IX
end

section
set_option Elab.async false
set_option autoImplicit false
set_option linter.all false
set_option maxRecDepth 100000
set_option maxHeartbeats 4000000
/-! The translation is sound: expressions, all together. -/
namespace IX
open PySem PySem.Spec PyProof.Rows L2 GX
section
variable {π : Pg} {W : Wd} {lv g : Nat} {N : List Str} {sc scope : Scope} {X : Cx} {n : Nat}
theorem snd_e (S : Snd π W lv n) {e : Expr} {A : E} (C : CtxOk π W lv g N sc X) (h : trE π (n + 1) g N sc e = some A) : PE X e (tI X (evE W (Gf π) A)) := by
  cases e with
  | Constant c j pos =>
    obtain ⟨x, e1, rfl⟩ := Option.map_eq_some_iff.mp (show (cstP c).map E.c = some A from h)
    cases c <;> cases e1
    · exact s_const (x := .non) pe_non fun H => by unfold RP; rfl
    · exact s_const (x := .bl _) pe_bl fun H => by unfold RP; rfl
    · exact s_const (x := .int _) pe_int fun H => by unfold RP; rfl
    · exact s_const (x := .str _) pe_str fun H => by unfold RP; rfl
  | Name x pos =>
    replace h : (if okName x then (if isVis sc x then (slotOf N x).map E.v else if isGl sc x then (π.G.lookup x).map fun _ => E.g x else none) else none) = some A := h
    split at h <;> try contradiction
    rename_i hok
    split at h
    · rename_i hv
      obtain ⟨i, e1, rfl⟩ := Option.map_eq_some_iff.mp h
      exact s_var (by rw [C.hN]; exact findIdx_get e1) (by rw [C.hsc]; exact vis_ok hv) (okn_ok hok).1 (okn_ok hok).2
    · split at h <;> try contradiction
      rename_i hg
      obtain ⟨p, e1, rfl⟩ := Option.map_eq_some_iff.mp h
      obtain ⟨u, v, hm, rv, rp⟩ := C.con x p e1
      refine (pe_glob (v := v) (gl_ok C hg) hm rv (okn_ok hok).1).weak fun σ H Q hq => ?_
      obtain ⟨ρ, M, α, d, M', r, e, q⟩ := hq
      have e : (π.G.lookup x).map (fun y => (D.p y, M)) = some (d, M') := e
      rw [e1] at e
      cases e
      exact q v H α (Nx.refl r.mem r.tab) (rp H)
  | BinOp a o b pos =>
    obtain ⟨bo, e1, h⟩ := Option.bind_eq_some_iff.mp (show ((opB o).bind fun o => (trE π n g N sc a).bind fun A => (trE π n g N sc b).map fun B => E.bin o A B) = some A from h)
    obtain ⟨A1, e2, h⟩ := Option.bind_eq_some_iff.mp h
    obtain ⟨B1, e3, rfl⟩ := Option.map_eq_some_iff.mp h
    obtain ⟨r, h1, h2⟩ := s_ops e1
    exact s_bin (S.e C e2) (S.e C e3) (h1 X) (h2 X)
  | UnaryOp op a pos =>
    cases op with
    | USub =>
      obtain ⟨B, e1, rfl⟩ := Option.map_eq_some_iff.mp (show (trE π n g N sc a).map E.neg = some A from h)
      exact s_neg (S.e C e1)
    | Not =>
      obtain ⟨B, e1, rfl⟩ := Option.map_eq_some_iff.mp (show (trE π n g N sc a).map E.not = some A from h)
      exact s_notv (S.e C e1)
    | _ => cases h
  | BoolOp op es pos =>
    cases es with
    | nil => cases op <;> cases h
    | cons e es =>
      cases op with
      | And =>
        obtain ⟨l, e1, rfl⟩ := Option.map_eq_some_iff.mp (show (trEs π n g N sc (e :: es)).map E.and = some A from h)
        have := S.es C e1
        cases l with
        | nil => exact this.elim
        | cons B l => exact AllE.and this
      | Or =>
        obtain ⟨l, e1, rfl⟩ := Option.map_eq_some_iff.mp (show (trEs π n g N sc (e :: es)).map E.or = some A from h)
        have := S.es C e1
        cases l with
        | nil => exact this.elim
        | cons B l => exact AllE.or this
  | Compare a ops bs pos =>
    match ops, bs, h with
    | [o], [b], h =>
      have h : (if behindInMarks (coOp (opC o)) b then none else (trE π n g N sc a).bind fun A => (trE π n g N sc b).map fun B => E.cmp (opC o) A B) = some A := h
      split at h <;> try contradiction
      rename_i hb
      obtain ⟨A1, e1, h⟩ := Option.bind_eq_some_iff.mp h
      obtain ⟨B1, e2, rfl⟩ := Option.map_eq_some_iff.mp h
      have := s_cmp (pos := pos) (o := opC o) C.units (S.e C e1) (S.e C e2) (by simpa using hb)
      rw [opc_ok] at this
      exact this
    | [o, o'], [b, c], h =>
      have h : (if lastMarks [coOp (opC o), coOp (opC o')] [b, c] then none else (trE π n g N sc a).bind fun A => (trE π n g N sc b).bind fun B => (trE π n g N sc c).map fun C => E.cmp2 (opC o) (opC o') A B C) = some A := h
      split at h <;> try contradiction
      rename_i hb
      obtain ⟨A1, e1, h⟩ := Option.bind_eq_some_iff.mp h
      obtain ⟨B1, e2, h⟩ := Option.bind_eq_some_iff.mp h
      obtain ⟨C1, e3, rfl⟩ := Option.map_eq_some_iff.mp h
      have := s_cmp2 (pos := pos) (o := opC o) (o' := opC o') C.units (S.e C e1) (S.e C e2) (S.e C e3) (by simpa using hb)
      rw [opc_ok, opc_ok] at this
      exact this
    | [], _, h => cases h
    | [_], [], h => cases h
    | [_], _ :: _ :: _, h => cases h
    | [_, _], [], h => cases h
    | [_, _], [_], h => cases h
    | [_, _], _ :: _ :: _ :: _, h => cases h
    | _ :: _ :: _ :: _, _, h => cases h
  | IfExp c a b pos =>
    obtain ⟨C1, e1, h⟩ := Option.bind_eq_some_iff.mp (show ((trT π n g N sc c).bind fun C => (trE π n g N sc a).bind fun A => (trE π n g N sc b).map fun B => E.ife C A B) = some A from h)
    obtain ⟨A1, e2, h⟩ := Option.bind_eq_some_iff.mp h
    obtain ⟨B1, e3, rfl⟩ := Option.map_eq_some_iff.mp h
    exact s_ife (S.t C e1) (S.e C e2) (S.e C e3)
  | Tuple es k pos =>
    obtain ⟨l, e1, rfl⟩ := Option.map_eq_some_iff.mp (show (trEs π n g N sc es).map E.tup = some A from h)
    exact s_tup (S.es C e1).pa
  | List es pos =>
    obtain ⟨l, e1, rfl⟩ := Option.map_eq_some_iff.mp (show (trEs π n g N sc es).map E.lst = some A from h)
    exact s_lst (S.es C e1).pa
  | Subscript a b pos =>
    have idx : ∀ b : Expr, (if notSlice b then (trE π n g N sc a).bind fun A => (trE π n g N sc b).map fun B => E.idx A B else none) = some A → PE X (.Subscript a b pos) (tI X (evE W (Gf π) A)) := fun b h => by
      split at h <;> try contradiction
      rename_i hs
      obtain ⟨A1, e1, h⟩ := Option.bind_eq_some_iff.mp h
      obtain ⟨B1, e2, rfl⟩ := Option.map_eq_some_iff.mp h
      exact s_idx (S.e C e1) (S.e C e2) (plain_ix hs)
    cases b with
    | Slice lo hi st p2 =>
      cases st with
      | none =>
        obtain ⟨A1, e1, h⟩ := Option.bind_eq_some_iff.mp (show ((trE π n g N sc a).bind fun A => (trO π n g N sc lo).bind fun L => (trO π n g N sc hi).map fun H => E.slc A L H) = some A from h)
        obtain ⟨L1, e2, h⟩ := Option.bind_eq_some_iff.mp h
        obtain ⟨H1, e3, rfl⟩ := Option.map_eq_some_iff.mp h
        exact s_slc (S.e C e1) (S.o C e2) (S.o C e3)
      | some st => exact idx _ h
    | _ => exact idx _ h
  | Call f args kws pos =>
    cases f with
    | Name x p =>
      replace h : (if isGl sc x && okName x then trC π n g N sc x args kws else none) = some A := h
      split at h <;> try contradiction
      rename_i hc
      rw [Bool.and_eq_true] at hc
      exact S.c C hc.1 hc.2 h
    | Attribute o x apos =>
      cases o with
      | Name nm p =>
        match args, kws, h with
        | [a], [], h =>
          replace h : (if x == ("append" : Str) && apos.endLine == pos.line && notStar a then (trE π n g N sc (.Name nm p)).bind fun O => (trE π n g N sc a).map fun A => E.mt .append O [A] else none) = some A := h
          split at h <;> try contradiction
          rename_i hc
          simp only [Bool.and_eq_true] at hc
          obtain ⟨⟨h1, h2⟩, h3⟩ := hc
          obtain rfl := beq_iff_eq.mp h1
          rename_i hq
          obtain ⟨O1, e1, hq⟩ := Option.bind_eq_some_iff.mp hq
          obtain ⟨A1, e2, rfl⟩ := Option.map_eq_some_iff.mp hq
          have st := star_cons (env := X.env) (es := []) h3
          exact s_append (S.e C e1) (a_cons (S.e C e2) a_nil st) rfl (by rw [st]; rfl) h2 st rfl
        | [], _, h => cases h
        | [_], _ :: _, h => cases h
        | _ :: _ :: _, _, h => cases h
      | _ => cases h
    | _ => cases h
  | ListComp elt gens scope pos =>
    match gens, h with
    | [⟨tg, iter, ifs, 0⟩], h =>
      replace h : (if blkC N sc scope (ownOf N scope) && notSet iter then (trI π n g N sc tg iter).bind fun q => (trG N scope n tg).bind fun t => (trTs π n g N (relS scope sc) ifs).bind fun is => (trE π n g N (relS scope sc) elt).bind fun A => if subB t (ownOf N scope) then some (E.lc ((ownOf N scope).map (·.2)) A t q.1 q.2 is) else none else none) = some A := h
      split at h <;> try contradiction
      rename_i hc
      rw [Bool.and_eq_true] at hc
      obtain ⟨q, e2, h⟩ := Option.bind_eq_some_iff.mp h
      obtain ⟨t, e3, h⟩ := Option.bind_eq_some_iff.mp h
      obtain ⟨is, e4, h⟩ := Option.bind_eq_some_iff.mp h
      obtain ⟨A', e5, h⟩ := Option.bind_eq_some_iff.mp h
      split at h <;> try contradiction
      rename_i hsub
      cases h
      have hb : BlkOk X.N X.env.scope scope (ownOf N scope) := by rw [C.hN, C.hsc]; exact blkOk_by hc.1
      exact s_lc C.calm (by rw [C.hN]; exact C.nd) (S.i C e2) hb (fun s H c cl fp => (trG_ok n).1 (C.blk s H c cl fp) (tg_blk s H c cl fp) e3) (fun s H c cl fp => S.ts (C.blk s H c cl fp) e4) (fun s H c cl fp => S.e (C.blk s H c cl fp) e5) (set_fold hc.2) (own_sub hsub)
    | [⟨tg, iter, ifs, 0⟩, ⟨tg1, iter1, ifs1, 0⟩], h =>
      replace h : (if blkC N sc scope (ownOf N scope) && notSet iter && notSet iter1 then (trI π n g N sc tg iter).bind fun q => (trG N scope n tg).bind fun t => (trTs π n g N (relS scope sc) ifs).bind fun is => (trI π n g N (relS scope sc) tg1 iter1).bind fun q1 => (trG N scope n tg1).bind fun t1 =>
        (trTs π n g N (relS scope sc) ifs1).bind fun is1 => (trE π n g N (relS scope sc) elt).bind fun A => if subB t (ownOf N scope) && subB t1 (ownOf N scope) then some (E.lc2 ((ownOf N scope).map (·.2)) A t q.1 q.2 is t1.slots t1 q1.1 q1.2 is1) else none else none) = some A := h
      split at h <;> try contradiction
      rename_i hc
      simp only [Bool.and_eq_true] at hc
      obtain ⟨q, e2, h⟩ := Option.bind_eq_some_iff.mp h
      obtain ⟨t, e3, h⟩ := Option.bind_eq_some_iff.mp h
      obtain ⟨is, e4, h⟩ := Option.bind_eq_some_iff.mp h
      obtain ⟨q1, e6, h⟩ := Option.bind_eq_some_iff.mp h
      obtain ⟨t1, e7, h⟩ := Option.bind_eq_some_iff.mp h
      obtain ⟨is1, e8, h⟩ := Option.bind_eq_some_iff.mp h
      obtain ⟨A', e5, h⟩ := Option.bind_eq_some_iff.mp h
      split at h <;> try contradiction
      rename_i hsub
      rw [Bool.and_eq_true] at hsub
      cases h
      have hb : BlkOk X.N X.env.scope scope (ownOf N scope) := by rw [C.hN, C.hsc]; exact blkOk_by hc.1.1
      exact s_lc2 C.calm (by rw [C.hN]; exact C.nd) (S.i C e2) hb (own_sub hsub.2) (fun s H c cl fp => (trG_ok n).1 (C.blk s H c cl fp) (tg_blk s H c cl fp) e3) (fun s H c cl fp => S.ts (C.blk s H c cl fp) e4) (fun s H c cl fp => S.i (C.blk s H c cl fp) e6)
        (fun s H c cl fp => (trG_ok n).1 (C.blk s H c cl fp) (tg_blk s H c cl fp) e7) (fun s H c cl fp => S.ts (C.blk s H c cl fp) e8) (fun s H c cl fp => S.e (C.blk s H c cl fp) e5) (set_fold hc.1.2) (fun env => set_fold hc.2) (own_sub hsub.1) fun i hi => hi
    | [], h => cases h
    | [⟨_, _, _, .ofNat (k + 1)⟩], h => cases h
    | [⟨_, _, _, .negSucc k⟩], h => cases h
    | [⟨_, _, _, 0⟩, ⟨_, _, _, .ofNat (k + 1)⟩], h => cases h
    | [⟨_, _, _, 0⟩, ⟨_, _, _, .negSucc k⟩], h => cases h
    | [⟨_, _, _, .ofNat (k + 1)⟩, _], h => cases h
    | [⟨_, _, _, .negSucc k⟩, _], h => cases h
    | ⟨_, _, _, 0⟩ :: ⟨_, _, _, 0⟩ :: _ :: _, h => cases h
    | ⟨_, _, _, 0⟩ :: ⟨_, _, _, .ofNat (k + 1)⟩ :: _ :: _, h => cases h
    | ⟨_, _, _, 0⟩ :: ⟨_, _, _, .negSucc k⟩ :: _ :: _, h => cases h
    | ⟨_, _, _, .ofNat (k + 1)⟩ :: _ :: _ :: _, h => cases h
    | ⟨_, _, _, .negSucc k⟩ :: _ :: _ :: _, h => cases h
  | _ => cases h
theorem snd : ∀ n, Snd π W lv n
  | 0 => ⟨fun _ h => (by cases h), fun _ _ _ h => (by cases h), fun _ h => (by cases h), fun _ h => (by cases h), fun _ h => (by cases h), fun _ h => (by cases h), fun _ h => (by cases h), fun _ h => (by cases h), fun _ h => (by cases h)⟩
  | n + 1 => let S := snd n; ⟨snd_e S, snd_c S, snd_t S, snd_es S, snd_ks S, snd_tl S, snd_ts S, snd_o S, snd_i S⟩
end
end IX
end

section
set_option Elab.async false
set_option autoImplicit false
set_option linter.all false
set_option maxRecDepth 100000
set_option maxHeartbeats 4000000
/-! The translation is sound: statements. -/
namespace IX
open PySem PySem.Spec PyProof.Rows L2 GX
section
variable {π : Pg} {W : Wd} {lv g : Nat} {N : List Str} {sc scope : Scope} {X : Cx} {n : Nat} {env : PySem.Env}
theorem sw_no {e : Expr} {t : Option Expr} {l : Nat} (h : notComp e = true) : swapsWith e t l env = pure false := by
  cases e <;> first | rfl | cases h
theorem sw_sole {e t : Expr} {l : Nat} (h : notComp e = true) : swapsWithSole [t] e l env = pure false := sw_no h
theorem blt_kind (h : env.scope.kind = .function) : env.blockKind = .function := by
  unfold PySem.Env.blockKind
  rw [h]; rfl
def swLc (env : PySem.Env) (t : Str) (p q : Pos) (s : Scope) : Bool := env.blockKind == .function && env.kindOf t == some .local && p.line == q.line && !(s.names.any fun (n, k) => n == t && (k == .local || k == .cell))
theorem sw_lc {elt : Expr} {gens : List Comprehension} {s : Scope} {q p : Pos} {t : Str} {l : Nat} : swapsWith (.ListComp elt gens s q) (some (.Name t p)) l env = pure (swLc env t p q s) := rfl
theorem sw_loc {t : Str} {p q : Pos} {s : Scope} (h : swLc env t p q s = true) : env.scope.names.lookup t = some .local := by
  unfold swLc at h
  simp only [Bool.and_eq_true] at h
  exact beq_iff_eq.mp h.1.1.2
theorem loc_some {l : Nat} {x : Str} {p : Pos} (h : (locN sc l (.Name x p)).isSome = true) : sc.names.lookup x = some .local ∧ p.line = l := by
  have h : (if (match sc.names.lookup x with | some .local => true | _ => false) && p.line == l then some x else none).isSome = true := h
  split at h
  · rename_i hc
    refine ⟨hc, ?_⟩
    split at h
    · rename_i h2
      simpa using h2
    · cases h
  · cases h
theorem slot_ne {x y : Str} {i j : Nat} (h1 : slotOf N x = some i) (h2 : slotOf N y = some j) (hij : (i != j) = true) : x ≠ y := fun e => by
  subst e
  rw [h1] at h2
  cases h2
  simp at hij
theorem sw_two {x y : Str} {px py pt : Pos} {kt k2 : Nat} {pt2 : Pos} {a b : Expr} (hk : env.blockKind = .function) (hx : env.kindOf x = some .local) (hy : env.kindOf y = some .local) (hl : py.line = px.line) (hxy : x ≠ y)
    (ha : notStar a = true) (hb : notStar b = true) (hf : (foldedForSure 8 a && foldedForSure 8 b) = false) (hc : (constantsAlone 8 a && constantsAlone 8 b) = false) :
    swappedStores [.Tuple [.Name x px, .Name y py] kt pt] (.Tuple [a, b] k2 pt2) env = pure (some [x, y]) := by
  have hyx : (y == x) = false := by simpa using Ne.symm hxy
  have hxy' : (x == y) = false := by simpa using hxy
  have e1 : ((px.line : Nat) == px.line) = true := by simp
  unfold swappedStores
  simp only [List.length_cons, List.length_nil, hk, List.head?_cons, Option.map_some, Option.getD_some, List.filterMap_cons, List.filterMap_nil, hx, hy, hl, Expr.pos]
  refine (if_neg (by simp)).trans ((if_neg ?_).trans ?_)
  · simp only [List.any_cons, List.any_nil, Bool.or_false, Bool.or_eq_true, not_or]
    refine ⟨?_, ?_⟩
    · cases a <;> first | exact Bool.false_ne_true | cases ha
    · cases b <;> first | exact Bool.false_ne_true | cases hb
  · simp [List.eraseDups_cons, hyx]
    exact (if_neg (fun z => by rw [z.1, z.2] at hf; cases hf)).trans (if_neg (fun z => by rw [z.1, z.2] at hc; cases hc))
theorem sw_three {x y z : Str} {px py pz pt : Pos} {kt k2 : Nat} {pt2 : Pos} {a b c : Expr} (hk : env.blockKind = .function) (hx : env.kindOf x = some .local) (hy : env.kindOf y = some .local) (hz : env.kindOf z = some .local) (hl : py.line = px.line) (hl2 : pz.line = px.line) (hxy : x ≠ y) (hxz : x ≠ z) (hyz : y ≠ z)
    (ha : notStar a = true) (hb : notStar b = true) (hcs : notStar c = true) (hf : (foldedForSure 8 a && foldedForSure 8 b && foldedForSure 8 c) = false) (hc : (constantsAlone 8 a && constantsAlone 8 b && constantsAlone 8 c) = false) :
    swappedStores [.Tuple [.Name x px, .Name y py, .Name z pz] kt pt] (.Tuple [a, b, c] k2 pt2) env = pure (some [x, y, z]) := by
  have hyx : (y == x) = false := by simpa using Ne.symm hxy
  have hzx : (z == x) = false := by simpa using Ne.symm hxz
  have hzy : (z == y) = false := by simpa using Ne.symm hyz
  unfold swappedStores
  simp only [List.length_cons, List.length_nil, hk, List.head?_cons, Option.map_some, Option.getD_some, List.filterMap_cons, List.filterMap_nil, hx, hy, hz, hl, hl2, Expr.pos]
  refine (if_neg (by simp)).trans ((if_neg ?_).trans ?_)
  · simp only [List.any_cons, List.any_nil, Bool.or_false, Bool.or_eq_true, not_or]
    refine ⟨?_, ?_, ?_⟩
    · cases a <;> first | exact Bool.false_ne_true | cases ha
    · cases b <;> first | exact Bool.false_ne_true | cases hb
    · cases c <;> first | exact Bool.false_ne_true | cases hcs
  · simp [List.eraseDups_cons, hyx, hzx, hzy]
    exact (if_neg (fun z => by rw [z.1, z.2.1, z.2.2] at hf; cases hf)).trans (if_neg (fun z => by rw [z.1, z.2.1, z.2.2] at hc; cases hc))
end
end IX
end

section
set_option Elab.async false
set_option autoImplicit false
set_option linter.all false
set_option maxRecDepth 100000
set_option maxHeartbeats 4000000
/-! The translation is sound: statements, together. -/
namespace IX
open PySem PySem.Spec PyProof.Rows L2 GX
section
variable {π : Pg} {W : Wd} {lv g : Nat} {N : List Str} {sc scope : Scope} {X : Cx} {n L : Nat}
/-- a def's own context -/
structure StOk (sc : Scope) (X : Cx) : Prop where
  tg : TgOk sc X
  kind : X.env.scope.kind = .function
  pass : PassesOwn (model X.prog X.w) X.A X.env X.xe
theorem tg_loc {sc : Scope} {X : Cx} (T : TgOk sc X) {x : Str} (h : isLoc sc x = true) : L2.Loc X.env.scope x ∧ (X.fn x = true ∨ X.env.scope.names.lookup x = some .local) := T x h
theorem opb_bo {o : Operator} {bo : BO} (h : opB o = some bo) : o = boOp bo := by
  cases o <;> cases h <;> rfl
theorem set_lc {elt : Expr} {gens : List Comprehension} {scope : Scope} {q pos py : Pos} {y : Str} {i : Nat} {A : E} (C : CtxOk π W lv g N sc X) (hy : N[i]? = some y) (hsw : swLc X.env y py q scope = true)
    (h : trE π n g N sc (.ListComp elt gens scope q) = some A) : PS X (.Assign [.Name y py] (.ListComp elt gens scope q) pos) (tS X (setF (.nm i) (evE W (Gf π) A))) := by
  cases n with
  | zero => cases h
  | succ n =>
    have S : Snd π W lv n := snd n
    have hyl := sw_loc hsw
    have hsw' : swapsWith (.ListComp elt gens scope q) (some (.Name y py)) pos.line X.env = pure true := by rw [sw_lc, hsw]
    match gens, h, hsw' with
    | [⟨tg, iter, ifs, 0⟩], h, hsw' =>
      replace h : (if blkC N sc scope (ownOf N scope) && notSet iter then (trI π n g N sc tg iter).bind fun q => (trG N scope n tg).bind fun t => (trTs π n g N (relS scope sc) ifs).bind fun is => (trE π n g N (relS scope sc) elt).bind fun A => if subB t (ownOf N scope) then some (E.lc ((ownOf N scope).map (·.2)) A t q.1 q.2 is) else none else none) = some A := h
      split at h <;> try contradiction
      rename_i hc
      rw [Bool.and_eq_true] at hc
      obtain ⟨q, e2, h⟩ := Option.bind_eq_some_iff.mp h
      obtain ⟨t, e3, h⟩ := Option.bind_eq_some_iff.mp h
      obtain ⟨is, e4, h⟩ := Option.bind_eq_some_iff.mp h
      obtain ⟨A', e5, h⟩ := Option.bind_eq_some_iff.mp h
      split at h <;> try contradiction
      rename_i hsub
      cases h
      have hb : BlkOk X.N X.env.scope scope (ownOf N scope) := by rw [C.hN, C.hsc]; exact blkOk_by hc.1
      exact s_setlc C.calm (by rw [C.hN]; exact C.nd) (by rw [C.hN]; exact hy) hyl hsw' (S.i C e2) hb (fun s H c cl fp => (trG_ok n).1 (C.blk s H c cl fp) (tg_blk s H c cl fp) e3) (fun s H c cl fp => S.ts (C.blk s H c cl fp) e4) (fun s H c cl fp => S.e (C.blk s H c cl fp) e5) (set_fold hc.2) (own_sub hsub)
    | [⟨tg, iter, ifs, 0⟩, ⟨tg1, iter1, ifs1, 0⟩], h, hsw' =>
      replace h : (if blkC N sc scope (ownOf N scope) && notSet iter && notSet iter1 then (trI π n g N sc tg iter).bind fun q => (trG N scope n tg).bind fun t => (trTs π n g N (relS scope sc) ifs).bind fun is => (trI π n g N (relS scope sc) tg1 iter1).bind fun q1 => (trG N scope n tg1).bind fun t1 =>
        (trTs π n g N (relS scope sc) ifs1).bind fun is1 => (trE π n g N (relS scope sc) elt).bind fun A => if subB t (ownOf N scope) && subB t1 (ownOf N scope) then some (E.lc2 ((ownOf N scope).map (·.2)) A t q.1 q.2 is t1.slots t1 q1.1 q1.2 is1) else none else none) = some A := h
      split at h <;> try contradiction
      rename_i hc
      simp only [Bool.and_eq_true] at hc
      obtain ⟨q, e2, h⟩ := Option.bind_eq_some_iff.mp h
      obtain ⟨t, e3, h⟩ := Option.bind_eq_some_iff.mp h
      obtain ⟨is, e4, h⟩ := Option.bind_eq_some_iff.mp h
      obtain ⟨q1, e6, h⟩ := Option.bind_eq_some_iff.mp h
      obtain ⟨t1, e7, h⟩ := Option.bind_eq_some_iff.mp h
      obtain ⟨is1, e8, h⟩ := Option.bind_eq_some_iff.mp h
      obtain ⟨A', e5, h⟩ := Option.bind_eq_some_iff.mp h
      split at h <;> try contradiction
      rename_i hsub
      rw [Bool.and_eq_true] at hsub
      cases h
      have hb : BlkOk X.N X.env.scope scope (ownOf N scope) := by rw [C.hN, C.hsc]; exact blkOk_by hc.1.1
      exact s_setlc2 C.calm (by rw [C.hN]; exact C.nd) (by rw [C.hN]; exact hy) hyl hsw' (S.i C e2) hb (own_sub hsub.2) (fun s H c cl fp => (trG_ok n).1 (C.blk s H c cl fp) (tg_blk s H c cl fp) e3) (fun s H c cl fp => S.ts (C.blk s H c cl fp) e4) (fun s H c cl fp => S.i (C.blk s H c cl fp) e6)
        (fun s H c cl fp => (trG_ok n).1 (C.blk s H c cl fp) (tg_blk s H c cl fp) e7) (fun s H c cl fp => S.ts (C.blk s H c cl fp) e8) (fun s H c cl fp => S.e (C.blk s H c cl fp) e5) (set_fold hc.1.2) (fun env => set_fold hc.2) (own_sub hsub.1) fun i hi => hi
    | [], h, _ => cases h
    | [⟨_, _, _, .ofNat (k + 1)⟩], h, _ => cases h
    | [⟨_, _, _, .negSucc k⟩], h, _ => cases h
    | [⟨_, _, _, 0⟩, ⟨_, _, _, .ofNat (k + 1)⟩], h, _ => cases h
    | [⟨_, _, _, 0⟩, ⟨_, _, _, .negSucc k⟩], h, _ => cases h
    | [⟨_, _, _, .ofNat (k + 1)⟩, _], h, _ => cases h
    | [⟨_, _, _, .negSucc k⟩, _], h, _ => cases h
    | ⟨_, _, _, 0⟩ :: ⟨_, _, _, 0⟩ :: _ :: _, h, _ => cases h
    | ⟨_, _, _, 0⟩ :: ⟨_, _, _, .ofNat (k + 1)⟩ :: _ :: _, h, _ => cases h
    | ⟨_, _, _, 0⟩ :: ⟨_, _, _, .negSucc k⟩ :: _ :: _, h, _ => cases h
    | ⟨_, _, _, .ofNat (k + 1)⟩ :: _ :: _ :: _, h, _ => cases h
    | ⟨_, _, _, .negSucc k⟩ :: _ :: _ :: _, h, _ => cases h
theorem not_comp_tr {e : Expr} {A : E} (h : trE π n g N sc e = some A) : notComp e = true ∨ ∃ elt gens s q, e = .ListComp elt gens s q := by
  cases e <;> first | exact .inl rfl | exact .inr ⟨_, _, _, _, rfl⟩ | (cases n <;> cases h)
theorem asg_one {tg : Expr} {env : PySem.Env} (h : notStar tg = true) : (assignEach [tg] env).map (·.2) = [assign tg env] := by rw [asg_cons h]; rfl
structure SndS (π : Pg) (W : Wd) (lv L n : Nat) : Prop where
  s : ∀ {g : Nat} {N : List Str} {sc : Scope} {st : Stmt} {A : S} {X : Cx}, CtxOk π W lv g N sc X → StOk sc X → trS π n g N sc st = some A → PS X st (tS X (evS W (Gf π) L A))
  ss : ∀ {g : Nat} {N : List Str} {sc : Scope} {sts : List Stmt} {l : List S} {X : Cx}, CtxOk π W lv g N sc X → StOk sc X → trSs π n g N sc sts = some l → PSs X sts (tS X (evSs W (Gf π) L l))
theorem snd_ss (R : SndS π W lv L n) {sts : List Stmt} {l : List S} (C : CtxOk π W lv g N sc X) (Z : StOk sc X) (h : trSs π (n + 1) g N sc sts = some l) : PSs X sts (tS X (evSs W (Gf π) L l)) := by
  cases sts with
  | nil => cases h; exact ss_nil
  | cons st sts =>
    obtain ⟨A, e1, h⟩ := Option.bind_eq_some_iff.mp (show ((trS π n g N sc st).bind fun A => (trSs π n g N sc sts).map fun l => A :: l) = some l from h)
    obtain ⟨l', e2, rfl⟩ := Option.map_eq_some_iff.mp h
    exact ss_cons (R.s C Z e1) (R.ss C Z e2)
def notTup : Expr → Bool
  | .Tuple _ _ _ => false
  | _ => true
theorem tup_none {ts : List Expr} {k : Nat} {tp : Pos} {e : Expr} {env : PySem.Env} (h : notTup e = true) : swappedStores [.Tuple ts k tp] e env = pure none := by
  cases e <;> first | rfl | cases h
def locE (env : PySem.Env) (line : Nat) : Expr → Option Str
  | .Name id pos => if env.kindOf id == some .local && pos.line == line then some id else none
  | _ => none
theorem locE_eq {env : PySem.Env} {l : Nat} (h : env.scope = sc) : locE env l = locN sc l := by
  funext t
  cases t <;> try rfl
  rename_i id p
  show (if env.scope.names.lookup id == some .local && p.line == l then some id else none) = (if (match sc.names.lookup id with | some .local => true | _ => false) && p.line == l then some id else none)
  rw [h]
  cases e : sc.names.lookup id with
  | none => rfl
  | some k => cases k <;> rfl
theorem filter_short {A B : Type} {f : A → Option B} : ∀ {xs : List A}, (xs.filterMap f).length = xs.length → ∀ x ∈ xs, (f x).isSome = true
  | [], _, _, h => by simp at h
  | a :: xs, h, x, hx => by
    rw [List.filterMap_cons] at h
    cases e : f a with
    | none =>
      rw [e] at h
      have := List.length_filterMap_le f xs
      simp only [List.length_cons] at h
      omega
    | some b =>
      rw [e] at h
      simp only [List.length_cons, Nat.add_right_cancel_iff] at h
      rcases List.mem_cons.mp hx with z | z
      · rw [z, e]; rfl
      · exact filter_short h x z
theorem sw_off {ts vs : List Expr} {k k2 : Nat} {tp tp2 : Pos} {env : PySem.Env} (hs : env.scope = sc) (h : anyOff sc ts = true) : swappedStores [.Tuple ts k tp] (.Tuple vs k2 tp2) env = pure none := by
  have hl : ((ts.filterMap (locE env ((ts.head?.map (·.pos.line)).getD 0))).length != ts.length) = true := by
    rw [bne_iff_ne]
    intro z
    unfold anyOff at h
    rw [List.any_eq_true] at h
    obtain ⟨t, ht, e⟩ := h
    have := filter_short z t ht
    rw [locE_eq hs] at this
    cases q : locN sc ((ts.head?.map (·.pos.line)).getD 0) t with
    | none => rw [q] at this; cases this
    | some _ => rw [q] at e; cases e
  have hf : (fun t : Expr => match t with
      | .Name id pos => if env.kindOf id == some .local && pos.line == ((ts.head?.map (·.pos.line)).getD 0) then some id else none
      | _ => none) = locE env ((ts.head?.map (·.pos.line)).getD 0) := by
    funext t
    cases t <;> rfl
  unfold swappedStores
  dsimp only
  split
  · rfl
  · split
    · rfl
    · have hl2 : (ts.filterMap (fun t : Expr => match t with
        | .Name id pos => if env.kindOf id == some .local && pos.line == ((ts.head?.map (·.pos.line)).getD 0) then some id else none
        | _ => none)).length != ts.length := by rw [hf]; exact hl
      exact if_pos (by rw [Bool.or_eq_true]; exact .inl hl2)
theorem snd_asg {tg : Expr} {e : Expr} {pos : Pos} {A : S} (C : CtxOk π W lv g N sc X) (Z : StOk sc X) (h : trA π n g N sc tg e = some A) : PS X (.Assign [tg] e pos) (tS X (evS W (Gf π) L A)) := by
  have Sn : Snd π W lv n := snd n
  have hN : X.N.Nodup := by rw [C.hN]; exact C.nd
  cases tg with
  | Name x px =>
    replace h : (if isLoc sc x then (slotOf N x).bind fun i => (trE π n g N sc e).map fun A => S.set (.nm i) A else none) = some A := h
    split at h <;> try contradiction
    rename_i hl
    obtain ⟨i, e1, h⟩ := Option.bind_eq_some_iff.mp h
    obtain ⟨B, e2, rfl⟩ := Option.map_eq_some_iff.mp h
    have hi := findIdx_get e1
    have hx := Z.tg x hl
    have plain : swapsWith e (some (.Name x px)) pos.line X.env = pure false → PS X (.Assign [.Name x px] e pos) (tS X (setF (.nm i) (evE W (Gf π) B))) := fun hs => s_set hN (by rw [C.hN]; exact hi) hx.1 (Sn.e C e2) hs hx.2
    rcases not_comp_tr e2 with hc | ⟨elt, gens, s, q, rfl⟩
    · exact plain (sw_no hc)
    · cases hsw : swLc X.env x px q s with
      | true => exact set_lc C hi hsw e2
      | false => exact plain (by rw [sw_lc, hsw])
  | Subscript o i ps =>
    replace h : (if notSlice i then (trE π n g N sc o).bind fun O => (trE π n g N sc i).bind fun I => (trE π n g N sc e).map fun A => S.seti O I A else none) = some A := h
    split at h <;> try contradiction
    rename_i hs
    obtain ⟨O, e1, h⟩ := Option.bind_eq_some_iff.mp h
    obtain ⟨I, e2, h⟩ := Option.bind_eq_some_iff.mp h
    obtain ⟨B, e3, rfl⟩ := Option.map_eq_some_iff.mp h
    refine s_seti (Sn.e C e3) (Sn.e C e1) (Sn.e C e2) (by cases i <;> first | (intro _; rfl) | cases hs) ?_ ?_ (asg_one rfl)
    · cases e <;> rfl
    · cases e <;> rfl
  | Tuple ts k tp =>
    have hk : X.env.blockKind = .function := blt_kind Z.kind
    have klo : ∀ {x : Str}, sc.names.lookup x = some .local → X.env.kindOf x = some .local := fun {x} h => by show X.env.scope.names.lookup x = _; rw [C.hsc]; exact h
    have other : swappedStores [.Tuple ts k tp] e X.env = pure none → (if notComp e then (trG N sc n (.Tuple ts k tp)).bind fun t => (trE π n g N sc e).map fun A => S.set t A else none) = some A → PS X (.Assign [.Tuple ts k tp] e pos) (tS X (evS W (Gf π) L A)) := fun he h => by
      split at h <;> try contradiction
      rename_i hc
      obtain ⟨t, e1, h⟩ := Option.bind_eq_some_iff.mp h
      obtain ⟨B, e2, rfl⟩ := Option.map_eq_some_iff.mp h
      have pg := (trG_ok n).1 C Z.tg e1
      have htp : ∃ l, t = .tp l := by
        cases n with
        | zero => cases e1
        | succ n =>
          obtain ⟨l, _, rfl⟩ := Option.map_eq_some_iff.mp (show (trGs N sc n ts).map T.tp = some t from e1)
          exact ⟨l, rfl⟩
      obtain ⟨l, rfl⟩ := htp
      exact s_asg (Sn.e C e2) (g_tpD pg) (sw_sole hc) he (asg_one rfl)
    cases e with
    | Tuple vs k2 tp2 =>
      replace h : (if anyOff sc ts then (trG N sc n (.Tuple ts k tp)).bind fun t => (trE π n g N sc (.Tuple vs k2 tp2)).map fun A => S.set t A else trP π n g N sc ts vs) = some A := h
      split at h
      · rename_i ho
        exact other (sw_off C.hsc ho) h
      replace h : (match (generalizing := false) ts, vs with
        | [.Name x px, .Name y py], [a, b] =>
          (slotOf N x).bind fun i => (slotOf N y).bind fun j => if i != j && (locN sc px.line (.Name x px)).isSome && (locN sc px.line (.Name y py)).isSome && notStar a && notStar b && !(foldedForSure 8 a && foldedForSure 8 b) && !(constantsAlone 8 a && constantsAlone 8 b) then
            (trEs π n g N sc [a, b]).map fun l => S.par [i, j] l else none
        | [.Name x px, .Name y py, .Name z pz], [a, b, c] =>
          (slotOf N x).bind fun i => (slotOf N y).bind fun j => (slotOf N z).bind fun l => if i != j && i != l && j != l && (locN sc px.line (.Name x px)).isSome && (locN sc px.line (.Name y py)).isSome && (locN sc px.line (.Name z pz)).isSome && notStar a && notStar b && notStar c &&
              !(foldedForSure 8 a && foldedForSure 8 b && foldedForSure 8 c) && !(constantsAlone 8 a && constantsAlone 8 b && constantsAlone 8 c) then
            (trEs π n g N sc [a, b, c]).map fun q => S.par [i, j, l] q else none
        | _, _ => none) = some A := h
      split at h
      · rename_i x px y py a b
        obtain ⟨i, e1, h⟩ := Option.bind_eq_some_iff.mp h
        obtain ⟨j, e2, h⟩ := Option.bind_eq_some_iff.mp h
        split at h <;> try contradiction
        rename_i hc
        simp only [Bool.and_eq_true, Bool.not_eq_true'] at hc
        obtain ⟨⟨⟨⟨⟨⟨c1, c2⟩, c3⟩, c4⟩, c5⟩, c6⟩, c7⟩ := hc
        obtain ⟨l, e3, rfl⟩ := Option.map_eq_some_iff.mp h
        obtain ⟨l1, _⟩ := loc_some c2
        obtain ⟨l2, m2⟩ := loc_some c3
        refine s_par C.calm hN (by rw [C.hN]; exact findIdx_get e1) (by rw [C.hN]; exact findIdx_get e2) (by simpa using c1) (klo l1) (klo l2) (Sn.es C e3).pa ?_ rfl
        exact sw_two hk (klo l1) (klo l2) m2 (slot_ne e1 e2 c1) c4 c5 c6 c7
      · rename_i x px y py z pz a b c
        obtain ⟨i, e1, h⟩ := Option.bind_eq_some_iff.mp h
        obtain ⟨j, e2, h⟩ := Option.bind_eq_some_iff.mp h
        obtain ⟨l0, e4, h⟩ := Option.bind_eq_some_iff.mp h
        split at h <;> try contradiction
        rename_i hc
        simp only [Bool.and_eq_true, Bool.not_eq_true'] at hc
        obtain ⟨⟨⟨⟨⟨⟨⟨⟨⟨⟨c1, c2⟩, c3⟩, c4⟩, c5⟩, c6⟩, c7⟩, c8⟩, c9⟩, c10⟩, c11⟩ := hc
        obtain ⟨l, e3, rfl⟩ := Option.map_eq_some_iff.mp h
        obtain ⟨l1, _⟩ := loc_some c4
        obtain ⟨l2, m2⟩ := loc_some c5
        obtain ⟨l3, m3⟩ := loc_some c6
        refine s_par3 C.calm hN (by rw [C.hN]; exact findIdx_get e1) (by rw [C.hN]; exact findIdx_get e2) (by rw [C.hN]; exact findIdx_get e4) (by simpa using c1) (by simpa using c2) (by simpa using c3) (klo l1) (klo l2) (klo l3) (Sn.es C e3).pa ?_ rfl
        exact sw_three hk (klo l1) (klo l2) (klo l3) m2 m3 (slot_ne e1 e2 c1) (slot_ne e1 e4 c2) (slot_ne e2 e4 c3) c7 c8 c9 c10 c11
      · cases h
    | _ => exact other (tup_none rfl) h
  | _ => cases h
theorem snd_s (R : SndS π W lv L n) {st : Stmt} {A : S} (C : CtxOk π W lv g N sc X) (Z : StOk sc X) (h : trS π (n + 1) g N sc st = some A) : PS X st (tS X (evS W (Gf π) L A)) := by
  have Sn : Snd π W lv n := snd n
  have hN : X.N.Nodup := by rw [C.hN]; exact C.nd
  cases st with
  | Expr e pos =>
    have plain : (if notComp e then (trE π n g N sc e).map S.ex else none) = some A → PS X (.Expr e pos) (tS X (evS W (Gf π) L A)) := fun h => by
      split at h <;> try contradiction
      rename_i hc
      obtain ⟨B, e1, rfl⟩ := Option.map_eq_some_iff.mp h
      exact s_ex (Sn.e C e1) (sw_no hc)
    cases e with
    | Constant c j p =>
      cases c with
      | str x => cases h; exact s_doc
      | _ => exact plain h
    | _ => exact plain h
  | Return e pos =>
    cases e with
    | none => cases h; exact s_retn
    | some e =>
      obtain ⟨B, e1, rfl⟩ := Option.map_eq_some_iff.mp (show (trE π n g N sc e).map S.ret = some A from h)
      exact s_ret (Sn.e C e1)
  | Pass pos => cases h; exact s_pas
  | Break pos => cases h; exact s_brk
  | Continue pos => cases h; exact s_cnt
  | If c a b pos =>
    obtain ⟨C1, e1, h⟩ := Option.bind_eq_some_iff.mp (show ((trT π n g N sc c).bind fun C => (trSs π n g N sc a).bind fun A => (trSs π n g N sc b).map fun B => S.ife C A B) = some A from h)
    obtain ⟨A1, e2, h⟩ := Option.bind_eq_some_iff.mp h
    obtain ⟨B1, e3, rfl⟩ := Option.map_eq_some_iff.mp h
    exact s_if (Sn.t C e1) (R.ss C Z e2) (R.ss C Z e3)
  | While c b o pos =>
    cases o with
    | cons _ _ => cases h
    | nil =>
      obtain ⟨C1, e1, h⟩ := Option.bind_eq_some_iff.mp (show ((trT π n g N sc c).bind fun C => (trSs π n g N sc b).map fun B => S.whl C B) = some A from h)
      obtain ⟨B1, e2, rfl⟩ := Option.map_eq_some_iff.mp h
      exact s_while Z.pass (Sn.t C e1) (R.ss C Z e2)
  | For tg iter b o pos =>
    cases o with
    | cons _ _ => cases h
    | nil =>
      replace h : (if notSet iter then (trI π n g N sc tg iter).bind fun q => (trG N sc n tg).bind fun t => (trSs π n g N sc b).map fun B => S.loop t q.1 q.2 B else none) = some A := h
      split at h <;> try contradiction
      rename_i hs
      obtain ⟨q, e1, h⟩ := Option.bind_eq_some_iff.mp h
      obtain ⟨t, e2, h⟩ := Option.bind_eq_some_iff.mp h
      obtain ⟨B1, e3, rfl⟩ := Option.map_eq_some_iff.mp h
      exact s_for Z.pass C.calm (Sn.i C e1) ((trG_ok n).1 C Z.tg e2) (R.ss C Z e3) (set_fold hs)
  | AugAssign tg o e pos =>
    cases tg with
    | Name x px =>
      replace h : (if isLoc sc x then (slotOf N x).bind fun i => (opB o).bind fun o => (trE π n g N sc e).map fun A => S.aug i o A else none) = some A := h
      split at h <;> try contradiction
      rename_i hl
      obtain ⟨i, e1, h⟩ := Option.bind_eq_some_iff.mp h
      obtain ⟨bo, e2, h⟩ := Option.bind_eq_some_iff.mp h
      obtain ⟨B, e3, rfl⟩ := Option.map_eq_some_iff.mp h
      have hx := Z.tg x hl
      rw [opb_bo e2]
      exact s_aug hN (by rw [C.hN]; exact findIdx_get e1) hx.1 (Sn.e C e3) hx.2
    | Subscript a i p =>
      replace h : (if notSlice i then (opB o).bind fun o => (trE π n g N sc a).bind fun A => (trE π n g N sc i).bind fun I => (trE π n g N sc e).map fun B => S.augi A I o B else none) = some A := h
      split at h <;> try contradiction
      rename_i hs
      obtain ⟨bo, e2, h⟩ := Option.bind_eq_some_iff.mp h
      obtain ⟨A1, e1, h⟩ := Option.bind_eq_some_iff.mp h
      obtain ⟨I1, e4, h⟩ := Option.bind_eq_some_iff.mp h
      obtain ⟨B, e3, rfl⟩ := Option.map_eq_some_iff.mp h
      rw [opb_bo e2]
      exact s_augi (Sn.e C e1) (Sn.e C e4) (Sn.e C e3) (by cases i <;> first | (intro _ _ _; rfl) | cases hs)
    | _ => cases h
  | Assign tgs e pos =>
    match tgs, h with
    | [tg], h => exact snd_asg C Z h
    | [], h => cases h
    | _ :: _ :: _, h => cases h
  | _ => cases h
theorem sndS : ∀ n, SndS π W lv L n
  | 0 => ⟨fun _ _ h => (by cases h), fun _ _ h => (by cases h)⟩
  | n + 1 => let R := sndS n; ⟨snd_s R, snd_ss R⟩
end
end IX
end

section
set_option Elab.async false
set_option autoImplicit false
set_option linter.all false
set_option maxRecDepth 100000
set_option maxHeartbeats 4000000
/-! A def called with less tracked; all defs of a program, by depth. -/
namespace IX
open PySem PySem.Spec PyProof.Rows L2 GX
/-- what is kept -/
def Few (bs : List Addr) (H : Hp) : Hp := fun b => if b ∈ bs then H b else none
def FewOk (bs : List Addr) (H : Hp) : Prop := ∀ b ∈ bs, H b = none ∨ (∃ ps, H b = some (.tbl ps)) ∨ (∃ xs, H b = some (.lst xs)) ∨ ∃ o xs, H b = some (.frz o (.lst xs))
theorem FnOk.few {P : Program} {w : World} {K : PySem.W.Frag} {mg : Str → Option Value} {base : Heap} {k : Nat} {f : Addr} {fd : FuncData} {ps : List Str} {sp sp' : Sp} (F : FnOk P w K mg base CXF k f fd ps sp)
    (h : ∀ vs H Q E, sp' vs H Q E → ∃ bs, FewOk bs H ∧ sp vs (Few bs H) (fun v _ => ∀ H', Q v H') E) : FnOk P w K mg base CXF k f fd ps sp' := by
  refine ⟨fun vs H Q E q => let ⟨bs, _, q⟩ := h vs H Q E q; F.len _ _ _ _ q, fun A outer s H args us vs Q E hr e0 hb hv hs => ?_⟩
  obtain ⟨bs, fo, q⟩ := h vs H Q E hs
  have n0 : ∀ {b}, H b = none → Few bs H b = none := fun {b} e => by
    unfold Few
    split
    · exact e
    · rfl
  have e1 : Env0 P w K mg base A outer s (Few bs H) := by
    refine ⟨e0.frames, e0.mod, fun b o e => ⟨(e0.bs b o e).1, n0 (e0.bs b o e).2⟩, e0.bsz, e0.funs, fun b hb => n0 (e0.frf b hb), fun b u e => ?_, e0.bare⟩
    unfold Few at e
    split at e
    · rename_i hm
      have ok := e0.hok b u e
      rcases fo b hm with z | ⟨ps, z⟩ | ⟨xs, z⟩ | ⟨o, xs, z⟩
      · rw [z] at e; cases e
      · rw [z] at e; cases e; exact ok
      · rw [z] at e; cases e; exact ok
      · rw [z] at e; cases e; exact ok
    · cases e
  refine codeAny_mono (F.run A outer s (Few bs H) args us vs _ E hr e1 hb hv q) fun r s' hq => ?_
  cases r with
  | error e => exact hq
  | ok fl =>
    cases fl with
    | next => exact hq
    | brk => exact hq
    | cont => exact hq
    | ret u =>
      obtain ⟨v, H1, os, bare, un, hok, rv, q1⟩ := hq
      have out : ∀ {b u}, H b = some u → b ∉ bs → H1 b = none ∧ ∀ o, s.heap.get? b = some o → s'.heap.get? b = some o := fun {b u} e hn => by
        have z : Few bs H b = none := if_neg hn
        obtain ⟨o, ho⟩ : ∃ o, s.heap.get? b = some o := by
          cases ho : s.heap.get? b with
          | none => rw [e0.hok.gone ho] at e; cases e
          | some o => exact ⟨o, rfl⟩
        have nf : b ∉ frs outer := fun hf => by rw [e0.frf b hf] at e; cases e
        exact ⟨un.free b o ho z (by simp), fun o' ho' => un.keep b o' ho' z nf (by simp)⟩
      let H2 : Hp := fun b => match H1 b with
        | some u => some u
        | none => if b ∈ bs then none else H b
      have in1 : ∀ {b u}, H1 b = some u → H2 b = some u := fun {b u} e => by show (match H1 b with | some u => some u | none => _) = _; rw [e]
      have in2 : ∀ {b u}, H b = some u → b ∉ bs → H2 b = some u := fun {b u} e hn => by
        show (match H1 b with | some u => some u | none => if b ∈ bs then none else H b) = _
        rw [(out e hn).1]
        exact (if_neg hn).trans e
      have ow : ∀ {b d}, H d = some (.own b) → d ∉ bs := fun {b d} e hm => by
        rcases fo d hm with z | ⟨_, z⟩ | ⟨_, z⟩ | ⟨_, _, z⟩ <;> (rw [z] at e; cases e)
      have tu : ∀ {d xs}, H d = some (.tup xs) → d ∉ bs := fun {d xs} e hm => by
        rcases fo d hm with z | ⟨_, z⟩ | ⟨_, z⟩ | ⟨_, _, z⟩ <;> (rw [z] at e; cases e)
      refine ⟨v, H2, os, bare, ⟨fun b o e n hf hx => un.keep b o e (n0 n) hf hx, fun b o e n hf hx => un.slot b o e (n0 n) hf hx, fun b o e n hx => ?_, un.there, fun b xs e => in2 e (tu e), fun b o u e => ?_, fun b ps e => ?_⟩, fun b u e => ?_, rv, q1 _⟩
      · show (match H1 b with | some u => some u | none => if b ∈ bs then none else H b) = none
        rw [un.free b o e (n0 n) hx, n]
        show (if b ∈ bs then none else none) = none
        split <;> rfl
      · by_cases hm : b ∈ bs
        · exact in1 (un.frzs b o u ((if_pos hm).trans e))
        · exact in2 e hm
      · by_cases hm : b ∈ bs
        · obtain ⟨more, z⟩ := un.tbls b ps ((if_pos hm).trans e)
          exact ⟨more, in1 z⟩
        · exact ⟨#[], by rw [in2 e hm]; simp⟩
      · cases e1 : H1 b with
        | some u' =>
          rw [in1 e1] at e
          cases e
          exact (hok b u e1).stay (fun d v _ q => q) (fun d q => in1 q) fun d xs q => in1 q
        | none =>
          have e : (match H1 b with | some u => some u | none => if b ∈ bs then none else H b) = some u := e
          rw [e1] at e
          have e : (if b ∈ bs then none else H b) = some u := e
          split at e
          · cases e
          · rename_i hm
            refine (e0.hok b u e).stay (fun d v hd q => ?_) (fun d q => in2 q (ow q)) fun d xs q => in2 q (tu q)
            rcases hd with z | z
            · rw [z] at q ⊢; exact (out e hm).2 v q
            · exact (out z (ow z)).2 v q
/-- how its arguments bind, by place -/
def BindAll (fd : FuncData) (ps : List Str) : Prop := ∀ (s : Shared) (us : List Value), us.length = ps.length → BindsTo s fd ⟨us, []⟩ (ps.zip us)
theorem BindAll.binds {K : PySem.W.Frag} {fd : FuncData} {ps : List Str} (b : BindAll fd ps) : Binds K fd ps [] := fun s us _ hl => by
  rw [List.append_nil] at hl ⊢
  exact b s us hl
/-- a def as it stands behind the top, and its translation -/
def DefIn (π : Pg) (Φ : Nat → Option Fn) (K : PySem.W.Frag) (mg : Str → Option Value) (n g : Nat) (x : Str) (i : Nat) (ps : List Str) (kss : List (List Str)) : Prop :=
  ∃ (f : Addr) (oc : Value) (od : Option Addr) (dV kV doc pm : Value) (an : Option Addr) (cdv ct : Value) (osl : Array (Option Value)) (params : Arguments) (body : List Stmt) (scope : Scope) (N : List Str) (c Pt : Addr) (fn : Fn),
    mg x = some (.ref f) ∧ PySem.W.keepIn K (.ref f) = true ∧ K.lookup f = some ⟨oc, od, .func (PySem.W.fnOf x x params body scope dV kV doc pm an cdv ct), osl⟩ ∧ PySem.W.codeIn K cdv x = true ∧ FnScope N ps scope ∧
    cdv = .ref c ∧ PySem.W.codeHdIn K c Pt = true ∧ BindAll (PySem.W.fnOf x x params body scope dV kV doc pm an cdv ct) ps ∧ (∀ ks ∈ kss, KBinds K (PySem.W.fnOf x x params body scope dV kV doc pm an cdv ct) ps ks (gKs ps ks) (gKs ps ks)) ∧
    Φ i = some fn ∧ fn.np = ps.length ∧ fn.ns = N.length ∧ trSs π n g N scope body = some fn.body
theorem all_fns {π : Pg} {Φ : Nat → Option Fn} {P : Program} {w : World} {K : PySem.W.Frag} {mg : Str → Option Value} {base : Heap} {n g L : Nat} (hK : K.In base) (bm : BmAt base mg) (blt : ∀ x ∈ bltN, mg x = none)
    (con : ∀ x p, π.G.lookup x = some p → ∃ u v, mg x = some u ∧ RelV v u ∧ ∀ H, RP K H p v)
    (defs : ∀ x i ps kss, π.F.lookup x = some (i, ps, kss) → DefIn π Φ K mg n g x i ps kss) :
    ∀ k x i ps kss, π.F.lookup x = some (i, ps, kss) → ∃ f fd, mg x = some (.ref f) ∧ PySem.W.keepIn K (.ref f) = true ∧ FnOk P w K mg base CXF ((g + 1) * k) f fd ps (spI K ps.length (evF Φ (Gf π) L k i)) ∧ BindAll fd ps ∧
      (∀ ks ∈ kss, KBinds K fd ps ks (gKs ps ks) (gKs ps ks)) ∧ ∃ oc od osl, K.lookup f = some ⟨oc, od, .func fd, osl⟩
  | 0, x, i, ps, kss, h => by
    obtain ⟨f, oc, od, dV, kV, doc, pm, an, cdv, ct, osl, params, body, scope, N, c, Pt, fn, h1, h2, h3, h4, h5, h6, h7, h8, h9, h10, h11, h12, h13⟩ := defs x i ps kss h
    refine ⟨f, _, h1, h2, ⟨fun vs H Q E q => q.1, fun A outer s H args us vs Q E hr e0 hb hv hs => ?_⟩, h8, h9, _, _, _, h3⟩
    obtain ⟨_, α, ds, M, d, M', _, _, _, _, hw, _⟩ := hs
    cases hw
  | k + 1, x, i, ps, kss, h => by
    obtain ⟨f, oc, od, dV, kV, doc, pm, an, cdv, ct, osl, params, body, scope, N, c, Pt, fn, h1, h2, h3, h4, h5, h6, h7, h8, h9, h10, h11, h12, h13⟩ := defs x i ps kss h
    refine ⟨f, _, h1, h2, ?_, h8, h9, _, _, _, h3⟩
    have ih := all_fns (P := P) (w := w) (L := L) hK bm blt con defs k
    have lev : (g + 1) * (k + 1) = ((g + 1) * k + g) + 1 := by rw [Nat.mul_succ]; omega
    rw [lev]
    refine fn_I h3 h4 h5 hK h6 h7 (fb := evSs (evF Φ (Gf π) L k) (Gf π) L fn.body) (fun ds M d M' hl hw => ?_) fun A outer s H E hr => ?_
    · have hw : ((Φ i).bind fun fn => if ds.length = fn.np then (evSs (evF Φ (Gf π) L k) (Gf π) L fn.body (entry fn ds) M).bind fin else none) = some (d, M') := hw
      rw [h10] at hw
      have hw : (if ds.length = fn.np then (evSs (evF Φ (Gf π) L k) (Gf π) L fn.body (entry fn ds) M).bind fin else none) = some (d, M') := hw
      split at hw <;> try contradiction
      obtain ⟨o, e1, e2⟩ := Option.bind_eq_some_iff.mp hw
      refine ⟨o, ?_, e2⟩
      unfold entry at e1
      rw [h11, h12] at e1
      exact e1
    · refine PSs.nox (sndS (π := π) (W := evF Φ (Gf π) L k) (lv := (g + 1) * k) (L := L) n |>.ss (g := g) (N := N) (sc := scope) ⟨rfl, rfl, h5.nd, hr, rfl, bm, blt, con, fun x i ps kss hx => ?_⟩ ⟨fun x hx => ⟨loc_ok hx, .inl rfl⟩, h5.kind, .never⟩ h13)
      obtain ⟨f, fd, a1, a2, a3, a4, a5, _⟩ := ih x i ps kss hx
      exact ⟨f, fd, a1, a2, a3, a4.binds, a5⟩
end IX
end

section
set_option Elab.async false
set_option autoImplicit false
set_option linter.all false
set_option maxRecDepth 100000
set_option maxHeartbeats 4000000
/-! The end of a law row. -/
namespace IX
open PySem PySem.Spec PyProof.Rows L2 GX
theorem paired_get {A B : Type} {R : A → B → Prop} : ∀ {xs : List A} {ys : List B} {i : Nat}, Paired R xs ys → (xs[i]? = none ∧ ys[i]? = none) ∨ ∃ x y, xs[i]? = some x ∧ ys[i]? = some y ∧ R x y
  | _, _, i, .nil => .inl (by simp)
  | _, _, 0, .cons r _ => .inr ⟨_, _, rfl, rfl, r⟩
  | _, _, i + 1, .cons _ t => by simpa using paired_get (i := i) t
theorem getAll_pair {A B : Type} {R : A → B → Prop} {xs : List A} {ys : List B} (h : Paired R xs ys) : ∀ is : List Nat, (getAll xs is = none ∧ getAll ys is = none) ∨ ∃ us vs, getAll xs is = some us ∧ getAll ys is = some vs ∧ Paired R us vs
  | [] => .inr ⟨[], [], rfl, rfl, .nil⟩
  | i :: is => by
    show ((xs[i]? >>= fun x => getAll xs is >>= fun rs => some (x :: rs)) = none ∧ (ys[i]? >>= fun x => getAll ys is >>= fun rs => some (x :: rs)) = none) ∨ ∃ us vs, (xs[i]? >>= fun x => getAll xs is >>= fun rs => some (x :: rs)) = some us ∧ (ys[i]? >>= fun x => getAll ys is >>= fun rs => some (x :: rs)) = some vs ∧ Paired R us vs
    rcases paired_get (i := i) h with ⟨e1, e2⟩ | ⟨x, y, e1, e2, r⟩
    · rw [e1, e2]; exact .inl ⟨rfl, rfl⟩
    · rw [e1, e2]
      rcases getAll_pair h is with ⟨e3, e4⟩ | ⟨us, vs, e3, e4, p⟩
      · rw [e3, e4]; exact .inl ⟨rfl, rfl⟩
      · rw [e3, e4]; exact .inr ⟨x :: us, y :: vs, rfl, rfl, .cons r p⟩
theorem gKs_rel {ps ks : List Str} {vs zs : List V} {us ws : List Value} (h : Vals vs us) (h2 : Vals zs ws) : Vals (gKs ps ks vs zs) (gKs ps ks us ws) := by
  cases h with
  | nil =>
    show Vals ((getAll zs (ixOf ps ks)).getD []) ((getAll ws (ixOf ps ks)).getD [])
    rcases getAll_pair h2 (ixOf ps ks) with ⟨e1, e2⟩ | ⟨us, vs, e1, e2, p⟩
    · rw [e1, e2]; exact .nil
    · rw [e1, e2]; exact p
  | cons _ _ => exact .nil
/-- a def of the text, told by the head -/
theorem def_in {π : Pg} {Φ : Nat → Option Fn} {K : PySem.W.Frag} {mg : Str → Option Value} {n g : Nat} {x : Str} {i : Nat} {ps : List Str} {kss : List (List Str)} {params : Arguments} {body : List Stmt} {scope : Scope} {fd : FuncData} {N : List Str} {fn : Fn}
    (F : FunD K x x params body scope [] [] (He.fAd K (x, none)) fd) (hm : mg x = some (.ref (He.ga K x))) (hct : PySem.W.codeHdIn K (He.cT K (x, none)).1 (He.cT K (x, none)).2 = true) (S : FnScope N ps scope) (hps : ps ≠ [])
    (hb : ∀ (kV doc pm : Value) (an : Option Addr) (cdv ct : Value) (us : List Value), us.length = ps.length → bindArgs (PySem.W.fnOf x x params body scope .none kV doc pm an cdv ct) ⟨us, []⟩ = pure (ps.zip us))
    (hkb : ∀ ks ∈ kss, ∀ (kV doc pm : Value) (an : Option Addr) (cdv ct : Value) (ws : List Value), (gKs ps ks [] ws).length = ps.length → bindArgs (PySem.W.fnOf x x params body scope .none kV doc pm an cdv ct) ⟨[], ks.zip ws⟩ = pure (ps.zip (gKs ps ks [] ws)))
    (h1 : Φ i = some fn) (h2 : fn.np = ps.length) (h3 : fn.ns = N.length) (h4 : trSs π n g N scope body = some fn.body) : DefIn π Φ K mg n g x i ps kss := by
  obtain ⟨oc, od, dV, kV, doc, pm, an, cdv, ct, osl, rfl, lk, hcd, hD, _⟩ := F.ex
  have hdV : dV = .none := by
    rcases hD with ⟨_, e⟩ | ⟨e, _⟩
    · exact e
    · exact absurd rfl e
  subst hdV
  obtain ⟨c, rfl⟩ := He.codeIn_ref hcd
  have hc : He.codeOf K (x, none) = c := He.codeOf_eq lk rfl
  have hct : PySem.W.codeHdIn K (He.codeOf K (x, none)) (He.tabOf K (He.codeOf K (x, none))) = true := hct
  rw [hc] at hct
  refine ⟨_, oc, od, .none, kV, doc, pm, an, .ref c, ct, osl, params, body, scope, N, c, _, fn, hm, F.kp, lk, hcd, S, rfl, hct, fun s us hl => .of_eq (hb kV doc pm an _ ct us hl), fun ks hks => ⟨fun s us ws _ hl => ?_, fun a b => gKs_rel a b⟩, h1, h2, h3, h4⟩
  cases us with
  | nil => exact .of_eq (hkb ks hks kV doc pm an _ ct ws hl)
  | cons u us =>
    have hl : 0 = ps.length := hl
    exact absurd (List.length_eq_zero_iff.mp hl.symm) hps
/-- every code object with a table is one of tf -/
def exT (tf : List He.Defn) (K : PySem.W.Frag) : Bool := K.all fun q => !(PySem.W.codeHdIn K q.1 (He.tabOf K q.1)) || tf.any fun p => decide (He.codeOf K p = q.1)
theorem codeHd_tab {K : PySem.W.Frag} {c Pt : Addr} (h : PySem.W.codeHdIn K c Pt = true) : He.tabOf K c = Pt ∧ ∃ o, K.lookup c = some o := by
  unfold PySem.W.codeHdIn at h
  split at h
  · rename_i vs sl hk
    simp only [Bool.and_eq_true] at h
    obtain ⟨⟨⟨⟨⟨h1, _⟩, _⟩, _⟩, _⟩, _⟩ := h
    split at h1
    · rename_i P' h11
      have hP : P' = Pt := beq_iff_eq.mp h1
      subst hP
      refine ⟨?_, _, hk⟩
      unfold He.tabOf
      rw [hk]
      show (match vs.getD 11 Value.none with | .ref P => P | _ => 0) = _
      rw [Array.getD_eq_getD_getElem?, h11]
      rfl
    · cases h1
  · cases h
theorem ex_trk {tf : List He.Defn} {K : PySem.W.Frag} (h : exT tf K = true) {c Pt : Addr} (hc : PySem.W.codeHdIn K c Pt = true) : ∃ p ∈ tf, (He.cT K p).2 = Pt := by
  obtain ⟨ht, o, hk⟩ := codeHd_tab hc
  have := List.all_eq_true.mp h (c, o) (He.lookup_mem hk)
  simp only [ht, hc, Bool.not_true, Bool.false_or, List.any_eq_true, decide_eq_true_eq] at this
  obtain ⟨p, hp, e⟩ := this
  exact ⟨p, hp, by show He.tabOf K (He.codeOf K p) = Pt; rw [e]; exact ht⟩
theorem rps_ints {K : PySem.W.Frag} {H : Hp} : ∀ ns : List Int, RPs K H (ns.map P.int) (ns.map V.int)
  | [] => by unfold RPs; trivial
  | i :: ns => by
    show RPs K H (_ :: _) (_ :: _)
    unfold RPs
    exact ⟨by unfold RP; rfl, rps_ints ns⟩
theorem lookup_in {A : Type} {x : Str} {y : A} : ∀ {l : List (Str × A)}, l.lookup x = some y → (x, y) ∈ l
  | [], h => by simp at h
  | (a, b) :: l, h => by
    rw [List.lookup_cons] at h
    split at h
    · rename_i e
      cases h
      rw [beq_iff_eq.mp e]
      exact List.mem_cons_self
    · exact List.mem_cons_of_mem _ (lookup_in h)
/-- the law's end -/
theorem law_at {l : PySem.W.OpenLaw} {w : World} {K : PySem.W.Frag} {mg : Str → Option Value} {fa : Addr} {h : Heap} {π : Pg} {Φ : Nat → Option Fn} {n g L k most i : Nat} {fs : List He.Fa} {fn : List He.DefD} {ts : List He.Tab} {tf : List He.Defn} {ex : PySem.W.Frag → Bool}
    (KX : K.In h) (c : He.SaysX fs fn ts tf ex w h K) (hex : exT tf K = true) (hmg : mg ("law" : Str) = some (.ref fa)) (htf : tf ≠ [])
    (blt : ∀ x ∈ bltN, mg x = none) (con : ∀ x p, π.G.lookup x = some p → ∃ u v, mg x = some u ∧ RelV v u ∧ ∀ H, RP K H p v)
    (defs : ∀ x i ps kss, π.F.lookup x = some (i, ps, kss) → DefIn π Φ K mg n g x i ps kss) {kss : List (List Str)} (hlaw : π.F.lookup ("law" : Str) = some (i, [("script" : Str)], kss))
    (run : ∀ ns : List Int, ns.length ≤ most → (∀ z ∈ ns, Builtin.Int.intBits z ≤ 1048576) → ∃ M', evF Φ (Gf π) L k i [.scr (ns.map P.int)] [] = some (.p (.bl true), M')) :
    LamX.LawAtS l w K CXF ((g + 1) * k) most "script" mg fa h := by
  obtain ⟨f0, oc, od, dV, kV, doc, pm, an, cdv, ct, osl, params, body, scope, N, cc, Pt, fn0, h1, h2, h3, h4, h5, h6, h7, h8, h9, h10⟩ := defs _ _ _ _ hlaw
  have e0 : f0 = fa := by rw [hmg] at h1; cases h1; rfl
  subst e0
  refine ⟨PySem.W.fnOf "law" "law" params body scope dV kV doc pm an cdv ct, tf.map (He.cT K), fun vs H Q E => ∃ bs, FewOk bs H ∧ spI K 1 (evF Φ (Gf π) L k i) vs (Few bs H) (fun v _ => ∀ H', Q v H') E, ?_, ?_, ?_, fun s u => h8 s [u] rfl, ?_, ?_⟩
  · intro p hp
    obtain ⟨q, hq, rfl⟩ := List.mem_map.mp hp
    exact c.empty q hq
  · intro p hp
    obtain ⟨q, hq, rfl⟩ := List.mem_map.mp hp
    exact c.out q hq
  · intro p hp
    obtain ⟨q, hq, rfl⟩ := List.mem_map.mp hp
    exact PySem.W.codeHd_of_K KX (c.hd q hq)
  · intro H a ns hl hbits hT hS
    obtain ⟨M', hrun⟩ := run ns hl hbits
    have inT : ∀ {b}, b ∈ (tf.map (He.cT K)).map (·.2) → H b = some (.tbl #[]) := fun {b} hb => by
      obtain ⟨p, hp, rfl⟩ := List.mem_map.mp hb
      exact hT p hp
    have main : ∀ bs : List Addr, (∀ b ∈ (tf.map (He.cT K)).map (·.2), b ∈ bs) → (∀ b ∈ bs, b ∈ (tf.map (He.cT K)).map (·.2) ∨ (∃ xs, H b = some (.lst xs)) ∨ ∃ o xs, H b = some (.frz o (.lst xs))) →
        ((Rd (Few bs H) a (.lst (ns.map V.int)) ∧ a ∉ ([] : List Addr)) ∨ SqL K (fun _ => none) a (ns.map V.int)) →
        ∃ bs, FewOk bs H ∧ spI K 1 (evF Φ (Gf π) L k i) [.ref a] (Few bs H) (fun v _ => ∀ _ : Hp, v = .bl true) fun _ _ _ => False := fun bs hi ho hs => by
      refine ⟨bs, fun b hb => ?_, rfl, [], [.scr (ns.map P.int)], [], _, _, ⟨List.nodup_nil, rfl, fun i a xs e => by simp at e⟩, fun Pt ps e => ?_, fun cd Pt hc => ?_, ⟨⟨a, _, rfl, hs, rps_ints ns⟩, trivial⟩, hrun, fun v H' α' _ rd _ => rd⟩
      · rcases ho b hb with z | ⟨xs, z⟩ | ⟨o, xs, z⟩
        · exact .inr (.inl ⟨_, inT z⟩)
        · exact .inr (.inr (.inl ⟨xs, z⟩))
        · exact .inr (.inr (.inr ⟨o, xs, z⟩))
      · have e : (if Pt ∈ bs then H Pt else none) = some (.tbl ps) := e
        split at e
        · rename_i hm
          rcases ho Pt hm with z | ⟨xs, z⟩ | ⟨o, xs, z⟩
          · rw [inT z] at e
            cases e
            exact ⟨(show TriplesOk [] from trivial), fun pos cv z => by cases z⟩
          · rw [z] at e; cases e
          · rw [z] at e; cases e
        · cases e
      · obtain ⟨p, hp, rfl⟩ := ex_trk hex hc
        have hm : (He.cT K p).2 ∈ (tf.map (He.cT K)).map (·.2) := List.mem_map.mpr ⟨_, List.mem_map.mpr ⟨p, hp, rfl⟩, rfl⟩
        exact ⟨#[], (if_pos (hi _ hm)).trans (inT hm)⟩
    rcases hS with hS | hS
    · refine main ((tf.map (He.cT K)).map (·.2) ++ [a]) (fun b hb => List.mem_append_left _ hb) (fun b hb => ?_) (.inl ⟨?_, by simp⟩)
      · rcases List.mem_append.mp hb with z | z
        · exact .inl z
        · rw [List.mem_singleton.mp z]
          rcases hS with z | ⟨o, z⟩
          · exact .inr (.inl ⟨_, z⟩)
          · exact .inr (.inr ⟨o, _, z⟩)
      · rcases hS with z | ⟨o, z⟩
        · exact .inl ((if_pos (by simp)).trans z)
        · exact .inr ⟨o, (if_pos (by simp)).trans z⟩
    · exact main ((tf.map (He.cT K)).map (·.2)) (fun b hb => hb) (fun b hb => .inl hb) (.inr (.inr hS))
  · intro base hKb hns hTB
    have bm : BmAt base mg := by
      obtain ⟨p, hp⟩ := List.exists_mem_of_ne_nil tf htf
      obtain ⟨bm, o, b1, b2, b3, b4, b5, b6, b7, b8⟩ := (hTB _ (List.mem_map.mpr ⟨p, hp, rfl⟩)).bm
      exact ⟨bm, o, b1, b2, b5, b6, b7, b8⟩
    obtain ⟨f, fd, a1, a2, a3, a4, a5, oc2, od2, osl2, a6⟩ := all_fns (P := l.prog) (w := w) (L := L) hKb bm blt con defs k _ _ _ _ hlaw
    rw [hmg] at a1
    cases a1
    rw [h3] at a6
    cases a6
    exact FnOk.few a3 fun vs H Q E q => q
end IX
end

section
set_option Elab.async false
set_option autoImplicit false
set_option linter.all false
set_option maxRecDepth 100000
set_option maxHeartbeats 0
namespace K16
open PySem PySem.Spec PyProof.Rows L2 GX IX
abbrev top (i : Nat) : Stmt := PySem.Challenge.pw_gladlydone_k16_cells_told_worse.main.body.getD i (.Pass ⟨0, 0, 0, 0⟩)
def F_common : Fn := ⟨2, 2,
  [.par [0, 1] [(.bi .abs [(.v 0)]), (.bi .abs [(.v 1)])],
   .whl (.tru (.v 1))
      [.par [0, 1] [(.v 1), (.bin .mod (.v 0) (.v 1))]],
   .ret (.v 0)]⟩
def N_common : List Str := ["one", "other"]
def F_ratio : Fn := ⟨2, 3,
  [.set (.nm 2) (.call 0 [(.v 0), (.v 1)] [0, 1]),
   .ife (.cmp .lt (.v 1) (.c (.int 0)))
      [.set (.nm 2) (.neg (.v 2))]
      [],
   .ret (.tup [(.bin .fdiv (.v 0) (.v 2)), (.bin .fdiv (.v 1) (.v 2))])]⟩
def N_ratio : List Str := ["top", "bottom", "shared"]
def F_bottom_of : Fn := ⟨1, 3,
  [.set (.nm 1) (.c (.int 1)),
   .loop (.nm 2) .seq [(.v 0)]
      [.ife (.tru (.bin .mod (.v 1) (.idx (.v 2) (.c (.int 1)))))
          [.set (.nm 1) (.bin .mul (.bin .fdiv (.v 1) (.call 0 [(.v 1), (.idx (.v 2) (.c (.int 1)))] [0, 1])) (.idx (.v 2) (.c (.int 1))))]
          []],
   .ret (.v 1)]⟩
def N_bottom_of : List Str := ["row", "bottom", "part"]
def F_tops_over : Fn := ⟨2, 3,
  [.ret (.gen .tuple [2] (.bin .mul (.idx (.v 2) (.c (.int 0))) (.bin .fdiv (.v 1) (.idx (.v 2) (.c (.int 1))))) (.nm 2) .seq [(.v 0)] [])]⟩
def N_tops_over : List Str := ["row", "bottom", "part"]
def F_wholes : Fn := ⟨1, 2,
  [.set (.nm 1) (.call 2 [(.v 0)] [0]),
   .ret (.tup [(.call 3 [(.v 0), (.v 1)] [0, 1]), (.v 1)])]⟩
def N_wholes : List Str := ["row", "bottom"]
def F_fractions_of : Fn := ⟨2, 3,
  [.ret (.gen .tuple [2] (.call 1 [(.v 2), (.v 1)] [0, 1]) (.nm 2) .seq [(.v 0)] [])]⟩
def N_fractions_of : List Str := ["tops", "bottom", "top"]
def F_raw_dot : Fn := ⟨2, 8,
  [.set (.tp [(.nm 2), (.nm 3)]) (.call 4 [(.v 0)] [0]),
   .set (.tp [(.nm 4), (.nm 5)]) (.call 4 [(.v 1)] [0]),
   .ret (.tup [(.gen .sum [6, 7] (.bin .mul (.v 6) (.v 7)) (.tp [(.nm 6), (.nm 7)]) .zip [(.v 2), (.v 4)] []), (.bin .mul (.v 3) (.v 5))])]⟩
def N_raw_dot : List Str := ["row", "other", "tops", "bottom", "others", "low", "one", "two"]
def F_dot : Fn := ⟨2, 4,
  [.set (.tp [(.nm 2), (.nm 3)]) (.call 6 [(.v 0), (.v 1)] [0, 1]),
   .ret (.call 1 [(.v 2), (.v 3)] [0, 1])]⟩
def N_dot : List Str := ["row", "other", "top", "bottom"]
def F_unit : Fn := ⟨2, 3,
  [.ret (.gen .tuple [2] (.ife (.cmp .eq (.v 2) (.v 1)) (.g "ONE") (.g "ZERO")) (.nm 2) .rng [(.v 0)] [])]⟩
def N_unit : List Str := ["many", "place", "at"]
def F_mixed : Fn := ⟨3, 12,
  [.set (.tp [(.nm 3), (.nm 4)]) (.call 4 [(.v 0)] [0]),
   .set (.nm 7) (.call 2 [(.lc2 [5, 6] (.v 6) (.nm 5) .seq [(.v 1)] [] [6] (.nm 6) .seq [(.v 5)] [])] [0]),
   .set (.nm 8) (.bin .mul (.lst [(.c (.int 0))]) (.v 2)),
   .loop (.tp [(.nm 9), (.nm 5)]) .zip [(.v 3), (.v 1)]
      [.ife (.tru (.v 9))
          [.loop (.tp [(.nm 10), (.nm 11)]) .enm [(.call 3 [(.v 5), (.v 7)] [0, 1])]
              [.augi (.v 8) (.v 10) .add (.bin .mul (.v 9) (.v 11))]]
          []],
   .ret (.call 5 [(.v 8), (.bin .mul (.v 4) (.v 7))] [0, 1])]⟩
def N_mixed : List Str := ["weights", "rows", "many", "tops", "bottom", "row", "part", "low", "sums", "top", "at", "number"]
def F_worse_seen : Fn := ⟨2, 6,
  [.set (.nm 2) (.bi .len [(.idx (.v 1) (.c (.int 0)))]),
   .ret (.gen .tuple [5] (.gen .tuple [3, 4] (.tup [(.call 9 [(.v 3), (.v 1), (.v 2)] [0, 1, 2]), (.v 4)]) (.tp [(.nm 3), (.nm 4)]) .seq [(.v 5)] []) (.nm 5) .seq [(.v 0)] [])]⟩
def N_worse_seen : List Str := ["asks", "table", "many", "change", "saved", "pairs"]
def F_pays_back : Fn := ⟨2, 4,
  [.ret (.gen .tuple [3] (.gen .tuple [2] (.call 7 [(.v 2), (.v 3)] [0, 1]) (.nm 2) .seq [(.v 1)] []) (.nm 3) .seq [(.v 0)] [])]⟩
def N_pays_back : List Str := ["pays", "table", "row", "paid"]
def F_joined_cells : Fn := ⟨2, 4,
  [.set (.nm 2) (.bin .add (.bi .max [(.v 1)]) (.c (.int 1))),
   .ret (.call 10 [(.v 0), (.gen .tuple [3] (.call 8 [(.v 2), (.v 3)] [0, 1]) (.nm 3) .seq [(.v 1)] [])] [0, 1])]⟩
def N_joined_cells : List Str := ["asks", "cells", "many", "cell"]
def F__law_pool : Fn := ⟨1, 1,
  [.ret (.bin .add (.lst [(.c (.int 0)), (.c (.int 7)), (.c (.int 3))]) (.bi .list [(.v 0)]))]⟩
def N__law_pool : List Str := ["script"]
def F__law_draw : Fn := ⟨2, 5,
  [.ife (.and [(.cmp .eq (.idx (.v 0) (.c (.int 0))) (.c (.int 0))), (.cmp .lt (.idx (.v 0) (.c (.int 2))) (.bi .len [(.v 0)]))])
      [.set (.nm 2) (.idx (.v 0) (.idx (.v 0) (.c (.int 2)))),
       .seti (.v 0) (.c (.int 2)) (.bin .add (.idx (.v 0) (.c (.int 2))) (.c (.int 1))),
       .seti (.v 0) (.c (.int 1)) (.bin .mod (.bi .int [(.bin .add (.bin .mul (.idx (.v 0) (.c (.int 1))) (.c (.int 31))) (.v 2))]) (.c (.int 2147483647))),
       .ife (.cmp .ge (.bi .abs [(.v 2)]) (.bin .pow (.c (.int 10)) (.c (.int 18))))
          [.seti (.v 0) (.c (.int 0)) (.bi .abs [(.v 2)])]
          []]
      [],
   .ife (.cmp .gt (.idx (.v 0) (.c (.int 0))) (.c (.int 0)))
      [.set (.nm 3) (.bin .mod (.bi .int [(.idx (.v 0) (.c (.int 0)))]) (.v 1)),
       .seti (.v 0) (.c (.int 0)) (.bin .fdiv (.idx (.v 0) (.c (.int 0))) (.v 1)),
       .ret (.v 3)]
      [],
   .seti (.v 0) (.c (.int 1)) (.bin .mod (.bi .int [(.bin .add (.bin .mul (.idx (.v 0) (.c (.int 1))) (.c (.int 48271))) (.c (.int 12345)))]) (.c (.int 2147483647))),
   .set (.nm 4) (.bin .mod (.bi .int [(.bin .add (.bin .add (.bin .mul (.idx (.v 0) (.c (.int 1))) (.c (.int 69621))) (.bin .fdiv (.idx (.v 0) (.c (.int 1))) (.c (.int 65536)))) (.c (.int 17)))]) (.c (.int 2147483629))),
   .ret (.bin .mod (.bi .int [(.bin .fdiv (.v 4) (.c (.int 16)))]) (.v 1))]⟩
def N__law_draw : List Str := ["pool", "many", "cell", "digit", "mixed_v"]
def F__law_so : Fn := ⟨2, 3,
  [.ife (.cmp .is (.v 1) (.c (.non)))
      [.ret (.cmp .is (.v 0) (.c (.non)))]
      [],
   .ife (.tru (.bi .istup [(.v 1)]))
      [.ife (.or [(.not (.tru (.bi .istup [(.v 0)]))), (.cmp .ne (.bi .len [(.v 0)]) (.bi .len [(.v 1)]))])
          [.ret (.c (.bl false))]
          [],
       .loop (.nm 2) .rng [(.bi .len [(.v 1)])]
          [.ife (.not (.tru (.call 15 [(.idx (.v 0) (.v 2)), (.idx (.v 1) (.v 2))] [0, 1])))
              [.ret (.c (.bl false))]
              []],
       .ret (.c (.bl true))]
      [],
   .ife (.or [(.tru (.bi .isbool [(.v 1)])), (.tru (.bi .isbool [(.v 0)]))])
      [.ret (.and [(.bi .isbool [(.v 1)]), (.bi .isbool [(.v 0)]), (.cmp .eq (.v 0) (.v 1))])]
      [],
   .ife (.tru (.bi .isint [(.v 1)]))
      [.ret (.and [(.bi .isint [(.v 0)]), (.cmp .eq (.v 0) (.v 1))])]
      [],
   .ret (.and [(.bi .isstr [(.v 0)]), (.cmp .eq (.v 0) (.v 1))])]⟩
def N__law_so : List Str := ["found", "meant", "k"]
def F__law_frac : Fn := ⟨2, 4,
  [.par [2, 3] [(.bi .abs [(.v 0)]), (.bi .abs [(.v 1)])],
   .whl (.cmp .gt (.v 3) (.c (.int 0)))
      [.par [2, 3] [(.v 3), (.bin .mod (.bi .int [(.v 2)]) (.v 3))]],
   .ret (.tup [(.bin .fdiv (.v 0) (.v 2)), (.bin .fdiv (.v 1) (.v 2))])]⟩
def N__law_frac : List Str := ["top", "bottom", "a", "b"]
def F__law_plus : Fn := ⟨2, 2,
  [.ret (.call 16 [(.bin .add (.bin .mul (.idx (.v 0) (.c (.int 0))) (.idx (.v 1) (.c (.int 1)))) (.bin .mul (.idx (.v 1) (.c (.int 0))) (.idx (.v 0) (.c (.int 1))))), (.bin .mul (.idx (.v 0) (.c (.int 1))) (.idx (.v 1) (.c (.int 1))))] [0, 1])]⟩
def N__law_plus : List Str := ["a", "b"]
def F__law_minus : Fn := ⟨2, 2,
  [.ret (.call 16 [(.bin .sub (.bin .mul (.idx (.v 0) (.c (.int 0))) (.idx (.v 1) (.c (.int 1)))) (.bin .mul (.idx (.v 1) (.c (.int 0))) (.idx (.v 0) (.c (.int 1))))), (.bin .mul (.idx (.v 0) (.c (.int 1))) (.idx (.v 1) (.c (.int 1))))] [0, 1])]⟩
def N__law_minus : List Str := ["a", "b"]
def F__law_times : Fn := ⟨2, 2,
  [.ret (.call 16 [(.bin .mul (.idx (.v 0) (.c (.int 0))) (.idx (.v 1) (.c (.int 0)))), (.bin .mul (.idx (.v 0) (.c (.int 1))) (.idx (.v 1) (.c (.int 1))))] [0, 1])]⟩
def N__law_times : List Str := ["a", "b"]
def F__law_sum : Fn := ⟨1, 3,
  [.set (.nm 1) (.tup [(.c (.int 0)), (.c (.int 1))]),
   .loop (.nm 2) .seq [(.v 0)]
      [.set (.nm 1) (.call 17 [(.v 1), (.v 2)] [0, 1])],
   .ret (.v 1)]⟩
def N__law_sum : List Str := ["fractions", "whole", "one"]
def F__law_dot : Fn := ⟨2, 3,
  [.ret (.call 20 [(.lc [2] (.call 19 [(.idx (.v 0) (.v 2)), (.idx (.v 1) (.v 2))] [0, 1]) (.nm 2) .rng [(.bi .len [(.v 0)])] [])] [0])]⟩
def N__law_dot : List Str := ["one", "other", "k"]
def F__law_small : Fn := ⟨1, 1,
  [.ret (.idx (.lst [(.tup [(.c (.int 0)), (.c (.int 1))]), (.tup [(.c (.int 0)), (.c (.int 1))]), (.tup [(.c (.int 1)), (.c (.int 1))]), (.tup [(.neg (.c (.int 1))), (.c (.int 1))]), (.tup [(.c (.int 1)), (.c (.int 2))]), (.tup [(.neg (.c (.int 1))), (.c (.int 2))]), (.tup [(.c (.int 2)), (.c (.int 1))]), (.tup [(.c (.int 1)), (.c (.int 3))]), (.tup [(.neg (.c (.int 2))), (.c (.int 3))]), (.tup [(.c (.int 3)), (.c (.int 1))])]) (.call 14 [(.v 0), (.c (.int 10))] [0, 1]))]⟩
def N__law_small : List Str := ["pool"]
def F__law_slack : Fn := ⟨1, 1,
  [.ret (.idx (.lst [(.tup [(.c (.int 0)), (.c (.int 1))]), (.tup [(.c (.int 0)), (.c (.int 1))]), (.tup [(.c (.int 1)), (.c (.int 1))]), (.tup [(.c (.int 1)), (.c (.int 2))]), (.tup [(.c (.int 3)), (.c (.int 1))])]) (.call 14 [(.v 0), (.c (.int 5))] [0, 1]))]⟩
def N__law_slack : List Str := ["pool"]
def F__law_row : Fn := ⟨2, 3,
  [.ret (.bi .tuple [(.lc [2] (.call 22 [(.v 0)] [0]) (.nm 2) .rng [(.v 1)] [])])]⟩
def N__law_row : List Str := ["pool", "cells", "k"]
def F__law_pairs : Fn := ⟨3, 6,
  [.set (.nm 3) (.lst []),
   .loop (.nm 4) .rng [(.v 2)]
      [.set (.nm 5) (.call 24 [(.v 0), (.bi .len [(.v 1)])] [0, 1]),
       .ex (.mt .append (.v 3) [(.tup [(.v 5), (.call 18 [(.call 21 [(.v 5), (.v 1)] [0, 1]), (.call 23 [(.v 0)] [0])] [0, 1])])])],
   .ret (.bi .tuple [(.v 3)])]⟩
def N__law_pairs : List Str := ["pool", "pays", "many", "found", "k", "change"]
def F__law_shares : Fn := ⟨2, 7,
  [.set (.nm 2) (.idx (.lst [(.c (.int 1)), (.c (.int 2)), (.c (.int 3)), (.c (.int 4)), (.c (.int 6))]) (.call 14 [(.v 0), (.c (.int 5))] [0, 1])),
   .set (.nm 3) (.bin .mul (.lst [(.c (.int 0))]) (.v 1)),
   .loop (.nm 4) .rng [(.v 2)]
      [.set (.nm 5) (.call 14 [(.v 0), (.v 1)] [0, 1]),
       .seti (.v 3) (.v 5) (.bin .add (.idx (.v 3) (.v 5)) (.c (.int 1)))],
   .ret (.bi .tuple [(.lc [6] (.call 16 [(.v 6), (.v 2)] [0, 1]) (.nm 6) .seq [(.v 3)] [])])]⟩
def N__law_shares : List Str := ["pool", "many", "whole", "parts", "k", "at", "part"]
def F__law_worse : Fn := ⟨2, 9,
  [.set (.nm 2) (.lst []),
   .loop (.nm 3) .seq [(.v 0)]
      [.set (.nm 4) (.lst []),
       .loop (.tp [(.nm 5), (.nm 6)]) .seq [(.v 3)]
          [.ex (.mt .append (.v 4) [(.tup [(.bi .tuple [(.lc [8] (.call 21 [(.v 5), (.lc [7] (.idx (.v 7) (.v 8)) (.nm 7) .seq [(.v 1)] [])] [0, 1]) (.nm 8) .rng [(.bi .len [(.idx (.v 1) (.c (.int 0)))])] [])]), (.v 6)])])],
       .ex (.mt .append (.v 2) [(.bi .tuple [(.v 4)])])],
   .ret (.bi .tuple [(.v 2)])]⟩
def N__law_worse : List Str := ["asks", "table", "found", "row", "more", "change", "saved", "cell", "n"]
def F__law_back : Fn := ⟨2, 4,
  [.ret (.bi .tuple [(.lc [3] (.bi .tuple [(.lc [2] (.call 21 [(.v 2), (.v 3)] [0, 1]) (.nm 2) .seq [(.v 1)] [])]) (.nm 3) .seq [(.v 0)] [])])]⟩
def N__law_back : List Str := ["pays", "table", "cell", "row"]
def F_law : Fn := ⟨1, 15,
  [.set (.nm 1) (.call 13 [(.v 0)] [0]),
   .loop (.nm 2) .rng [(.c (.int 4))]
      [.set (.tp [(.nm 3), (.nm 4), (.nm 5)]) (.tup [(.bin .add (.c (.int 1)) (.call 14 [(.v 1), (.c (.int 3))] [0, 1])), (.bin .add (.c (.int 1)) (.call 14 [(.v 1), (.c (.int 6))] [0, 1])), (.bin .add (.c (.int 1)) (.call 14 [(.v 1), (.c (.int 7))] [0, 1]))]),
       .set (.nm 7) (.bi .tuple [(.lc [6] (.call 25 [(.v 1), (.call 24 [(.v 1), (.v 4)] [0, 1]), (.call 14 [(.v 1), (.c (.int 5))] [0, 1])] [0, 1, 2]) (.nm 6) .rng [(.v 3)] [])]),
       .set (.nm 9) (.bi .tuple [(.lc [8] (.call 26 [(.v 1), (.v 5)] [0, 1]) (.nm 8) .rng [(.v 4)] [])]),
       .set (.nm 10) (.ife (.cmp .gt (.v 2) (.c (.int 0))) (.call 10 [(.v 7), (.v 9)] [0, 1]) (.call 10 [(.v 9), (.v 7)] [1, 0])),
       .ife (.not (.tru (.call 15 [(.v 10), (.call 27 [(.v 7), (.v 9)] [0, 1])] [0, 1])))
          [.ret (.c (.bl false))]
          [],
       .set (.nm 11) (.bi .tuple [(.lc [6] (.call 24 [(.v 1), (.v 5)] [0, 1]) (.nm 6) .rng [(.v 3)] [])]),
       .set (.nm 10) (.ife (.cmp .gt (.v 2) (.c (.int 0))) (.call 11 [(.v 11), (.v 9)] [0, 1]) (.call 11 [(.v 9), (.v 11)] [1, 0])),
       .ife (.not (.tru (.call 15 [(.v 10), (.call 28 [(.v 11), (.v 9)] [0, 1])] [0, 1])))
          [.ret (.c (.bl false))]
          [],
       .set (.nm 12) (.lst []),
       .loop (.nm 8) .rng [(.v 4)]
          [.ex (.mt .append (.v 12) [(.call 14 [(.v 1), (.ife (.cmp .ne (.v 12) (.lst [])) (.bin .add (.bi .max [(.v 12)]) (.c (.int 2))) (.c (.int 1)))] [0, 1])])],
       .set (.nm 14) (.bi .tuple [(.lc [8] (.bi .tuple [(.lc [13] (.tup [(.bi .int [(.cmp .eq (.idx (.v 12) (.v 8)) (.v 13))]), (.c (.int 1))]) (.nm 13) .rng [(.bin .add (.bi .max [(.v 12)]) (.c (.int 1)))] [])]) (.nm 8) .rng [(.v 4)] [])]),
       .set (.nm 10) (.ife (.cmp .gt (.v 2) (.c (.int 0))) (.call 12 [(.v 7), (.bi .tuple [(.v 12)])] [0, 1]) (.call 12 [(.bi .tuple [(.v 12)]), (.v 7)] [1, 0])),
       .ife (.or [(.not (.tru (.call 15 [(.v 10), (.call 27 [(.v 7), (.v 14)] [0, 1])] [0, 1]))), (.not (.tru (.call 15 [(.call 10 [(.v 7), (.v 14)] [0, 1]), (.call 27 [(.v 7), (.v 14)] [0, 1])] [0, 1])))])
          [.ret (.c (.bl false))]
          []],
   .ret (.c (.bl true))]⟩
def N_law : List Str := ["script", "pool", "again", "workers", "cells", "new", "w", "asks", "c", "table", "told", "pays", "joining", "n", "joins"]
def fns : List Fn := [F_common, F_ratio, F_bottom_of, F_tops_over, F_wholes, F_fractions_of, F_raw_dot, F_dot, F_unit, F_mixed, F_worse_seen, F_pays_back, F_joined_cells, F__law_pool, F__law_draw, F__law_so, F__law_frac, F__law_plus, F__law_minus, F__law_times, F__law_sum, F__law_dot, F__law_small, F__law_slack, F__law_row, F__law_pairs, F__law_shares, F__law_worse, F__law_back, F_law]
def tab (n : Nat) : Option Fn := fns[n]?
def pg : Pg := ⟨[("ZERO", .tup [.int 0, .int 1]), ("ONE", .tup [.int 1, .int 1])],
  [("common", (0, ["one", "other"], [])),
   ("ratio", (1, ["top", "bottom"], [])),
   ("bottom_of", (2, ["row"], [])),
   ("tops_over", (3, ["row", "bottom"], [])),
   ("wholes", (4, ["row"], [])),
   ("fractions_of", (5, ["tops", "bottom"], [])),
   ("raw_dot", (6, ["row", "other"], [])),
   ("dot", (7, ["row", "other"], [])),
   ("unit", (8, ["many", "place"], [])),
   ("mixed", (9, ["weights", "rows", "many"], [])),
   ("worse_seen", (10, ["asks", "table"], [["table", "asks"]])),
   ("pays_back", (11, ["pays", "table"], [["table", "pays"]])),
   ("joined_cells", (12, ["asks", "cells"], [["cells", "asks"]])),
   ("_law_pool", (13, ["script"], [])),
   ("_law_draw", (14, ["pool", "many"], [])),
   ("_law_so", (15, ["found", "meant"], [])),
   ("_law_frac", (16, ["top", "bottom"], [])),
   ("_law_plus", (17, ["a", "b"], [])),
   ("_law_minus", (18, ["a", "b"], [])),
   ("_law_times", (19, ["a", "b"], [])),
   ("_law_sum", (20, ["fractions"], [])),
   ("_law_dot", (21, ["one", "other"], [])),
   ("_law_small", (22, ["pool"], [])),
   ("_law_slack", (23, ["pool"], [])),
   ("_law_row", (24, ["pool", "cells"], [])),
   ("_law_pairs", (25, ["pool", "pays", "many"], [])),
   ("_law_shares", (26, ["pool", "many"], [])),
   ("_law_worse", (27, ["asks", "table"], [])),
   ("_law_back", (28, ["pays", "table"], [])),
   ("law", (29, ["script"], []))]⟩
abbrev s_common : Stmt := top 3
def d_common : He.DefD := ⟨("common", none), "common", "common", L2.defArgs s_common, L2.defBody s_common, L2.defScope s_common, [], []⟩
abbrev s_ratio : Stmt := top 4
def d_ratio : He.DefD := ⟨("ratio", none), "ratio", "ratio", L2.defArgs s_ratio, L2.defBody s_ratio, L2.defScope s_ratio, [], []⟩
abbrev s_bottom_of : Stmt := top 5
def d_bottom_of : He.DefD := ⟨("bottom_of", none), "bottom_of", "bottom_of", L2.defArgs s_bottom_of, L2.defBody s_bottom_of, L2.defScope s_bottom_of, [], []⟩
abbrev s_tops_over : Stmt := top 6
def d_tops_over : He.DefD := ⟨("tops_over", none), "tops_over", "tops_over", L2.defArgs s_tops_over, L2.defBody s_tops_over, L2.defScope s_tops_over, [], []⟩
abbrev s_wholes : Stmt := top 7
def d_wholes : He.DefD := ⟨("wholes", none), "wholes", "wholes", L2.defArgs s_wholes, L2.defBody s_wholes, L2.defScope s_wholes, [], []⟩
abbrev s_fractions_of : Stmt := top 8
def d_fractions_of : He.DefD := ⟨("fractions_of", none), "fractions_of", "fractions_of", L2.defArgs s_fractions_of, L2.defBody s_fractions_of, L2.defScope s_fractions_of, [], []⟩
abbrev s_raw_dot : Stmt := top 9
def d_raw_dot : He.DefD := ⟨("raw_dot", none), "raw_dot", "raw_dot", L2.defArgs s_raw_dot, L2.defBody s_raw_dot, L2.defScope s_raw_dot, [], []⟩
abbrev s_dot : Stmt := top 10
def d_dot : He.DefD := ⟨("dot", none), "dot", "dot", L2.defArgs s_dot, L2.defBody s_dot, L2.defScope s_dot, [], []⟩
abbrev s_unit : Stmt := top 11
def d_unit : He.DefD := ⟨("unit", none), "unit", "unit", L2.defArgs s_unit, L2.defBody s_unit, L2.defScope s_unit, [], []⟩
abbrev s_mixed : Stmt := top 12
def d_mixed : He.DefD := ⟨("mixed", none), "mixed", "mixed", L2.defArgs s_mixed, L2.defBody s_mixed, L2.defScope s_mixed, [], []⟩
abbrev s_worse_seen : Stmt := top 14
def d_worse_seen : He.DefD := ⟨("worse_seen", none), "worse_seen", "worse_seen", L2.defArgs s_worse_seen, L2.defBody s_worse_seen, L2.defScope s_worse_seen, [], []⟩
abbrev s_pays_back : Stmt := top 15
def d_pays_back : He.DefD := ⟨("pays_back", none), "pays_back", "pays_back", L2.defArgs s_pays_back, L2.defBody s_pays_back, L2.defScope s_pays_back, [], []⟩
abbrev s_joined_cells : Stmt := top 16
def d_joined_cells : He.DefD := ⟨("joined_cells", none), "joined_cells", "joined_cells", L2.defArgs s_joined_cells, L2.defBody s_joined_cells, L2.defScope s_joined_cells, [], []⟩
abbrev s__law_pool : Stmt := top 18
def d__law_pool : He.DefD := ⟨("_law_pool", none), "_law_pool", "_law_pool", L2.defArgs s__law_pool, L2.defBody s__law_pool, L2.defScope s__law_pool, [], []⟩
abbrev s__law_draw : Stmt := top 19
def d__law_draw : He.DefD := ⟨("_law_draw", none), "_law_draw", "_law_draw", L2.defArgs s__law_draw, L2.defBody s__law_draw, L2.defScope s__law_draw, [], []⟩
abbrev s__law_so : Stmt := top 20
def d__law_so : He.DefD := ⟨("_law_so", none), "_law_so", "_law_so", L2.defArgs s__law_so, L2.defBody s__law_so, L2.defScope s__law_so, [], []⟩
abbrev s__law_frac : Stmt := top 21
def d__law_frac : He.DefD := ⟨("_law_frac", none), "_law_frac", "_law_frac", L2.defArgs s__law_frac, L2.defBody s__law_frac, L2.defScope s__law_frac, [], []⟩
abbrev s__law_plus : Stmt := top 22
def d__law_plus : He.DefD := ⟨("_law_plus", none), "_law_plus", "_law_plus", L2.defArgs s__law_plus, L2.defBody s__law_plus, L2.defScope s__law_plus, [], []⟩
abbrev s__law_minus : Stmt := top 23
def d__law_minus : He.DefD := ⟨("_law_minus", none), "_law_minus", "_law_minus", L2.defArgs s__law_minus, L2.defBody s__law_minus, L2.defScope s__law_minus, [], []⟩
abbrev s__law_times : Stmt := top 24
def d__law_times : He.DefD := ⟨("_law_times", none), "_law_times", "_law_times", L2.defArgs s__law_times, L2.defBody s__law_times, L2.defScope s__law_times, [], []⟩
abbrev s__law_sum : Stmt := top 25
def d__law_sum : He.DefD := ⟨("_law_sum", none), "_law_sum", "_law_sum", L2.defArgs s__law_sum, L2.defBody s__law_sum, L2.defScope s__law_sum, [], []⟩
abbrev s__law_dot : Stmt := top 26
def d__law_dot : He.DefD := ⟨("_law_dot", none), "_law_dot", "_law_dot", L2.defArgs s__law_dot, L2.defBody s__law_dot, L2.defScope s__law_dot, [], []⟩
abbrev s__law_small : Stmt := top 27
def d__law_small : He.DefD := ⟨("_law_small", none), "_law_small", "_law_small", L2.defArgs s__law_small, L2.defBody s__law_small, L2.defScope s__law_small, [], []⟩
abbrev s__law_slack : Stmt := top 28
def d__law_slack : He.DefD := ⟨("_law_slack", none), "_law_slack", "_law_slack", L2.defArgs s__law_slack, L2.defBody s__law_slack, L2.defScope s__law_slack, [], []⟩
abbrev s__law_row : Stmt := top 29
def d__law_row : He.DefD := ⟨("_law_row", none), "_law_row", "_law_row", L2.defArgs s__law_row, L2.defBody s__law_row, L2.defScope s__law_row, [], []⟩
abbrev s__law_pairs : Stmt := top 30
def d__law_pairs : He.DefD := ⟨("_law_pairs", none), "_law_pairs", "_law_pairs", L2.defArgs s__law_pairs, L2.defBody s__law_pairs, L2.defScope s__law_pairs, [], []⟩
abbrev s__law_shares : Stmt := top 31
def d__law_shares : He.DefD := ⟨("_law_shares", none), "_law_shares", "_law_shares", L2.defArgs s__law_shares, L2.defBody s__law_shares, L2.defScope s__law_shares, [], []⟩
abbrev s__law_worse : Stmt := top 32
def d__law_worse : He.DefD := ⟨("_law_worse", none), "_law_worse", "_law_worse", L2.defArgs s__law_worse, L2.defBody s__law_worse, L2.defScope s__law_worse, [], []⟩
abbrev s__law_back : Stmt := top 33
def d__law_back : He.DefD := ⟨("_law_back", none), "_law_back", "_law_back", L2.defArgs s__law_back, L2.defBody s__law_back, L2.defScope s__law_back, [], []⟩
abbrev s_law : Stmt := top 34
def d_law : He.DefD := ⟨("law", none), "law", "law", L2.defArgs s_law, L2.defBody s_law, L2.defScope s_law, [], []⟩
def fn : List (He.DefD) := [d_common, d_ratio, d_bottom_of, d_tops_over, d_wholes, d_fractions_of, d_raw_dot, d_dot, d_unit, d_mixed, d_worse_seen, d_pays_back, d_joined_cells, d__law_pool, d__law_draw, d__law_so, d__law_frac, d__law_plus, d__law_minus, d__law_times, d__law_sum, d__law_dot, d__law_small, d__law_slack, d__law_row, d__law_pairs, d__law_shares, d__law_worse, d__law_back, d_law]

def fa_0 : List (He.Fa) := [.glo "common", .glo "ratio", .glo "bottom_of", .glo "tops_over", .glo "wholes", .glo "fractions_of", .glo "raw_dot", .glo "dot", .glo "unit", .glo "mixed", .glo "worse_seen", .glo "pays_back", .glo "joined_cells", .glo "_law_pool", .glo "_law_draw", .glo "_law_so", .glo "_law_frac", .glo "_law_plus", .glo "_law_minus", .glo "_law_times", .glo "_law_sum", .glo "_law_dot", .glo "_law_small", .glo "_law_slack", .glo "_law_row", .glo "_law_pairs", .glo "_law_shares", .glo "_law_worse", .glo "_law_back", .glo "law"]
def fa_1 : List (He.Fa) := [.free "len", .free "abs", .free "int", .free "bool", .free "max", .free "min", .free "sum", .free "tuple", .free "list", .free "isinstance", .free "all", .free "any", .free "range", .free "enumerate", .free "zip", .free "str", .glo "ZERO", .glo "ONE"]
def fa : List (He.Fa) := fa_0 ++ fa_1

def tf : List (He.Defn) := [("common", none), ("ratio", none), ("bottom_of", none), ("tops_over", none), ("wholes", none), ("fractions_of", none), ("raw_dot", none), ("dot", none), ("unit", none), ("mixed", none), ("worse_seen", none), ("pays_back", none), ("joined_cells", none), ("_law_pool", none), ("_law_draw", none), ("_law_so", none), ("_law_frac", none), ("_law_plus", none), ("_law_minus", none), ("_law_times", none), ("_law_sum", none), ("_law_dot", none), ("_law_small", none), ("_law_slack", none), ("_law_row", none), ("_law_pairs", none), ("_law_shares", none), ("_law_worse", none), ("_law_back", none), ("law", none)]

def ex (K : PySem.W.Frag) : Bool := exT tf K && He.tupB K "ZERO" [.int 0, .int 1] && He.tupB K "ONE" [.int 1, .int 1]
abbrev R : PySem.W.OpenRow := PySem.W.OpenLaw.row PySem.Challenge.rw_gladlydone_k16_cells_told_worse
abbrev hk : PySem.W.Hook := He.hookX 5 fa fn [] tf ex
def ob (s : PySem.W.SharedT) : He.AlX := He.obsX 5 fa fn [] tf ex (HandSHeadRun.getT s)
theorem ob_eq (s : PySem.W.SharedT) : ob s = hk.obs s.abs := He.obsX_eq (HandSHeadRun.getT_eq s)
def loose_0 : List (Str) := ["__name__", "ZERO", "ONE", "common", "ratio", "bottom_of", "tops_over", "wholes", "fractions_of", "raw_dot", "dot", "unit", "mixed", "worse_seen", "pays_back", "joined_cells", "_law_pool", "_law_draw", "_law_so", "_law_frac", "_law_plus", "_law_minus", "_law_times", "_law_sum", "_law_dot", "_law_small", "_law_slack", "_law_row", "_law_pairs", "_law_shares"]
def loose_1 : List (Str) := ["_law_worse", "_law_back"]
def loose : List (Str) := loose_0 ++ loose_1

theorem run (w : World) : HandSHeadRun.RunEq R (PySem.W.view R.prog [34]) hk ob 4000 loose w := by
  intro os
  kernel_rfl
section
variable {K : PySem.W.Frag} {mg : Str → Option Value}
theorem sc_common : FnScope N_common [("one" : Str), ("other" : Str)] (L2.defScope s_common) := ⟨rfl, rfl, rfl, by decide +kernel, by kernel_rfl, by decide +kernel, by decide +kernel⟩
theorem tr_common : trSs pg 60 3 N_common (L2.defScope s_common) (L2.defBody s_common) = some F_common.body := by kernel_rfl
theorem in_common {fd : FuncData} (F : FunD K "common" "common" (L2.defArgs s_common) (L2.defBody s_common) (L2.defScope s_common) [] [] (He.fAd K ("common", none)) fd) (hm : mg "common" = some (.ref (He.ga K "common"))) (hct : PySem.W.codeHdIn K (He.cT K ("common", none)).1 (He.cT K ("common", none)).2 = true) : DefIn pg tab K mg 60 3 "common" 0 ["one", "other"] [] :=
  def_in (N := N_common) (fn := F_common) F hm hct sc_common (by simp) (fun _ _ _ _ _ _ us hl => match us, hl with | [_, _], _ => rfl) (fun ks hks => absurd hks (by simp)) rfl rfl rfl tr_common
theorem sc_ratio : FnScope N_ratio [("top" : Str), ("bottom" : Str)] (L2.defScope s_ratio) := ⟨rfl, rfl, rfl, by decide +kernel, by kernel_rfl, by decide +kernel, by decide +kernel⟩
theorem tr_ratio : trSs pg 60 3 N_ratio (L2.defScope s_ratio) (L2.defBody s_ratio) = some F_ratio.body := by kernel_rfl
theorem in_ratio {fd : FuncData} (F : FunD K "ratio" "ratio" (L2.defArgs s_ratio) (L2.defBody s_ratio) (L2.defScope s_ratio) [] [] (He.fAd K ("ratio", none)) fd) (hm : mg "ratio" = some (.ref (He.ga K "ratio"))) (hct : PySem.W.codeHdIn K (He.cT K ("ratio", none)).1 (He.cT K ("ratio", none)).2 = true) : DefIn pg tab K mg 60 3 "ratio" 1 ["top", "bottom"] [] :=
  def_in (N := N_ratio) (fn := F_ratio) F hm hct sc_ratio (by simp) (fun _ _ _ _ _ _ us hl => match us, hl with | [_, _], _ => rfl) (fun ks hks => absurd hks (by simp)) rfl rfl rfl tr_ratio
theorem sc_bottom_of : FnScope N_bottom_of [("row" : Str)] (L2.defScope s_bottom_of) := ⟨rfl, rfl, rfl, by decide +kernel, by kernel_rfl, by decide +kernel, by decide +kernel⟩
theorem tr_bottom_of : trSs pg 60 3 N_bottom_of (L2.defScope s_bottom_of) (L2.defBody s_bottom_of) = some F_bottom_of.body := by kernel_rfl
theorem in_bottom_of {fd : FuncData} (F : FunD K "bottom_of" "bottom_of" (L2.defArgs s_bottom_of) (L2.defBody s_bottom_of) (L2.defScope s_bottom_of) [] [] (He.fAd K ("bottom_of", none)) fd) (hm : mg "bottom_of" = some (.ref (He.ga K "bottom_of"))) (hct : PySem.W.codeHdIn K (He.cT K ("bottom_of", none)).1 (He.cT K ("bottom_of", none)).2 = true) : DefIn pg tab K mg 60 3 "bottom_of" 2 ["row"] [] :=
  def_in (N := N_bottom_of) (fn := F_bottom_of) F hm hct sc_bottom_of (by simp) (fun _ _ _ _ _ _ us hl => match us, hl with | [_], _ => rfl) (fun ks hks => absurd hks (by simp)) rfl rfl rfl tr_bottom_of
theorem sc_tops_over : FnScope N_tops_over [("row" : Str), ("bottom" : Str)] (L2.defScope s_tops_over) := ⟨rfl, rfl, rfl, by decide +kernel, by kernel_rfl, by decide +kernel, by decide +kernel⟩
theorem tr_tops_over : trSs pg 60 3 N_tops_over (L2.defScope s_tops_over) (L2.defBody s_tops_over) = some F_tops_over.body := by kernel_rfl
theorem in_tops_over {fd : FuncData} (F : FunD K "tops_over" "tops_over" (L2.defArgs s_tops_over) (L2.defBody s_tops_over) (L2.defScope s_tops_over) [] [] (He.fAd K ("tops_over", none)) fd) (hm : mg "tops_over" = some (.ref (He.ga K "tops_over"))) (hct : PySem.W.codeHdIn K (He.cT K ("tops_over", none)).1 (He.cT K ("tops_over", none)).2 = true) : DefIn pg tab K mg 60 3 "tops_over" 3 ["row", "bottom"] [] :=
  def_in (N := N_tops_over) (fn := F_tops_over) F hm hct sc_tops_over (by simp) (fun _ _ _ _ _ _ us hl => match us, hl with | [_, _], _ => rfl) (fun ks hks => absurd hks (by simp)) rfl rfl rfl tr_tops_over
theorem sc_wholes : FnScope N_wholes [("row" : Str)] (L2.defScope s_wholes) := ⟨rfl, rfl, rfl, by decide +kernel, by kernel_rfl, by decide +kernel, by decide +kernel⟩
theorem tr_wholes : trSs pg 60 3 N_wholes (L2.defScope s_wholes) (L2.defBody s_wholes) = some F_wholes.body := by kernel_rfl
theorem in_wholes {fd : FuncData} (F : FunD K "wholes" "wholes" (L2.defArgs s_wholes) (L2.defBody s_wholes) (L2.defScope s_wholes) [] [] (He.fAd K ("wholes", none)) fd) (hm : mg "wholes" = some (.ref (He.ga K "wholes"))) (hct : PySem.W.codeHdIn K (He.cT K ("wholes", none)).1 (He.cT K ("wholes", none)).2 = true) : DefIn pg tab K mg 60 3 "wholes" 4 ["row"] [] :=
  def_in (N := N_wholes) (fn := F_wholes) F hm hct sc_wholes (by simp) (fun _ _ _ _ _ _ us hl => match us, hl with | [_], _ => rfl) (fun ks hks => absurd hks (by simp)) rfl rfl rfl tr_wholes
theorem sc_fractions_of : FnScope N_fractions_of [("tops" : Str), ("bottom" : Str)] (L2.defScope s_fractions_of) := ⟨rfl, rfl, rfl, by decide +kernel, by kernel_rfl, by decide +kernel, by decide +kernel⟩
theorem tr_fractions_of : trSs pg 60 3 N_fractions_of (L2.defScope s_fractions_of) (L2.defBody s_fractions_of) = some F_fractions_of.body := by kernel_rfl
theorem in_fractions_of {fd : FuncData} (F : FunD K "fractions_of" "fractions_of" (L2.defArgs s_fractions_of) (L2.defBody s_fractions_of) (L2.defScope s_fractions_of) [] [] (He.fAd K ("fractions_of", none)) fd) (hm : mg "fractions_of" = some (.ref (He.ga K "fractions_of"))) (hct : PySem.W.codeHdIn K (He.cT K ("fractions_of", none)).1 (He.cT K ("fractions_of", none)).2 = true) : DefIn pg tab K mg 60 3 "fractions_of" 5 ["tops", "bottom"] [] :=
  def_in (N := N_fractions_of) (fn := F_fractions_of) F hm hct sc_fractions_of (by simp) (fun _ _ _ _ _ _ us hl => match us, hl with | [_, _], _ => rfl) (fun ks hks => absurd hks (by simp)) rfl rfl rfl tr_fractions_of
theorem sc_raw_dot : FnScope N_raw_dot [("row" : Str), ("other" : Str)] (L2.defScope s_raw_dot) := ⟨rfl, rfl, rfl, by decide +kernel, by kernel_rfl, by decide +kernel, by decide +kernel⟩
theorem tr_raw_dot : trSs pg 60 3 N_raw_dot (L2.defScope s_raw_dot) (L2.defBody s_raw_dot) = some F_raw_dot.body := by kernel_rfl
theorem in_raw_dot {fd : FuncData} (F : FunD K "raw_dot" "raw_dot" (L2.defArgs s_raw_dot) (L2.defBody s_raw_dot) (L2.defScope s_raw_dot) [] [] (He.fAd K ("raw_dot", none)) fd) (hm : mg "raw_dot" = some (.ref (He.ga K "raw_dot"))) (hct : PySem.W.codeHdIn K (He.cT K ("raw_dot", none)).1 (He.cT K ("raw_dot", none)).2 = true) : DefIn pg tab K mg 60 3 "raw_dot" 6 ["row", "other"] [] :=
  def_in (N := N_raw_dot) (fn := F_raw_dot) F hm hct sc_raw_dot (by simp) (fun _ _ _ _ _ _ us hl => match us, hl with | [_, _], _ => rfl) (fun ks hks => absurd hks (by simp)) rfl rfl rfl tr_raw_dot
theorem sc_dot : FnScope N_dot [("row" : Str), ("other" : Str)] (L2.defScope s_dot) := ⟨rfl, rfl, rfl, by decide +kernel, by kernel_rfl, by decide +kernel, by decide +kernel⟩
theorem tr_dot : trSs pg 60 3 N_dot (L2.defScope s_dot) (L2.defBody s_dot) = some F_dot.body := by kernel_rfl
theorem in_dot {fd : FuncData} (F : FunD K "dot" "dot" (L2.defArgs s_dot) (L2.defBody s_dot) (L2.defScope s_dot) [] [] (He.fAd K ("dot", none)) fd) (hm : mg "dot" = some (.ref (He.ga K "dot"))) (hct : PySem.W.codeHdIn K (He.cT K ("dot", none)).1 (He.cT K ("dot", none)).2 = true) : DefIn pg tab K mg 60 3 "dot" 7 ["row", "other"] [] :=
  def_in (N := N_dot) (fn := F_dot) F hm hct sc_dot (by simp) (fun _ _ _ _ _ _ us hl => match us, hl with | [_, _], _ => rfl) (fun ks hks => absurd hks (by simp)) rfl rfl rfl tr_dot
theorem sc_unit : FnScope N_unit [("many" : Str), ("place" : Str)] (L2.defScope s_unit) := ⟨rfl, rfl, rfl, by decide +kernel, by kernel_rfl, by decide +kernel, by decide +kernel⟩
theorem tr_unit : trSs pg 60 3 N_unit (L2.defScope s_unit) (L2.defBody s_unit) = some F_unit.body := by kernel_rfl
theorem in_unit {fd : FuncData} (F : FunD K "unit" "unit" (L2.defArgs s_unit) (L2.defBody s_unit) (L2.defScope s_unit) [] [] (He.fAd K ("unit", none)) fd) (hm : mg "unit" = some (.ref (He.ga K "unit"))) (hct : PySem.W.codeHdIn K (He.cT K ("unit", none)).1 (He.cT K ("unit", none)).2 = true) : DefIn pg tab K mg 60 3 "unit" 8 ["many", "place"] [] :=
  def_in (N := N_unit) (fn := F_unit) F hm hct sc_unit (by simp) (fun _ _ _ _ _ _ us hl => match us, hl with | [_, _], _ => rfl) (fun ks hks => absurd hks (by simp)) rfl rfl rfl tr_unit
theorem sc_mixed : FnScope N_mixed [("weights" : Str), ("rows" : Str), ("many" : Str)] (L2.defScope s_mixed) := ⟨rfl, rfl, rfl, by decide +kernel, by kernel_rfl, by decide +kernel, by decide +kernel⟩
theorem tr_mixed : trSs pg 60 3 N_mixed (L2.defScope s_mixed) (L2.defBody s_mixed) = some F_mixed.body := by kernel_rfl
theorem in_mixed {fd : FuncData} (F : FunD K "mixed" "mixed" (L2.defArgs s_mixed) (L2.defBody s_mixed) (L2.defScope s_mixed) [] [] (He.fAd K ("mixed", none)) fd) (hm : mg "mixed" = some (.ref (He.ga K "mixed"))) (hct : PySem.W.codeHdIn K (He.cT K ("mixed", none)).1 (He.cT K ("mixed", none)).2 = true) : DefIn pg tab K mg 60 3 "mixed" 9 ["weights", "rows", "many"] [] :=
  def_in (N := N_mixed) (fn := F_mixed) F hm hct sc_mixed (by simp) (fun _ _ _ _ _ _ us hl => match us, hl with | [_, _, _], _ => rfl) (fun ks hks => absurd hks (by simp)) rfl rfl rfl tr_mixed
theorem sc_worse_seen : FnScope N_worse_seen [("asks" : Str), ("table" : Str)] (L2.defScope s_worse_seen) := ⟨rfl, rfl, rfl, by decide +kernel, by kernel_rfl, by decide +kernel, by decide +kernel⟩
theorem tr_worse_seen : trSs pg 60 3 N_worse_seen (L2.defScope s_worse_seen) (L2.defBody s_worse_seen) = some F_worse_seen.body := by kernel_rfl
theorem in_worse_seen {fd : FuncData} (F : FunD K "worse_seen" "worse_seen" (L2.defArgs s_worse_seen) (L2.defBody s_worse_seen) (L2.defScope s_worse_seen) [] [] (He.fAd K ("worse_seen", none)) fd) (hm : mg "worse_seen" = some (.ref (He.ga K "worse_seen"))) (hct : PySem.W.codeHdIn K (He.cT K ("worse_seen", none)).1 (He.cT K ("worse_seen", none)).2 = true) : DefIn pg tab K mg 60 3 "worse_seen" 10 ["asks", "table"] [["table", "asks"]] :=
  def_in (N := N_worse_seen) (fn := F_worse_seen) F hm hct sc_worse_seen (by simp) (fun _ _ _ _ _ _ us hl => match us, hl with | [_, _], _ => rfl) (fun ks hks => by
    rcases List.mem_singleton.mp hks
    exact fun _ _ _ _ _ _ ws h => match ws, h with | [], h => nomatch (show 0 = 2 from h) | [_], h => nomatch (show 0 = 2 from h) | _ :: _ :: _, _ => rfl) rfl rfl rfl tr_worse_seen
theorem sc_pays_back : FnScope N_pays_back [("pays" : Str), ("table" : Str)] (L2.defScope s_pays_back) := ⟨rfl, rfl, rfl, by decide +kernel, by kernel_rfl, by decide +kernel, by decide +kernel⟩
theorem tr_pays_back : trSs pg 60 3 N_pays_back (L2.defScope s_pays_back) (L2.defBody s_pays_back) = some F_pays_back.body := by kernel_rfl
theorem in_pays_back {fd : FuncData} (F : FunD K "pays_back" "pays_back" (L2.defArgs s_pays_back) (L2.defBody s_pays_back) (L2.defScope s_pays_back) [] [] (He.fAd K ("pays_back", none)) fd) (hm : mg "pays_back" = some (.ref (He.ga K "pays_back"))) (hct : PySem.W.codeHdIn K (He.cT K ("pays_back", none)).1 (He.cT K ("pays_back", none)).2 = true) : DefIn pg tab K mg 60 3 "pays_back" 11 ["pays", "table"] [["table", "pays"]] :=
  def_in (N := N_pays_back) (fn := F_pays_back) F hm hct sc_pays_back (by simp) (fun _ _ _ _ _ _ us hl => match us, hl with | [_, _], _ => rfl) (fun ks hks => by
    rcases List.mem_singleton.mp hks
    exact fun _ _ _ _ _ _ ws h => match ws, h with | [], h => nomatch (show 0 = 2 from h) | [_], h => nomatch (show 0 = 2 from h) | _ :: _ :: _, _ => rfl) rfl rfl rfl tr_pays_back
theorem sc_joined_cells : FnScope N_joined_cells [("asks" : Str), ("cells" : Str)] (L2.defScope s_joined_cells) := ⟨rfl, rfl, rfl, by decide +kernel, by kernel_rfl, by decide +kernel, by decide +kernel⟩
theorem tr_joined_cells : trSs pg 60 3 N_joined_cells (L2.defScope s_joined_cells) (L2.defBody s_joined_cells) = some F_joined_cells.body := by kernel_rfl
theorem in_joined_cells {fd : FuncData} (F : FunD K "joined_cells" "joined_cells" (L2.defArgs s_joined_cells) (L2.defBody s_joined_cells) (L2.defScope s_joined_cells) [] [] (He.fAd K ("joined_cells", none)) fd) (hm : mg "joined_cells" = some (.ref (He.ga K "joined_cells"))) (hct : PySem.W.codeHdIn K (He.cT K ("joined_cells", none)).1 (He.cT K ("joined_cells", none)).2 = true) : DefIn pg tab K mg 60 3 "joined_cells" 12 ["asks", "cells"] [["cells", "asks"]] :=
  def_in (N := N_joined_cells) (fn := F_joined_cells) F hm hct sc_joined_cells (by simp) (fun _ _ _ _ _ _ us hl => match us, hl with | [_, _], _ => rfl) (fun ks hks => by
    rcases List.mem_singleton.mp hks
    exact fun _ _ _ _ _ _ ws h => match ws, h with | [], h => nomatch (show 0 = 2 from h) | [_], h => nomatch (show 0 = 2 from h) | _ :: _ :: _, _ => rfl) rfl rfl rfl tr_joined_cells
theorem sc__law_pool : FnScope N__law_pool [("script" : Str)] (L2.defScope s__law_pool) := ⟨rfl, rfl, rfl, by decide +kernel, by kernel_rfl, by decide +kernel, by decide +kernel⟩
theorem tr__law_pool : trSs pg 60 3 N__law_pool (L2.defScope s__law_pool) (L2.defBody s__law_pool) = some F__law_pool.body := by kernel_rfl
theorem in__law_pool {fd : FuncData} (F : FunD K "_law_pool" "_law_pool" (L2.defArgs s__law_pool) (L2.defBody s__law_pool) (L2.defScope s__law_pool) [] [] (He.fAd K ("_law_pool", none)) fd) (hm : mg "_law_pool" = some (.ref (He.ga K "_law_pool"))) (hct : PySem.W.codeHdIn K (He.cT K ("_law_pool", none)).1 (He.cT K ("_law_pool", none)).2 = true) : DefIn pg tab K mg 60 3 "_law_pool" 13 ["script"] [] :=
  def_in (N := N__law_pool) (fn := F__law_pool) F hm hct sc__law_pool (by simp) (fun _ _ _ _ _ _ us hl => match us, hl with | [_], _ => rfl) (fun ks hks => absurd hks (by simp)) rfl rfl rfl tr__law_pool
theorem sc__law_draw : FnScope N__law_draw [("pool" : Str), ("many" : Str)] (L2.defScope s__law_draw) := ⟨rfl, rfl, rfl, by decide +kernel, by kernel_rfl, by decide +kernel, by decide +kernel⟩
theorem tr__law_draw : trSs pg 60 3 N__law_draw (L2.defScope s__law_draw) (L2.defBody s__law_draw) = some F__law_draw.body := by kernel_rfl
theorem in__law_draw {fd : FuncData} (F : FunD K "_law_draw" "_law_draw" (L2.defArgs s__law_draw) (L2.defBody s__law_draw) (L2.defScope s__law_draw) [] [] (He.fAd K ("_law_draw", none)) fd) (hm : mg "_law_draw" = some (.ref (He.ga K "_law_draw"))) (hct : PySem.W.codeHdIn K (He.cT K ("_law_draw", none)).1 (He.cT K ("_law_draw", none)).2 = true) : DefIn pg tab K mg 60 3 "_law_draw" 14 ["pool", "many"] [] :=
  def_in (N := N__law_draw) (fn := F__law_draw) F hm hct sc__law_draw (by simp) (fun _ _ _ _ _ _ us hl => match us, hl with | [_, _], _ => rfl) (fun ks hks => absurd hks (by simp)) rfl rfl rfl tr__law_draw
theorem sc__law_so : FnScope N__law_so [("found" : Str), ("meant" : Str)] (L2.defScope s__law_so) := ⟨rfl, rfl, rfl, by decide +kernel, by kernel_rfl, by decide +kernel, by decide +kernel⟩
theorem tr__law_so : trSs pg 60 3 N__law_so (L2.defScope s__law_so) (L2.defBody s__law_so) = some F__law_so.body := by kernel_rfl
theorem in__law_so {fd : FuncData} (F : FunD K "_law_so" "_law_so" (L2.defArgs s__law_so) (L2.defBody s__law_so) (L2.defScope s__law_so) [] [] (He.fAd K ("_law_so", none)) fd) (hm : mg "_law_so" = some (.ref (He.ga K "_law_so"))) (hct : PySem.W.codeHdIn K (He.cT K ("_law_so", none)).1 (He.cT K ("_law_so", none)).2 = true) : DefIn pg tab K mg 60 3 "_law_so" 15 ["found", "meant"] [] :=
  def_in (N := N__law_so) (fn := F__law_so) F hm hct sc__law_so (by simp) (fun _ _ _ _ _ _ us hl => match us, hl with | [_, _], _ => rfl) (fun ks hks => absurd hks (by simp)) rfl rfl rfl tr__law_so
theorem sc__law_frac : FnScope N__law_frac [("top" : Str), ("bottom" : Str)] (L2.defScope s__law_frac) := ⟨rfl, rfl, rfl, by decide +kernel, by kernel_rfl, by decide +kernel, by decide +kernel⟩
theorem tr__law_frac : trSs pg 60 3 N__law_frac (L2.defScope s__law_frac) (L2.defBody s__law_frac) = some F__law_frac.body := by kernel_rfl
theorem in__law_frac {fd : FuncData} (F : FunD K "_law_frac" "_law_frac" (L2.defArgs s__law_frac) (L2.defBody s__law_frac) (L2.defScope s__law_frac) [] [] (He.fAd K ("_law_frac", none)) fd) (hm : mg "_law_frac" = some (.ref (He.ga K "_law_frac"))) (hct : PySem.W.codeHdIn K (He.cT K ("_law_frac", none)).1 (He.cT K ("_law_frac", none)).2 = true) : DefIn pg tab K mg 60 3 "_law_frac" 16 ["top", "bottom"] [] :=
  def_in (N := N__law_frac) (fn := F__law_frac) F hm hct sc__law_frac (by simp) (fun _ _ _ _ _ _ us hl => match us, hl with | [_, _], _ => rfl) (fun ks hks => absurd hks (by simp)) rfl rfl rfl tr__law_frac
theorem sc__law_plus : FnScope N__law_plus [("a" : Str), ("b" : Str)] (L2.defScope s__law_plus) := ⟨rfl, rfl, rfl, by decide +kernel, by kernel_rfl, by decide +kernel, by decide +kernel⟩
theorem tr__law_plus : trSs pg 60 3 N__law_plus (L2.defScope s__law_plus) (L2.defBody s__law_plus) = some F__law_plus.body := by kernel_rfl
theorem in__law_plus {fd : FuncData} (F : FunD K "_law_plus" "_law_plus" (L2.defArgs s__law_plus) (L2.defBody s__law_plus) (L2.defScope s__law_plus) [] [] (He.fAd K ("_law_plus", none)) fd) (hm : mg "_law_plus" = some (.ref (He.ga K "_law_plus"))) (hct : PySem.W.codeHdIn K (He.cT K ("_law_plus", none)).1 (He.cT K ("_law_plus", none)).2 = true) : DefIn pg tab K mg 60 3 "_law_plus" 17 ["a", "b"] [] :=
  def_in (N := N__law_plus) (fn := F__law_plus) F hm hct sc__law_plus (by simp) (fun _ _ _ _ _ _ us hl => match us, hl with | [_, _], _ => rfl) (fun ks hks => absurd hks (by simp)) rfl rfl rfl tr__law_plus
theorem sc__law_minus : FnScope N__law_minus [("a" : Str), ("b" : Str)] (L2.defScope s__law_minus) := ⟨rfl, rfl, rfl, by decide +kernel, by kernel_rfl, by decide +kernel, by decide +kernel⟩
theorem tr__law_minus : trSs pg 60 3 N__law_minus (L2.defScope s__law_minus) (L2.defBody s__law_minus) = some F__law_minus.body := by kernel_rfl
theorem in__law_minus {fd : FuncData} (F : FunD K "_law_minus" "_law_minus" (L2.defArgs s__law_minus) (L2.defBody s__law_minus) (L2.defScope s__law_minus) [] [] (He.fAd K ("_law_minus", none)) fd) (hm : mg "_law_minus" = some (.ref (He.ga K "_law_minus"))) (hct : PySem.W.codeHdIn K (He.cT K ("_law_minus", none)).1 (He.cT K ("_law_minus", none)).2 = true) : DefIn pg tab K mg 60 3 "_law_minus" 18 ["a", "b"] [] :=
  def_in (N := N__law_minus) (fn := F__law_minus) F hm hct sc__law_minus (by simp) (fun _ _ _ _ _ _ us hl => match us, hl with | [_, _], _ => rfl) (fun ks hks => absurd hks (by simp)) rfl rfl rfl tr__law_minus
theorem sc__law_times : FnScope N__law_times [("a" : Str), ("b" : Str)] (L2.defScope s__law_times) := ⟨rfl, rfl, rfl, by decide +kernel, by kernel_rfl, by decide +kernel, by decide +kernel⟩
theorem tr__law_times : trSs pg 60 3 N__law_times (L2.defScope s__law_times) (L2.defBody s__law_times) = some F__law_times.body := by kernel_rfl
theorem in__law_times {fd : FuncData} (F : FunD K "_law_times" "_law_times" (L2.defArgs s__law_times) (L2.defBody s__law_times) (L2.defScope s__law_times) [] [] (He.fAd K ("_law_times", none)) fd) (hm : mg "_law_times" = some (.ref (He.ga K "_law_times"))) (hct : PySem.W.codeHdIn K (He.cT K ("_law_times", none)).1 (He.cT K ("_law_times", none)).2 = true) : DefIn pg tab K mg 60 3 "_law_times" 19 ["a", "b"] [] :=
  def_in (N := N__law_times) (fn := F__law_times) F hm hct sc__law_times (by simp) (fun _ _ _ _ _ _ us hl => match us, hl with | [_, _], _ => rfl) (fun ks hks => absurd hks (by simp)) rfl rfl rfl tr__law_times
theorem sc__law_sum : FnScope N__law_sum [("fractions" : Str)] (L2.defScope s__law_sum) := ⟨rfl, rfl, rfl, by decide +kernel, by kernel_rfl, by decide +kernel, by decide +kernel⟩
theorem tr__law_sum : trSs pg 60 3 N__law_sum (L2.defScope s__law_sum) (L2.defBody s__law_sum) = some F__law_sum.body := by kernel_rfl
theorem in__law_sum {fd : FuncData} (F : FunD K "_law_sum" "_law_sum" (L2.defArgs s__law_sum) (L2.defBody s__law_sum) (L2.defScope s__law_sum) [] [] (He.fAd K ("_law_sum", none)) fd) (hm : mg "_law_sum" = some (.ref (He.ga K "_law_sum"))) (hct : PySem.W.codeHdIn K (He.cT K ("_law_sum", none)).1 (He.cT K ("_law_sum", none)).2 = true) : DefIn pg tab K mg 60 3 "_law_sum" 20 ["fractions"] [] :=
  def_in (N := N__law_sum) (fn := F__law_sum) F hm hct sc__law_sum (by simp) (fun _ _ _ _ _ _ us hl => match us, hl with | [_], _ => rfl) (fun ks hks => absurd hks (by simp)) rfl rfl rfl tr__law_sum
theorem sc__law_dot : FnScope N__law_dot [("one" : Str), ("other" : Str)] (L2.defScope s__law_dot) := ⟨rfl, rfl, rfl, by decide +kernel, by kernel_rfl, by decide +kernel, by decide +kernel⟩
theorem tr__law_dot : trSs pg 60 3 N__law_dot (L2.defScope s__law_dot) (L2.defBody s__law_dot) = some F__law_dot.body := by kernel_rfl
theorem in__law_dot {fd : FuncData} (F : FunD K "_law_dot" "_law_dot" (L2.defArgs s__law_dot) (L2.defBody s__law_dot) (L2.defScope s__law_dot) [] [] (He.fAd K ("_law_dot", none)) fd) (hm : mg "_law_dot" = some (.ref (He.ga K "_law_dot"))) (hct : PySem.W.codeHdIn K (He.cT K ("_law_dot", none)).1 (He.cT K ("_law_dot", none)).2 = true) : DefIn pg tab K mg 60 3 "_law_dot" 21 ["one", "other"] [] :=
  def_in (N := N__law_dot) (fn := F__law_dot) F hm hct sc__law_dot (by simp) (fun _ _ _ _ _ _ us hl => match us, hl with | [_, _], _ => rfl) (fun ks hks => absurd hks (by simp)) rfl rfl rfl tr__law_dot
theorem sc__law_small : FnScope N__law_small [("pool" : Str)] (L2.defScope s__law_small) := ⟨rfl, rfl, rfl, by decide +kernel, by kernel_rfl, by decide +kernel, by decide +kernel⟩
theorem tr__law_small : trSs pg 60 3 N__law_small (L2.defScope s__law_small) (L2.defBody s__law_small) = some F__law_small.body := by kernel_rfl
theorem in__law_small {fd : FuncData} (F : FunD K "_law_small" "_law_small" (L2.defArgs s__law_small) (L2.defBody s__law_small) (L2.defScope s__law_small) [] [] (He.fAd K ("_law_small", none)) fd) (hm : mg "_law_small" = some (.ref (He.ga K "_law_small"))) (hct : PySem.W.codeHdIn K (He.cT K ("_law_small", none)).1 (He.cT K ("_law_small", none)).2 = true) : DefIn pg tab K mg 60 3 "_law_small" 22 ["pool"] [] :=
  def_in (N := N__law_small) (fn := F__law_small) F hm hct sc__law_small (by simp) (fun _ _ _ _ _ _ us hl => match us, hl with | [_], _ => rfl) (fun ks hks => absurd hks (by simp)) rfl rfl rfl tr__law_small
theorem sc__law_slack : FnScope N__law_slack [("pool" : Str)] (L2.defScope s__law_slack) := ⟨rfl, rfl, rfl, by decide +kernel, by kernel_rfl, by decide +kernel, by decide +kernel⟩
theorem tr__law_slack : trSs pg 60 3 N__law_slack (L2.defScope s__law_slack) (L2.defBody s__law_slack) = some F__law_slack.body := by kernel_rfl
theorem in__law_slack {fd : FuncData} (F : FunD K "_law_slack" "_law_slack" (L2.defArgs s__law_slack) (L2.defBody s__law_slack) (L2.defScope s__law_slack) [] [] (He.fAd K ("_law_slack", none)) fd) (hm : mg "_law_slack" = some (.ref (He.ga K "_law_slack"))) (hct : PySem.W.codeHdIn K (He.cT K ("_law_slack", none)).1 (He.cT K ("_law_slack", none)).2 = true) : DefIn pg tab K mg 60 3 "_law_slack" 23 ["pool"] [] :=
  def_in (N := N__law_slack) (fn := F__law_slack) F hm hct sc__law_slack (by simp) (fun _ _ _ _ _ _ us hl => match us, hl with | [_], _ => rfl) (fun ks hks => absurd hks (by simp)) rfl rfl rfl tr__law_slack
theorem sc__law_row : FnScope N__law_row [("pool" : Str), ("cells" : Str)] (L2.defScope s__law_row) := ⟨rfl, rfl, rfl, by decide +kernel, by kernel_rfl, by decide +kernel, by decide +kernel⟩
theorem tr__law_row : trSs pg 60 3 N__law_row (L2.defScope s__law_row) (L2.defBody s__law_row) = some F__law_row.body := by kernel_rfl
theorem in__law_row {fd : FuncData} (F : FunD K "_law_row" "_law_row" (L2.defArgs s__law_row) (L2.defBody s__law_row) (L2.defScope s__law_row) [] [] (He.fAd K ("_law_row", none)) fd) (hm : mg "_law_row" = some (.ref (He.ga K "_law_row"))) (hct : PySem.W.codeHdIn K (He.cT K ("_law_row", none)).1 (He.cT K ("_law_row", none)).2 = true) : DefIn pg tab K mg 60 3 "_law_row" 24 ["pool", "cells"] [] :=
  def_in (N := N__law_row) (fn := F__law_row) F hm hct sc__law_row (by simp) (fun _ _ _ _ _ _ us hl => match us, hl with | [_, _], _ => rfl) (fun ks hks => absurd hks (by simp)) rfl rfl rfl tr__law_row
theorem sc__law_pairs : FnScope N__law_pairs [("pool" : Str), ("pays" : Str), ("many" : Str)] (L2.defScope s__law_pairs) := ⟨rfl, rfl, rfl, by decide +kernel, by kernel_rfl, by decide +kernel, by decide +kernel⟩
theorem tr__law_pairs : trSs pg 60 3 N__law_pairs (L2.defScope s__law_pairs) (L2.defBody s__law_pairs) = some F__law_pairs.body := by kernel_rfl
theorem in__law_pairs {fd : FuncData} (F : FunD K "_law_pairs" "_law_pairs" (L2.defArgs s__law_pairs) (L2.defBody s__law_pairs) (L2.defScope s__law_pairs) [] [] (He.fAd K ("_law_pairs", none)) fd) (hm : mg "_law_pairs" = some (.ref (He.ga K "_law_pairs"))) (hct : PySem.W.codeHdIn K (He.cT K ("_law_pairs", none)).1 (He.cT K ("_law_pairs", none)).2 = true) : DefIn pg tab K mg 60 3 "_law_pairs" 25 ["pool", "pays", "many"] [] :=
  def_in (N := N__law_pairs) (fn := F__law_pairs) F hm hct sc__law_pairs (by simp) (fun _ _ _ _ _ _ us hl => match us, hl with | [_, _, _], _ => rfl) (fun ks hks => absurd hks (by simp)) rfl rfl rfl tr__law_pairs
theorem sc__law_shares : FnScope N__law_shares [("pool" : Str), ("many" : Str)] (L2.defScope s__law_shares) := ⟨rfl, rfl, rfl, by decide +kernel, by kernel_rfl, by decide +kernel, by decide +kernel⟩
theorem tr__law_shares : trSs pg 60 3 N__law_shares (L2.defScope s__law_shares) (L2.defBody s__law_shares) = some F__law_shares.body := by kernel_rfl
theorem in__law_shares {fd : FuncData} (F : FunD K "_law_shares" "_law_shares" (L2.defArgs s__law_shares) (L2.defBody s__law_shares) (L2.defScope s__law_shares) [] [] (He.fAd K ("_law_shares", none)) fd) (hm : mg "_law_shares" = some (.ref (He.ga K "_law_shares"))) (hct : PySem.W.codeHdIn K (He.cT K ("_law_shares", none)).1 (He.cT K ("_law_shares", none)).2 = true) : DefIn pg tab K mg 60 3 "_law_shares" 26 ["pool", "many"] [] :=
  def_in (N := N__law_shares) (fn := F__law_shares) F hm hct sc__law_shares (by simp) (fun _ _ _ _ _ _ us hl => match us, hl with | [_, _], _ => rfl) (fun ks hks => absurd hks (by simp)) rfl rfl rfl tr__law_shares
theorem sc__law_worse : FnScope N__law_worse [("asks" : Str), ("table" : Str)] (L2.defScope s__law_worse) := ⟨rfl, rfl, rfl, by decide +kernel, by kernel_rfl, by decide +kernel, by decide +kernel⟩
theorem tr__law_worse : trSs pg 60 3 N__law_worse (L2.defScope s__law_worse) (L2.defBody s__law_worse) = some F__law_worse.body := by kernel_rfl
theorem in__law_worse {fd : FuncData} (F : FunD K "_law_worse" "_law_worse" (L2.defArgs s__law_worse) (L2.defBody s__law_worse) (L2.defScope s__law_worse) [] [] (He.fAd K ("_law_worse", none)) fd) (hm : mg "_law_worse" = some (.ref (He.ga K "_law_worse"))) (hct : PySem.W.codeHdIn K (He.cT K ("_law_worse", none)).1 (He.cT K ("_law_worse", none)).2 = true) : DefIn pg tab K mg 60 3 "_law_worse" 27 ["asks", "table"] [] :=
  def_in (N := N__law_worse) (fn := F__law_worse) F hm hct sc__law_worse (by simp) (fun _ _ _ _ _ _ us hl => match us, hl with | [_, _], _ => rfl) (fun ks hks => absurd hks (by simp)) rfl rfl rfl tr__law_worse
theorem sc__law_back : FnScope N__law_back [("pays" : Str), ("table" : Str)] (L2.defScope s__law_back) := ⟨rfl, rfl, rfl, by decide +kernel, by kernel_rfl, by decide +kernel, by decide +kernel⟩
theorem tr__law_back : trSs pg 60 3 N__law_back (L2.defScope s__law_back) (L2.defBody s__law_back) = some F__law_back.body := by kernel_rfl
theorem in__law_back {fd : FuncData} (F : FunD K "_law_back" "_law_back" (L2.defArgs s__law_back) (L2.defBody s__law_back) (L2.defScope s__law_back) [] [] (He.fAd K ("_law_back", none)) fd) (hm : mg "_law_back" = some (.ref (He.ga K "_law_back"))) (hct : PySem.W.codeHdIn K (He.cT K ("_law_back", none)).1 (He.cT K ("_law_back", none)).2 = true) : DefIn pg tab K mg 60 3 "_law_back" 28 ["pays", "table"] [] :=
  def_in (N := N__law_back) (fn := F__law_back) F hm hct sc__law_back (by simp) (fun _ _ _ _ _ _ us hl => match us, hl with | [_, _], _ => rfl) (fun ks hks => absurd hks (by simp)) rfl rfl rfl tr__law_back
theorem sc_law : FnScope N_law [("script" : Str)] (L2.defScope s_law) := ⟨rfl, rfl, rfl, by decide +kernel, by kernel_rfl, by decide +kernel, by decide +kernel⟩
theorem tr_law : trSs pg 60 3 N_law (L2.defScope s_law) (L2.defBody s_law) = some F_law.body := by kernel_rfl
theorem in_law {fd : FuncData} (F : FunD K "law" "law" (L2.defArgs s_law) (L2.defBody s_law) (L2.defScope s_law) [] [] (He.fAd K ("law", none)) fd) (hm : mg "law" = some (.ref (He.ga K "law"))) (hct : PySem.W.codeHdIn K (He.cT K ("law", none)).1 (He.cT K ("law", none)).2 = true) : DefIn pg tab K mg 60 3 "law" 29 ["script"] [] :=
  def_in (N := N_law) (fn := F_law) F hm hct sc_law (by simp) (fun _ _ _ _ _ _ us hl => match us, hl with | [_], _ => rfl) (fun ks hks => absurd hks (by simp)) rfl rfl rfl tr_law
end
theorem facts {w : World} {K : PySem.W.Frag} {h : Heap} {mg : Str → Option Value} (X : K.In h) (G : h.Ns mainGlobals mg) (c : He.SaysX fa fn [] tf ex w h K) :
    (∀ x ∈ bltN, mg x = none) ∧ (∀ x p, pg.G.lookup x = some p → ∃ u v, mg x = some u ∧ RelV v u ∧ ∀ H, RP K H p v) ∧ (∀ x i ps kss, pg.F.lookup x = some (i, ps, kss) → DefIn pg tab K mg 60 3 x i ps kss) := by
  have fac : ∀ f ∈ fa, f.ok K = true := fun f hf => He.SaysD.facts (show He.SaysD fa fn K from congrArg (fun z : He.AlT => z.1) c.t) hf
  have glo : ∀ x, (He.Fa.glo x) ∈ fa → mg x = some (.ref (He.ga K x)) := fun x hx => He.glo_ok X G (fac _ hx)
  have dfs : ∀ d ∈ fn, ∃ fd, FunD K d.name d.qual d.params d.body d.scope (d.dvs K) (d.kws K) (He.fAd K d.at_) fd := fun d hd => He.SaysD.defs (show He.SaysD fa fn K from congrArg (fun z : He.AlT => z.1) c.t) hd
  have hd := c.hd
  refine ⟨?_, ?_, ?_⟩
  · have fre : ∀ x, (He.Fa.free x) ∈ fa → mg x = none := fun x hx => He.free_ok X G (fac _ hx)
    exact List.forall_mem_cons.mpr ⟨fre _ (by simp [fa, fa_0, fa_1]), List.forall_mem_cons.mpr ⟨fre _ (by simp [fa, fa_0, fa_1]), List.forall_mem_cons.mpr ⟨fre _ (by simp [fa, fa_0, fa_1]), List.forall_mem_cons.mpr ⟨fre _ (by simp [fa, fa_0, fa_1]), List.forall_mem_cons.mpr ⟨fre _ (by simp [fa, fa_0, fa_1]), List.forall_mem_cons.mpr ⟨fre _ (by simp [fa, fa_0, fa_1]), List.forall_mem_cons.mpr ⟨fre _ (by simp [fa, fa_0, fa_1]), List.forall_mem_cons.mpr ⟨fre _ (by simp [fa, fa_0, fa_1]), List.forall_mem_cons.mpr ⟨fre _ (by simp [fa, fa_0, fa_1]), List.forall_mem_cons.mpr ⟨fre _ (by simp [fa, fa_0, fa_1]), List.forall_mem_cons.mpr ⟨fre _ (by simp [fa, fa_0, fa_1]), List.forall_mem_cons.mpr ⟨fre _ (by simp [fa, fa_0, fa_1]), List.forall_mem_cons.mpr ⟨fre _ (by simp [fa, fa_0, fa_1]), List.forall_mem_cons.mpr ⟨fre _ (by simp [fa, fa_0, fa_1]), List.forall_mem_cons.mpr ⟨fre _ (by simp [fa, fa_0, fa_1]), List.forall_mem_cons.mpr ⟨fre _ (by simp [fa, fa_0, fa_1]), fun _ h => by simp at h⟩⟩⟩⟩⟩⟩⟩⟩⟩⟩⟩⟩⟩⟩⟩⟩
  · have key : ∀ q ∈ pg.G, ∃ u v, mg q.1 = some u ∧ RelV v u ∧ ∀ H, RP K H q.2 v := by
      have exs := c.more
      simp only [ex, Bool.and_eq_true] at exs
      have g0 : ∃ u v, mg "ZERO" = some u ∧ RelV v u ∧ ∀ H, RP K H (.tup [.int 0, .int 1]) v := by
        refine ⟨_, .ref _, glo "ZERO" (by simp [fa, fa_0, fa_1]), rfl, fun H => ?_⟩
        show RP K H (.tup _) _
        unfold RP
        exact ⟨_, _, rfl, He.tupB_ok exs.1.2 H, by simp [RPs, RP, He.Dv.v]⟩
      have g1 : ∃ u v, mg "ONE" = some u ∧ RelV v u ∧ ∀ H, RP K H (.tup [.int 1, .int 1]) v := by
        refine ⟨_, .ref _, glo "ONE" (by simp [fa, fa_0, fa_1]), rfl, fun H => ?_⟩
        show RP K H (.tup _) _
        unfold RP
        exact ⟨_, _, rfl, He.tupB_ok exs.2 H, by simp [RPs, RP, He.Dv.v]⟩
      exact List.forall_mem_cons.mpr ⟨g0, List.forall_mem_cons.mpr ⟨g1, fun _ h => by simp at h⟩⟩
    exact fun x p hx => key (x, p) (lookup_in hx)
  · have key : ∀ q ∈ pg.F, DefIn pg tab K mg 60 3 q.1 q.2.1 q.2.2.1 q.2.2.2 := by
      obtain ⟨_, f0⟩ := dfs d_common (by simp [fn])
      have e0 := in_common f0 (glo "common" (by simp [fa, fa_0, fa_1])) (hd ("common", none) (by simp [tf]))
      obtain ⟨_, f1⟩ := dfs d_ratio (by simp [fn])
      have e1 := in_ratio f1 (glo "ratio" (by simp [fa, fa_0, fa_1])) (hd ("ratio", none) (by simp [tf]))
      obtain ⟨_, f2⟩ := dfs d_bottom_of (by simp [fn])
      have e2 := in_bottom_of f2 (glo "bottom_of" (by simp [fa, fa_0, fa_1])) (hd ("bottom_of", none) (by simp [tf]))
      obtain ⟨_, f3⟩ := dfs d_tops_over (by simp [fn])
      have e3 := in_tops_over f3 (glo "tops_over" (by simp [fa, fa_0, fa_1])) (hd ("tops_over", none) (by simp [tf]))
      obtain ⟨_, f4⟩ := dfs d_wholes (by simp [fn])
      have e4 := in_wholes f4 (glo "wholes" (by simp [fa, fa_0, fa_1])) (hd ("wholes", none) (by simp [tf]))
      obtain ⟨_, f5⟩ := dfs d_fractions_of (by simp [fn])
      have e5 := in_fractions_of f5 (glo "fractions_of" (by simp [fa, fa_0, fa_1])) (hd ("fractions_of", none) (by simp [tf]))
      obtain ⟨_, f6⟩ := dfs d_raw_dot (by simp [fn])
      have e6 := in_raw_dot f6 (glo "raw_dot" (by simp [fa, fa_0, fa_1])) (hd ("raw_dot", none) (by simp [tf]))
      obtain ⟨_, f7⟩ := dfs d_dot (by simp [fn])
      have e7 := in_dot f7 (glo "dot" (by simp [fa, fa_0, fa_1])) (hd ("dot", none) (by simp [tf]))
      obtain ⟨_, f8⟩ := dfs d_unit (by simp [fn])
      have e8 := in_unit f8 (glo "unit" (by simp [fa, fa_0, fa_1])) (hd ("unit", none) (by simp [tf]))
      obtain ⟨_, f9⟩ := dfs d_mixed (by simp [fn])
      have e9 := in_mixed f9 (glo "mixed" (by simp [fa, fa_0, fa_1])) (hd ("mixed", none) (by simp [tf]))
      obtain ⟨_, f10⟩ := dfs d_worse_seen (by simp [fn])
      have e10 := in_worse_seen f10 (glo "worse_seen" (by simp [fa, fa_0, fa_1])) (hd ("worse_seen", none) (by simp [tf]))
      obtain ⟨_, f11⟩ := dfs d_pays_back (by simp [fn])
      have e11 := in_pays_back f11 (glo "pays_back" (by simp [fa, fa_0, fa_1])) (hd ("pays_back", none) (by simp [tf]))
      obtain ⟨_, f12⟩ := dfs d_joined_cells (by simp [fn])
      have e12 := in_joined_cells f12 (glo "joined_cells" (by simp [fa, fa_0, fa_1])) (hd ("joined_cells", none) (by simp [tf]))
      obtain ⟨_, f13⟩ := dfs d__law_pool (by simp [fn])
      have e13 := in__law_pool f13 (glo "_law_pool" (by simp [fa, fa_0, fa_1])) (hd ("_law_pool", none) (by simp [tf]))
      obtain ⟨_, f14⟩ := dfs d__law_draw (by simp [fn])
      have e14 := in__law_draw f14 (glo "_law_draw" (by simp [fa, fa_0, fa_1])) (hd ("_law_draw", none) (by simp [tf]))
      obtain ⟨_, f15⟩ := dfs d__law_so (by simp [fn])
      have e15 := in__law_so f15 (glo "_law_so" (by simp [fa, fa_0, fa_1])) (hd ("_law_so", none) (by simp [tf]))
      obtain ⟨_, f16⟩ := dfs d__law_frac (by simp [fn])
      have e16 := in__law_frac f16 (glo "_law_frac" (by simp [fa, fa_0, fa_1])) (hd ("_law_frac", none) (by simp [tf]))
      obtain ⟨_, f17⟩ := dfs d__law_plus (by simp [fn])
      have e17 := in__law_plus f17 (glo "_law_plus" (by simp [fa, fa_0, fa_1])) (hd ("_law_plus", none) (by simp [tf]))
      obtain ⟨_, f18⟩ := dfs d__law_minus (by simp [fn])
      have e18 := in__law_minus f18 (glo "_law_minus" (by simp [fa, fa_0, fa_1])) (hd ("_law_minus", none) (by simp [tf]))
      obtain ⟨_, f19⟩ := dfs d__law_times (by simp [fn])
      have e19 := in__law_times f19 (glo "_law_times" (by simp [fa, fa_0, fa_1])) (hd ("_law_times", none) (by simp [tf]))
      obtain ⟨_, f20⟩ := dfs d__law_sum (by simp [fn])
      have e20 := in__law_sum f20 (glo "_law_sum" (by simp [fa, fa_0, fa_1])) (hd ("_law_sum", none) (by simp [tf]))
      obtain ⟨_, f21⟩ := dfs d__law_dot (by simp [fn])
      have e21 := in__law_dot f21 (glo "_law_dot" (by simp [fa, fa_0, fa_1])) (hd ("_law_dot", none) (by simp [tf]))
      obtain ⟨_, f22⟩ := dfs d__law_small (by simp [fn])
      have e22 := in__law_small f22 (glo "_law_small" (by simp [fa, fa_0, fa_1])) (hd ("_law_small", none) (by simp [tf]))
      obtain ⟨_, f23⟩ := dfs d__law_slack (by simp [fn])
      have e23 := in__law_slack f23 (glo "_law_slack" (by simp [fa, fa_0, fa_1])) (hd ("_law_slack", none) (by simp [tf]))
      obtain ⟨_, f24⟩ := dfs d__law_row (by simp [fn])
      have e24 := in__law_row f24 (glo "_law_row" (by simp [fa, fa_0, fa_1])) (hd ("_law_row", none) (by simp [tf]))
      obtain ⟨_, f25⟩ := dfs d__law_pairs (by simp [fn])
      have e25 := in__law_pairs f25 (glo "_law_pairs" (by simp [fa, fa_0, fa_1])) (hd ("_law_pairs", none) (by simp [tf]))
      obtain ⟨_, f26⟩ := dfs d__law_shares (by simp [fn])
      have e26 := in__law_shares f26 (glo "_law_shares" (by simp [fa, fa_0, fa_1])) (hd ("_law_shares", none) (by simp [tf]))
      obtain ⟨_, f27⟩ := dfs d__law_worse (by simp [fn])
      have e27 := in__law_worse f27 (glo "_law_worse" (by simp [fa, fa_0, fa_1])) (hd ("_law_worse", none) (by simp [tf]))
      obtain ⟨_, f28⟩ := dfs d__law_back (by simp [fn])
      have e28 := in__law_back f28 (glo "_law_back" (by simp [fa, fa_0, fa_1])) (hd ("_law_back", none) (by simp [tf]))
      obtain ⟨_, f29⟩ := dfs d_law (by simp [fn])
      have e29 := in_law f29 (glo "law" (by simp [fa, fa_0, fa_1])) (hd ("law", none) (by simp [tf]))
      exact List.forall_mem_cons.mpr ⟨e0, List.forall_mem_cons.mpr ⟨e1, List.forall_mem_cons.mpr ⟨e2, List.forall_mem_cons.mpr ⟨e3, List.forall_mem_cons.mpr ⟨e4, List.forall_mem_cons.mpr ⟨e5, List.forall_mem_cons.mpr ⟨e6, List.forall_mem_cons.mpr ⟨e7, List.forall_mem_cons.mpr ⟨e8, List.forall_mem_cons.mpr ⟨e9, List.forall_mem_cons.mpr ⟨e10, List.forall_mem_cons.mpr ⟨e11, List.forall_mem_cons.mpr ⟨e12, List.forall_mem_cons.mpr ⟨e13, List.forall_mem_cons.mpr ⟨e14, List.forall_mem_cons.mpr ⟨e15, List.forall_mem_cons.mpr ⟨e16, List.forall_mem_cons.mpr ⟨e17, List.forall_mem_cons.mpr ⟨e18, List.forall_mem_cons.mpr ⟨e19, List.forall_mem_cons.mpr ⟨e20, List.forall_mem_cons.mpr ⟨e21, List.forall_mem_cons.mpr ⟨e22, List.forall_mem_cons.mpr ⟨e23, List.forall_mem_cons.mpr ⟨e24, List.forall_mem_cons.mpr ⟨e25, List.forall_mem_cons.mpr ⟨e26, List.forall_mem_cons.mpr ⟨e27, List.forall_mem_cons.mpr ⟨e28, List.forall_mem_cons.mpr ⟨e29, fun _ h => by simp at h⟩⟩⟩⟩⟩⟩⟩⟩⟩⟩⟩⟩⟩⟩⟩⟩⟩⟩⟩⟩⟩⟩⟩⟩⟩⟩⟩⟩⟩⟩
    exact fun x i ps kss hx => key (x, (i, ps, kss)) (lookup_in hx)
end K16
end

section
set_option linter.all false
set_option autoImplicit false
set_option maxRecDepth 100000
/-! Running the small language by rewriting. -/
namespace IX
open PySem
section
variable (W : Wd) (G : Str → Option P) (N : Nat)
def whl (t : E) (b : List S) (n : Nat) (ρ : Env) (M : Mem) : Option Out := whileL (fun ρ M => evT W G t ρ M) (fun ρ M => evSs W G N b ρ M) n ρ M
def lop (t : T) (b : List S) (s : Src) (xs : List P) (ρ : Env) (M : Mem) : Option Out := forL s (fun x ρ M => (t.put x ρ).bind fun ρ' => evSs W G N b ρ' M) xs ρ M
def lcx (vs : List Nat) (elt : E) (t : T) (ifs : List E) (ρ : Env) (x : P) (M : Mem) : Option (List P × Mem) := do
      let ρ' ← t.put x (wipeE ρ vs)
      let (b, M) ← evIfs W G ifs ρ' M
      if b then do
        let (y, M) ← evE W G elt ρ' M
        match y with
        | .p r => some ([r], M)
        | _ => none
      else some ([], M)
def lcs (vs : List Nat) (elt : E) (t : T) (ifs : List E) (s : Src) (xs : List P) (ρ : Env) (M : Mem) : Option (List P × Mem) := turns s (lcx W G vs elt t ifs ρ) xs M
def gnx (vs : List Nat) (elt : E) (t : T) (ifs : List E) (ρ : Env) (M : Mem) (x : P) : Option (Option P) := do
      let ρ' ← t.put x (wipeE ρ vs)
      let (b, M') ← evIfs W G ifs ρ' M
      if b then do
        let (y, M'') ← evE W G elt ρ' M'
        match y with
        | .p r => if M'' = M then some (some r) else none
        | _ => none
      else if M' = M then some none else none
def callX (f : Nat) (as : List D) (M : Mem) : Option (D × Mem) := match callIn as 0 with
  | (bs, is) => if is.Nodup then (getAll M is).bind fun Ms => (W f bs Ms).bind fun q => callOut is q.1 q.2 M else none
def lcx2 (vs : List Nat) (elt : E) (t : T) (ifs : List E) (vs1 : List Nat) (t1 : T) (k1 : IK) (sr1 ifs1 : List E) (ρ : Env) (x : P) (M : Mem) : Option (List P × Mem) := do
      let ρ' ← t.put x (wipeE ρ vs)
      let (b, M) ← evIfs W G ifs ρ' M
      if b then do
        let (ds1, M) ← evEs W G sr1 ρ' M
        let s1 ← src k1 ds1 M
        if noScr ρ' && s1.fr then lcs W G vs1 elt t1 ifs1 s1 s1.xs ρ' M else none
      else some ([], M)
def lcs2 (vs : List Nat) (elt : E) (t : T) (ifs : List E) (vs1 : List Nat) (t1 : T) (k1 : IK) (sr1 ifs1 : List E) (s : Src) (xs : List P) (ρ : Env) (M : Mem) : Option (List P × Mem) := turns s (lcx2 W G vs elt t ifs vs1 t1 k1 sr1 ifs1 ρ) xs M
variable {W G N} {ρ : Env} {M : Mem}
@[simp] theorem e_lc2 (vs : List Nat) (elt : E) (t : T) (k : IK) (sr ifs : List E) (vs1 : List Nat) (t1 : T) (k1 : IK) (sr1 ifs1 : List E) : evE W G (.lc2 vs elt t k sr ifs vs1 t1 k1 sr1 ifs1) ρ M = (evEs W G sr ρ M).bind fun p => (src k p.1 p.2).bind fun s => (lcs2 W G vs elt t ifs vs1 t1 k1 sr1 ifs1 s s.xs ρ p.2).bind fun q => newl q.1 q.2 := by rfl
@[simp] theorem lcs2_nil (vs : List Nat) (elt : E) (t : T) (ifs : List E) (vs1 : List Nat) (t1 : T) (k1 : IK) (sr1 ifs1 : List E) (s : Src) : lcs2 W G vs elt t ifs vs1 t1 k1 sr1 ifs1 s [] ρ M = some ([], M) := by rfl
theorem lcs2_cons (vs : List Nat) (elt : E) (t : T) (ifs : List E) (vs1 : List Nat) (t1 : T) (k1 : IK) (sr1 ifs1 : List E) (s : Src) (x : P) (r : List P) : lcs2 W G vs elt t ifs vs1 t1 k1 sr1 ifs1 s (x :: r) ρ M = (lcx2 W G vs elt t ifs vs1 t1 k1 sr1 ifs1 ρ x M).bind fun o => if s.ok o.2 = true then (lcs2 W G vs elt t ifs vs1 t1 k1 sr1 ifs1 s r ρ o.2).bind fun q => some (o.1 ++ q.1, q.2) else none := by rfl
@[simp] theorem ge_tup (s : Src) (F : P → Option (Option P)) : genEnd .tuple s F M = (gturns F s.xs).bind fun ys => if ys.length + 1 < sizeLine then some (.p (.tup ys), M) else none := by rfl
@[simp] theorem ge_sum (s : Src) (F : P → Option (Option P)) : genEnd .sum s F M = (gturns F s.xs).bind fun ys => (intsP ys).bind fun is => if ys.length + 1 < sizeLine then some (.p (.int is.sum), M) else none := by rfl
@[simp] theorem e_v (i : Nat) : evE W G (.v i) ρ M = (match ρ[i]? with | some (some d) => some (d, M) | _ => none) := by rfl
@[simp] theorem e_c (x : P) : evE W G (.c x) ρ M = some (.p x, M) := by rfl
@[simp] theorem e_g (n : Str) : evE W G (.g n) ρ M = (G n).map fun x => (.p x, M) := by rfl
@[simp] theorem e_bin (o : BO) (a b : E) : evE W G (.bin o a b) ρ M = (evE W G a ρ M).bind fun p => (evE W G b ρ p.2).bind fun q => binop o p.1 q.1 q.2 := by rfl
@[simp] theorem e_neg (a : E) : evE W G (.neg a) ρ M = (evE W G a ρ M).bind fun p => (match p.1 with | .p (.int i) => some (.p (.int (-i)), p.2) | _ => none) := by rfl
@[simp] theorem e_not (a : E) : evE W G (.not a) ρ M = (evE W G a ρ M).bind fun p => (truth p.2 p.1).bind fun b => some (.p (.bl (!b)), p.2) := by rfl
@[simp] theorem e_cmp (o : CO) (a b : E) : evE W G (.cmp o a b) ρ M = (evE W G a ρ M).bind fun p => (evE W G b ρ p.2).bind fun q => (cmpop o p.1 q.1 q.2).bind fun r => some (.p (.bl r), q.2) := by rfl
@[simp] theorem e_and (l : List E) : evE W G (.and l) ρ M = evAnd W G l ρ M := by rfl
@[simp] theorem e_or (l : List E) : evE W G (.or l) ρ M = evOr W G l ρ M := by rfl
@[simp] theorem e_ife (t a b : E) : evE W G (.ife t a b) ρ M = (evT W G t ρ M).bind fun p => if p.1 = true then evE W G a ρ p.2 else evE W G b ρ p.2 := by rfl
@[simp] theorem e_tup (l : List E) : evE W G (.tup l) ρ M = (evEs W G l ρ M).bind fun p => (datas p.1).bind fun ps => if ps.length ≤ sizeLine then some (.p (.tup ps), p.2) else none := by rfl
@[simp] theorem e_lst (l : List E) : evE W G (.lst l) ρ M = (evEs W G l ρ M).bind fun p => (datas p.1).bind fun ps => newl ps p.2 := by rfl
@[simp] theorem e_idx (a i : E) : evE W G (.idx a i) ρ M = (evE W G a ρ M).bind fun p => (evE W G i ρ p.2).bind fun q => (index p.1 q.1 q.2).bind fun r => some (.p r, q.2) := by rfl
@[simp] theorem e_call (f : Nat) (l : List E) (ix : List Nat) : evE W G (.call f l ix) ρ M = (evEs W G l ρ M).bind fun p => (getAll p.1 ix).bind fun as => callX W f as p.2 := by rfl
@[simp] theorem e_bi (b : BI) (l : List E) : evE W G (.bi b l) ρ M = (evEs W G l ρ M).bind fun p => bfun b p.1 p.2 := by rfl
@[simp] theorem e_mt (m : MT) (o : E) (l : List E) : evE W G (.mt m o l) ρ M = (evE W G o ρ M).bind fun p => (evEs W G l ρ p.2).bind fun q => (match p.1 with | .l i => (q.2[i]?).bind fun xs => (mtf m xs q.1).bind fun r => some (.p r.1, q.2.set i r.2) | _ => none) := by rfl
@[simp] theorem e_lc (vs : List Nat) (elt : E) (t : T) (k : IK) (sr ifs : List E) : evE W G (.lc vs elt t k sr ifs) ρ M = (evEs W G sr ρ M).bind fun p => (src k p.1 p.2).bind fun s => (lcs W G vs elt t ifs s s.xs ρ p.2).bind fun q => newl q.1 q.2 := by rfl
@[simp] theorem e_gen (gk : GK) (vs : List Nat) (elt : E) (t : T) (k : IK) (sr ifs : List E) : evE W G (.gen gk vs elt t k sr ifs) ρ M = (evEs W G sr ρ M).bind fun p => (src k p.1 p.2).bind fun s => genEnd gk s (gnx W G vs elt t ifs ρ p.2) p.2 := by rfl
@[simp] theorem es_nil : evEs W G [] ρ M = some ([], M) := by rfl
@[simp] theorem es_cons (e : E) (es : List E) : evEs W G (e :: es) ρ M = (evE W G e ρ M).bind fun p => (evEs W G es ρ p.2).bind fun q => some (p.1 :: q.1, q.2) := by rfl
@[simp] theorem t_tru' (a : E) : evT W G (.tru a) ρ M = (evE W G a ρ M).bind fun p => (truth p.2 p.1).bind fun b => some (b, p.2) := by rfl
@[simp] theorem t_not' (a : E) : evT W G (.not a) ρ M = (evT W G a ρ M).bind fun p => some (!p.1, p.2) := by rfl
@[simp] theorem t_cmp' (o : CO) (a b : E) : evT W G (.cmp o a b) ρ M = (evE W G a ρ M).bind fun p => (evE W G b ρ p.2).bind fun q => (cmpop o p.1 q.1 q.2).bind fun r => some (r, q.2) := by rfl
@[simp] theorem t_and' (l : List E) : evT W G (.and l) ρ M = evTAnd W G l ρ M := by rfl
@[simp] theorem t_or' (l : List E) : evT W G (.or l) ρ M = evTOr W G l ρ M := by rfl
@[simp] theorem ta1 (e : E) : evTAnd W G [e] ρ M = evT W G e ρ M := by rfl
@[simp] theorem ta2 (e f : E) (es : List E) : evTAnd W G (e :: f :: es) ρ M = (evT W G e ρ M).bind fun p => if p.1 = true then evTAnd W G (f :: es) ρ p.2 else some (false, p.2) := by rfl
@[simp] theorem to1 (e : E) : evTOr W G [e] ρ M = evT W G e ρ M := by rfl
@[simp] theorem to2 (e f : E) (es : List E) : evTOr W G (e :: f :: es) ρ M = (evT W G e ρ M).bind fun p => if p.1 = true then some (true, p.2) else evTOr W G (f :: es) ρ p.2 := by rfl
@[simp] theorem va1 (e : E) : evAnd W G [e] ρ M = evE W G e ρ M := by rfl
@[simp] theorem vo1 (e : E) : evOr W G [e] ρ M = evE W G e ρ M := by rfl
@[simp] theorem va2 (e f : E) (es : List E) : evAnd W G (e :: f :: es) ρ M = (evE W G e ρ M).bind fun p => (match p.1 with | .p (.bl true) => evAnd W G (f :: es) ρ p.2 | .p (.bl false) => some (.p (.bl false), p.2) | _ => none) := by rfl
@[simp] theorem vo2 (e f : E) (es : List E) : evOr W G (e :: f :: es) ρ M = (evE W G e ρ M).bind fun p => (match p.1 with | .p (.bl true) => some (.p (.bl true), p.2) | .p (.bl false) => evOr W G (f :: es) ρ p.2 | _ => none) := by rfl
@[simp] theorem ifs0 : evIfs W G [] ρ M = some (true, M) := by rfl
@[simp] theorem ifs1 (c : E) : evIfs W G [c] ρ M = evT W G c ρ M := by rfl
@[simp] theorem ss_nil' : evSs W G N [] ρ M = some (.nx ρ M) := by rfl
@[simp] theorem ss_cons' (s : S) (r : List S) : evSs W G N (s :: r) ρ M = (evS W G N s ρ M).bind fun o => (match o with | .nx ρ M => evSs W G N r ρ M | o => some o) := by rfl
@[simp] theorem s_set' (t : T) (e : E) : evS W G N (.set t e) ρ M = (evE W G e ρ M).bind fun p => (t.putD p.1 ρ).bind fun ρ' => some (.nx ρ' p.2) := by rfl
@[simp] theorem s_par' (is : List Nat) (es : List E) : evS W G N (.par is es) ρ M = (evEs W G es ρ M).bind fun p => (parE is p.1 ρ).bind fun ρ' => some (.nx ρ' p.2) := by rfl
@[simp] theorem s_seti' (o i e : E) : evS W G N (.seti o i e) ρ M = (evE W G e ρ M).bind fun d => (evE W G o ρ d.2).bind fun x => (evE W G i ρ x.2).bind fun k => (match x.1, k.1, d.1 with
    | .l j, .p (.int n), .p v => (k.2[j]?).bind fun xs => (seti xs n v).bind fun ys => some (.nx ρ (k.2.set j ys))
    | _, _, _ => none) := by rfl
@[simp] theorem s_aug' (i : Nat) (o : BO) (e : E) : evS W G N (.aug i o e) ρ M = (match ρ[i]? with
    | some (some x) => (evE W G e ρ M).bind fun y => (augop o x y.1).bind fun z => some (.nx (ρ.set i (some (.p z))) y.2)
    | _ => none) := by rfl
@[simp] theorem s_augi' (a i : E) (o : BO) (e : E) : evS W G N (.augi a i o e) ρ M = (evE W G a ρ M).bind fun x => (evE W G i ρ x.2).bind fun k => (index x.1 k.1 k.2).bind fun old => (evE W G e ρ k.2).bind fun y => (augop o (.p old) y.1).bind fun z => (match x.1, k.1 with
    | .l j, .p (.int n) => (y.2[j]?).bind fun xs => (seti xs n z).bind fun ys => some (.nx ρ (y.2.set j ys))
    | _, _ => none) := by rfl
@[simp] theorem s_ife' (t : E) (a b : List S) : evS W G N (.ife t a b) ρ M = (evT W G t ρ M).bind fun p => if p.1 = true then evSs W G N a ρ p.2 else evSs W G N b ρ p.2 := by rfl
@[simp] theorem s_loop' (t : T) (k : IK) (sr : List E) (b : List S) : evS W G N (.loop t k sr b) ρ M = (evEs W G sr ρ M).bind fun p => (src k p.1 p.2).bind fun s => lop W G N t b s s.xs ρ p.2 := by rfl
@[simp] theorem s_whl' (t : E) (b : List S) : evS W G N (.whl t b) ρ M = whl W G N t b N ρ M := by rfl
@[simp] theorem s_ret' (e : E) : evS W G N (.ret e) ρ M = (evE W G e ρ M).bind fun p => some (.rt p.1 p.2) := by rfl
@[simp] theorem s_retn' : evS W G N .retn ρ M = some (.rt (.p .non) M) := by rfl
@[simp] theorem s_ex' (e : E) : evS W G N (.ex e) ρ M = (evE W G e ρ M).bind fun p => some (.nx ρ p.2) := by rfl
@[simp] theorem s_pas' : evS W G N .pas ρ M = some (.nx ρ M) := by rfl
theorem whl_step (t : E) (b : List S) (n : Nat) : whl W G N t b (n + 1) ρ M = (evT W G t ρ M).bind fun p => if p.1 = true then (evSs W G N b ρ p.2).bind fun o => (match o with
      | .nx ρ M => whl W G N t b n ρ M
      | .ct ρ M => whl W G N t b n ρ M
      | .bk ρ M => some (.nx ρ M)
      | .rt d M => some (.rt d M)) else some (.nx ρ p.2) := by rfl
@[simp] theorem lop_nil (t : T) (b : List S) (s : Src) : lop W G N t b s [] ρ M = some (.nx ρ M) := by rfl
theorem lop_cons (t : T) (b : List S) (s : Src) (x : P) (r : List P) : lop W G N t b s (x :: r) ρ M = ((t.put x ρ).bind fun ρ' => evSs W G N b ρ' M).bind fun o => (match o with
    | .nx ρ M => if s.ok M = true then lop W G N t b s r ρ M else none
    | .ct ρ M => if s.ok M = true then lop W G N t b s r ρ M else none
    | .bk ρ M => some (.nx ρ M)
    | .rt d M => some (.rt d M)) := by rfl
@[simp] theorem lcs_nil (vs : List Nat) (elt : E) (t : T) (ifs : List E) (s : Src) : lcs W G vs elt t ifs s [] ρ M = some ([], M) := by rfl
theorem lcs_cons (vs : List Nat) (elt : E) (t : T) (ifs : List E) (s : Src) (x : P) (r : List P) : lcs W G vs elt t ifs s (x :: r) ρ M = (lcx W G vs elt t ifs ρ x M).bind fun o => if s.ok o.2 = true then (lcs W G vs elt t ifs s r ρ o.2).bind fun q => some (o.1 ++ q.1, q.2) else none := by rfl
@[simp] theorem putD_nm (i : Nat) (d : D) : T.putD (.nm i) d ρ = if i < ρ.length then some (ρ.set i (some d)) else none := by rfl
@[simp] theorem putD_tp (ts : List T) (x : P) : T.putD (.tp ts) (.p x) ρ = T.put (.tp ts) x ρ := by rfl
@[simp] theorem put_nm (i : Nat) (x : P) : T.put (.nm i) x ρ = if i < ρ.length then some (ρ.set i (some (.p x))) else none := by rfl
@[simp] theorem put_tp (ts : List T) (l : List P) : T.put (.tp ts) (.tup l) ρ = T.puts ts l ρ := by rfl
@[simp] theorem puts_nil : T.puts [] [] ρ = some ρ := by rfl
@[simp] theorem puts_cons (t : T) (ts : List T) (x : P) (xs : List P) : T.puts (t :: ts) (x :: xs) ρ = (T.put t x ρ).bind fun ρ' => T.puts ts xs ρ' := by rfl
@[simp] theorem b_add (a b : Int) : binop .add (.p (.int a)) (.p (.int b)) M = some (.p (.int (a + b)), M) := by rfl
@[simp] theorem b_sub (a b : Int) : binop .sub (.p (.int a)) (.p (.int b)) M = some (.p (.int (a - b)), M) := by rfl
@[simp] theorem b_mul (a b : Int) : binop .mul (.p (.int a)) (.p (.int b)) M = if mulOk a b = true then some (.p (.int (a * b)), M) else none := by rfl
@[simp] theorem b_div (a b : Int) : binop .fdiv (.p (.int a)) (.p (.int b)) M = if divOk b = true then some (.p (.int (a.fdiv b)), M) else none := by rfl
@[simp] theorem b_mod (a b : Int) : binop .mod (.p (.int a)) (.p (.int b)) M = if b ≠ 0 then some (.p (.int (a.fmod b)), M) else none := by rfl
@[simp] theorem c_lt (a b : Int) : cmpop .lt (.p (.int a)) (.p (.int b)) M = some (decide (a < b)) := by rfl
@[simp] theorem c_le (a b : Int) : cmpop .le (.p (.int a)) (.p (.int b)) M = some (decide (a ≤ b)) := by rfl
@[simp] theorem c_gt (a b : Int) : cmpop .gt (.p (.int a)) (.p (.int b)) M = some (decide (b < a)) := by rfl
@[simp] theorem c_ge (a b : Int) : cmpop .ge (.p (.int a)) (.p (.int b)) M = some (decide (b ≤ a)) := by rfl
@[simp] theorem eqv_int (a b : Int) : P.eqv (.int a) (.int b) = (a == b) := by rfl
@[simp] theorem c_eq (a b : Int) : cmpop .eq (.p (.int a)) (.p (.int b)) M = some (a == b) := by rfl
@[simp] theorem c_ne (a b : Int) : cmpop .ne (.p (.int a)) (.p (.int b)) M = some (!(a == b)) := by rfl
@[simp] theorem tr_int (a : Int) : truth M (.p (.int a)) = some (a != 0) := by rfl
@[simp] theorem tr_bl (a : Bool) : truth M (.p (.bl a)) = some a := by rfl
@[simp] theorem bf_abs (a : Int) : bfun .abs [.p (.int a)] M = some (.p (.int (if a < 0 then -a else a)), M) := by rfl
@[simp] theorem bf_int (a : Int) : bfun .int [.p (.int a)] M = some (.p (.int a), M) := by rfl
@[simp] theorem bf_intb (b : Bool) : bfun .int [.p (.bl b)] M = some (.p (.int (if b then 1 else 0)), M) := by rfl
@[simp] theorem bf_len (d : D) : bfun .len [d] M = (items M d).bind fun l => some (.p (.int l.length), M) := by rfl
@[simp] theorem bf_tuple (d : D) : bfun .tuple [d] M = (items M d).bind fun l => some (.p (.tup l), M) := by rfl
@[simp] theorem bf_list (d : D) : bfun .list [d] M = (items M d).bind fun l => newl l M := by rfl
@[simp] theorem it_tup' (l : List P) : items M (.p (.tup l)) = some l := by rfl
@[simp] theorem it_l' (i : Nat) : items M (.l i) = M[i]? := by rfl
@[simp] theorem it_scr' (l : List P) : items M (.scr l) = some l := by rfl
@[simp] theorem datas_nil : datas [] = some [] := by rfl
@[simp] theorem datas_cons (x : P) (r : List D) : datas (.p x :: r) = (datas r).bind fun xs => some (x :: xs) := by rfl
@[simp] theorem par_nil : parE [] [] ρ = some ρ := by rfl
@[simp] theorem par_cons (i : Nat) (is : List Nat) (d : D) (ds : List D) : parE (i :: is) (d :: ds) ρ = if i < ρ.length then parE is ds (ρ.set i (some d)) else none := by rfl
@[simp] theorem ga_nil {A : Type} (xs : List A) : getAll xs [] = some [] := by rfl
@[simp] theorem ga_cons {A : Type} (xs : List A) (i : Nat) (r : List Nat) : getAll xs (i :: r) = (xs[i]?).bind fun x => (getAll xs r).bind fun rs => some (x :: rs) := by rfl
@[simp] theorem fin_rt (d : D) (M : Mem) : fin (.rt d M) = some (d, M) := by rfl
@[simp] theorem fin_nx (ρ : Env) (M : Mem) : fin (.nx ρ M) = some (.p .non, M) := by rfl
theorem evF_step (Φ : Nat → Option Fn) (k f : Nat) (ds : List D) (fn : Fn) (h : Φ f = some fn) (hl : ds.length = fn.np) : evF Φ G N (k + 1) f ds M = (evSs (evF Φ G N k) G N fn.body (entry fn ds) M).bind fin := by
  show ((Φ f).bind fun fn => if ds.length = fn.np then (evSs (evF Φ G N k) G N fn.body (entry fn ds) M).bind fin else none) = _
  rw [h]
  exact if_pos hl
@[simp] theorem obs {A B : Type} (a : A) (f : A → Option B) : (some a).bind f = f a := by rfl
/-- a call with data alone -/
theorem callX_p (f : Nat) (ps : List P) (x : P) (h : W f (ps.map .p) [] = some (.p x, [])) : callX W f (ps.map .p) M = some (.p x, M) := by
  have hc : ∀ (ps : List P) (n : Nat), callIn (ps.map D.p) n = (ps.map D.p, []) := by
    intro ps
    induction ps with
    | nil => intro n; rfl
    | cons p ps ih =>
      intro n
      show (let q := callIn (ps.map D.p) n; (D.p p :: q.1, q.2)) = _
      rw [ih]; rfl
  unfold callX
  rw [hc]
  simp [-Option.bind_some, h, callOut, putAll]
end
end IX
end

section
set_option linter.all false
set_option autoImplicit false
set_option maxRecDepth 10000
namespace K16
open PySem IX
abbrev G : Str → Option P := fun x => pg.G.lookup x
abbrev W (L k : Nat) : Wd := evF tab G L k
/-- a fraction -/
def fr (q : Rat) : P := .tup [.int q.num, .int q.den]
theorem fmod_nat (a b : Nat) : ((a : Int).fmod (b : Int)) = ((a % b : Nat) : Int) := by
  rw [Int.fmod_eq_emod_of_nonneg _ (by omega)]; rfl
/-- Euclid's loop, over slots i and j -/
theorem gcd_loop {W : Wd} {N : Nat} {M : Mem} {x y : Option D} : ∀ (fuel b a : Nat), b < fuel →
    whl W G N (.cmp .gt (.v 3) (.c (.int 0))) [.par [2, 3] [.v 3, .bin .mod (.bi .int [.v 2]) (.v 3)]] fuel [x, y, some (.p (.int a)), some (.p (.int b))] M =
      some (.nx [x, y, some (.p (.int (Nat.gcd a b))), some (.p (.int 0))] M) := by
  intro fuel
  induction fuel with
  | zero => intro b a h; omega
  | succ fuel ih =>
    intro b a h
    rw [whl_step]
    by_cases hb : b = 0
    · subst hb
      simp
    · have h0 : (0 : Int) < b := by omega
      have hne : (b : Int) ≠ 0 := by omega
      simp [-Option.bind_some, h0, hb]
      rw [fmod_nat, ih (a % b) b (by have := Nat.mod_lt a (Nat.pos_of_ne_zero hb); omega), if_pos (Nat.pos_of_ne_zero hb)]
      rw [Nat.gcd_comm b (a % b), ← Nat.gcd_rec, Nat.gcd_comm b a]
theorem abs_nat (n : Int) : (if n < 0 then -n else n) = (n.natAbs : Int) := by split <;> omega
theorem num_eq (n : Int) (d : Nat) (h : d ≠ 0) : (mkRat n d).num = n / ((n.natAbs.gcd d : Nat) : Int) ∧ (mkRat n d).den = d / n.natAbs.gcd d := by
  rw [Rat.mkRat_def, dif_neg h, Rat.normalize_eq]
  exact ⟨rfl, rfl⟩
theorem divOk_of {b : Nat} (h : 0 < b) (h2 : b < 2 ^ 9000) : divOk (b : Int) = true := by
  unfold divOk
  have : (b : Int).natAbs.log2 < 9000 := by
    rw [Int.natAbs_natCast]
    exact (Nat.log2_lt (by omega)).mpr h2
  simp only [Bool.or_eq_true, Bool.and_eq_true, decide_eq_true_eq]
  exact .inl ⟨Int.natCast_pos.mpr h, this⟩
theorem s2 : (2 : Nat) ≤ sizeLine := by decide
theorem frac_ok {L : Nat} (k : Nat) (n : Int) (d : Nat) (hd : 0 < d) (h1 : d < 2 ^ 9000) (hL : 2 ^ 9000 < L) : W L (k + 1) 16 [.p (.int n), .p (.int d)] [] = some (.p (fr (mkRat n d)), []) := by
  unfold W
  rw [evF_step _ _ _ _ F__law_frac rfl rfl]
  have hg : 0 < n.natAbs.gcd d := Nat.gcd_pos_of_pos_right _ hd
  have hg2 : n.natAbs.gcd d < 2 ^ 9000 := Nat.lt_of_le_of_lt (Nat.gcd_le_right _ hd) h1
  have hdo := divOk_of hg hg2
  have lp := gcd_loop (W := evF tab G L k) (N := L) (M := []) (x := some (.p (.int n))) (y := some (.p (.int d))) L d n.natAbs (by omega)
  obtain ⟨e1, e2⟩ := num_eq n d (by omega)
  have f1 : n.fdiv ((n.natAbs.gcd d : Nat) : Int) = (mkRat n d).num := by rw [e1, Int.fdiv_eq_ediv_of_nonneg _ (by omega)]
  have f2 : (d : Int).fdiv ((n.natAbs.gcd d : Nat) : Int) = ((mkRat n d).den : Int) := by rw [e2, Int.fdiv_eq_ediv_of_nonneg _ (by omega)]; rfl
  simp [-Option.bind_some, F__law_frac, entry, abs_nat, lp, hdo, f1, f2, fr, s2]
/-- small: n's size and d are below 2^m -/
def Bd (m : Nat) (q : Rat) : Prop := q.num.natAbs < 2 ^ m ∧ q.den < 2 ^ m
theorem mulOk_of {a b : Int} (h1 : a.natAbs < 2 ^ 4000) (h2 : b.natAbs < 2 ^ 4000) : mulOk a b = true := by
  unfold mulOk
  have l1 : a.natAbs.log2 < 4000 := by
    by_cases h : a.natAbs = 0
    · rw [h]; decide
    · exact (Nat.log2_lt h).mpr h1
  have l2 : b.natAbs.log2 < 4000 := by
    by_cases h : b.natAbs = 0
    · rw [h]; decide
    · exact (Nat.log2_lt h).mpr h2
  rw [decide_eq_true_eq]
  omega
theorem Bd.mono {m n : Nat} {q : Rat} (h : Bd m q) (hl : m ≤ n) : Bd n q := ⟨Nat.lt_of_lt_of_le h.1 (Nat.pow_le_pow_right (by decide) hl), Nat.lt_of_lt_of_le h.2 (Nat.pow_le_pow_right (by decide) hl)⟩
theorem mk_bd {n : Int} {d m : Nat} (hd : 0 < d) (h1 : n.natAbs < 2 ^ m) (h2 : d < 2 ^ m) : Bd m (mkRat n d) := by
  obtain ⟨e1, e2⟩ := num_eq n d (by omega)
  refine ⟨?_, ?_⟩
  · rw [e1]
    refine Nat.lt_of_le_of_lt ?_ h1
    exact Int.natAbs_ediv_le_natAbs _ _
  · rw [e2]
    exact Nat.lt_of_le_of_lt (Nat.div_le_self _ _) h2
theorem pw {a b m n : Nat} (h1 : a < 2 ^ m) (h2 : b < 2 ^ n) : a * b < 2 ^ (m + n) := by
  rw [Nat.pow_add]
  exact Nat.mul_lt_mul'' h1 h2
theorem Bd.add {m n : Nat} {q r : Rat} (h1 : Bd m q) (h2 : Bd n r) : Bd (m + n + 1) (q + r) := by
  rw [Rat.add_def']
  refine mk_bd (Nat.mul_pos q.den_pos r.den_pos) ?_ (Nat.lt_of_lt_of_le (pw h1.2 h2.2) (Nat.pow_le_pow_right (by decide) (by omega)))
  refine Nat.lt_of_le_of_lt (Int.natAbs_add_le _ _) ?_
  rw [Int.natAbs_mul, Int.natAbs_mul, Int.natAbs_natCast, Int.natAbs_natCast, Nat.pow_succ]
  have a1 := pw h1.1 h2.2
  have a2 := pw h2.1 h1.2
  rw [Nat.add_comm n m] at a2
  omega
theorem Bd.neg {m : Nat} {q : Rat} (h : Bd m q) : Bd m (-q) := ⟨by rw [Rat.neg_num, Int.natAbs_neg]; exact h.1, by rw [Rat.neg_den]; exact h.2⟩
theorem Bd.sub {m n : Nat} {q r : Rat} (h1 : Bd m q) (h2 : Bd n r) : Bd (m + n + 1) (q - r) := by
  rw [Rat.sub_eq_add_neg]; exact h1.add h2.neg
theorem Bd.mul {m n : Nat} {q r : Rat} (h1 : Bd m q) (h2 : Bd n r) : Bd (m + n) (q * r) := by
  rw [Rat.mul_def']
  refine mk_bd (Nat.mul_pos q.den_pos r.den_pos) ?_ (pw h1.2 h2.2)
  rw [Int.natAbs_mul]; exact pw h1.1 h2.1
theorem big {m : Nat} {a : Nat} (h : a < 2 ^ m) (hm : m ≤ 4000) : a < 2 ^ 4000 := Nat.lt_of_lt_of_le h (Nat.pow_le_pow_right (by decide) hm)
theorem Bd.n {m : Nat} {q : Rat} (h : Bd m q) (hm : m ≤ 4000) : q.num.natAbs < 2 ^ 4000 := big h.1 hm
theorem Bd.d {m : Nat} {q : Rat} (h : Bd m q) (hm : m ≤ 4000) : ((q.den : Int)).natAbs < 2 ^ 4000 := by rw [Int.natAbs_natCast]; exact big h.2 hm
section
variable {L : Nat} (hL : 2 ^ 9000 < L)
theorem call_frac {k : Nat} {n dI : Int} {d : Nat} {M : Mem} (he : dI = (d : Int)) (hL : 2 ^ 9000 < L) (hd : 0 < d) (h1 : d < 2 ^ 9000) : callX (W L (k + 1)) 16 [.p (.int n), .p (.int dI)] M = some (.p (fr (mkRat n d)), M) := by
  subst he
  exact callX_p 16 [.int n, .int d] _ (frac_ok k n d hd h1 hL)
theorem pos_mul (q r : Rat) : 0 < q.den * r.den := Nat.mul_pos q.den_pos r.den_pos
theorem den_big {m n : Nat} {q r : Rat} (h1 : Bd m q) (h2 : Bd n r) (hm : m ≤ 4000) (hn : n ≤ 4000) : q.den * r.den < 2 ^ 9000 := Nat.lt_of_lt_of_le (pw h1.2 h2.2) (Nat.pow_le_pow_right (by decide) (by omega))
theorem at0 (a b : P) (M : Mem) : index (.p (.tup [a, b])) (.p (.int 0)) M = some a := rfl
theorem at1 (a b : P) (M : Mem) : index (.p (.tup [a, b])) (.p (.int 1)) M = some b := rfl
theorem plus_ok (hL : 2 ^ 9000 < L) (k : Nat) {m n : Nat} {q r : Rat} (h1 : Bd m q) (h2 : Bd n r) (hm : m ≤ 4000) (hn : n ≤ 4000) : W L (k + 2) 17 [.p (fr q), .p (fr r)] [] = some (.p (fr (q + r)), []) := by
  unfold W
  rw [evF_step _ _ _ _ F__law_plus rfl rfl]
  have c := call_frac (k := k) (n := q.num * r.den + r.num * q.den) (dI := (q.den : Int) * r.den) (d := q.den * r.den) (M := []) (by simp) hL (pos_mul q r) (den_big h1 h2 hm hn)
  rw [← Rat.add_def'] at c
  have u1 := mulOk_of (h1.n hm) (h2.d hn)
  have u2 := mulOk_of (h2.n hn) (h1.d hm)
  have u3 := mulOk_of (h1.d hm) (h2.d hn)
  simp [-Option.bind_some, F__law_plus, entry, fr, at0, at1, u1, u2, u3]
  simp [-Option.bind_some, fr] at c
  rw [c]; rfl
theorem minus_ok (hL : 2 ^ 9000 < L) (k : Nat) {m n : Nat} {q r : Rat} (h1 : Bd m q) (h2 : Bd n r) (hm : m ≤ 4000) (hn : n ≤ 4000) : W L (k + 2) 18 [.p (fr q), .p (fr r)] [] = some (.p (fr (q - r)), []) := by
  unfold W
  rw [evF_step _ _ _ _ F__law_minus rfl rfl]
  have c := call_frac (k := k) (n := q.num * r.den - r.num * q.den) (dI := (q.den : Int) * r.den) (d := q.den * r.den) (M := []) (by simp) hL (pos_mul q r) (den_big h1 h2 hm hn)
  rw [← Rat.sub_def'] at c
  have u1 := mulOk_of (h1.n hm) (h2.d hn)
  have u2 := mulOk_of (h2.n hn) (h1.d hm)
  have u3 := mulOk_of (h1.d hm) (h2.d hn)
  simp [-Option.bind_some, F__law_minus, entry, fr, at0, at1, u1, u2, u3]
  simp [-Option.bind_some, fr] at c
  rw [c]; rfl
theorem times_ok (hL : 2 ^ 9000 < L) (k : Nat) {m n : Nat} {q r : Rat} (h1 : Bd m q) (h2 : Bd n r) (hm : m ≤ 4000) (hn : n ≤ 4000) : W L (k + 2) 19 [.p (fr q), .p (fr r)] [] = some (.p (fr (q * r)), []) := by
  unfold W
  rw [evF_step _ _ _ _ F__law_times rfl rfl]
  have c := call_frac (k := k) (n := q.num * r.num) (dI := (q.den : Int) * r.den) (d := q.den * r.den) (M := []) (by simp) hL (pos_mul q r) (den_big h1 h2 hm hn)
  rw [← Rat.mul_def'] at c
  have u1 := mulOk_of (h1.n hm) (h2.n hn)
  have u3 := mulOk_of (h1.d hm) (h2.d hn)
  simp [-Option.bind_some, F__law_times, entry, fr, at0, at1, u1, u3]
  simp [-Option.bind_some, fr] at c
  rw [c]; rfl
end
end K16
end

section
set_option linter.all false
set_option autoImplicit false
set_option maxRecDepth 10000
namespace K16
open PySem IX
theorem atx_nat {l : List P} {k : Nat} {x : P} (h : l[k]? = some x) : atx l (k : Int) = some x := by
  have hl := (List.getElem?_eq_some_iff.mp h).1
  unfold atx pix
  rw [if_pos (by omega), if_pos (by omega)]
  exact h
theorem idx_tup {l : List P} {k : Nat} {x : P} {M : Mem} (h : l[k]? = some x) : index (.p (.tup l)) (.p (.int k)) M = some x := atx_nat h
theorem idx_items {l : List P} {k : Nat} {x : P} {M : Mem} {d : D} (hd : items M d = some l) (h : l[k]? = some x) : index d (.p (.int k)) M = some x := by
  show (items M d).bind (fun xs => atx xs k) = some x
  rw [hd]
  exact atx_nat h
section
variable {Wd : Wd} {G : Str → Option P} {N : Nat} {ρ : IX.Env} {M : Mem} {vs : List Nat} {elt : E} {t : T} {ifs : List E} {s : Src}
theorem lcs_map (f : P → P) : ∀ xs : List P, (∀ x ∈ xs, lcx Wd G vs elt t ifs ρ x M = some ([f x], M)) → s.ok M = true → lcs Wd G vs elt t ifs s xs ρ M = some (xs.map f, M)
  | [], _, _ => rfl
  | x :: xs, h, ho => by
    rw [lcs_cons, h x List.mem_cons_self]
    simp only [obs, ho, if_true]
    rw [lcs_map f xs (fun y hy => h y (List.mem_cons_of_mem _ hy)) ho]
    rfl
theorem gturns_map (f : P → P) {F : P → Option (Option P)} : ∀ xs : List P, (∀ x ∈ xs, F x = some (some (f x))) → gturns F xs = some (xs.map f)
  | [], _ => rfl
  | x :: xs, h => by
    show (do
      let o ← F x
      let ys ← gturns F xs
      some (o.toList ++ ys)) = _
    rw [h x List.mem_cons_self, gturns_map f xs fun y hy => h y (List.mem_cons_of_mem _ hy)]
    rfl
end
theorem src_rng {n : Nat} {M : Mem} (h : n < 2 ^ 62) : src .rng [.p (.int n)] M = some ⟨rangeP 0 n, [], true⟩ := by
  show (if small (n : Int) = true then some (Src.mk (rangeP 0 (n : Int).toNat) [] true) else none) = _
  rw [if_pos]
  · simp
  · unfold small
    rw [Bool.and_eq_true, decide_eq_true_eq, decide_eq_true_eq]
    constructor
    · have : (0 : Int) ≤ 2 ^ 62 := by decide
      omega
    · exact_mod_cast h
theorem ok0 {xs : List P} {b : Bool} {M : Mem} : (Src.mk xs [] b).ok M = true := rfl
theorem rng_map {A : Type} (g : Nat → A) (n : Nat) (f : P → A) (h : ∀ k < n, f (.int k) = g k) : (rangeP 0 n).map f = (List.range n).map g := by
  unfold rangeP
  rw [List.map_map]
  refine List.map_congr_left fun k hk => ?_
  rw [List.mem_range] at hk
  show f (.int (0 + (k : Int))) = g k
  rw [Int.zero_add]
  exact h k hk
theorem rng_mem {n : Nat} {x : P} (h : x ∈ rangeP 0 n) : ∃ k : Nat, k < n ∧ x = .int k := by
  unfold rangeP at h
  obtain ⟨k, hk, rfl⟩ := List.mem_map.mp h
  rw [List.mem_range] at hk
  exact ⟨k, hk, by rw [Int.zero_add]⟩
/-- the sum as the law's own code has it -/
def rsum : List Rat → Rat → Rat
  | [], w => w
  | q :: r, w => rsum r (w + q)
theorem rsum_eq : ∀ (l : List Rat) (w : Rat), rsum l w = w + l.sum
  | [], w => by rw [rsum, List.sum_nil]; grind
  | q :: r, w => by rw [rsum, rsum_eq r, List.sum_cons]; grind
theorem szl : sizeLine = 16777216 := by rfl
def AllB (a : Nat) (l : List Rat) : Prop := ∀ q ∈ l, Bd a q
theorem fr0 : P.tup [.int 0, .int 1] = fr 0 := rfl
theorem bd0 : Bd 1 0 := ⟨by decide, by decide⟩
theorem sum_loop {L : Nat} (hL : 2 ^ 9000 < L) (k a : Nat) (M : Mem) (s : Src) (ho : s.ok M = true) (f o : Option D) : ∀ (l : List Rat) (w : Rat) (m : Nat), AllB a l → Bd m w → m + (a + 1) * l.length ≤ 4000 → a ≤ 4000 →
    ∃ o', lop (W L (k + 2)) G L (.nm 2) [.set (.nm 1) (.call 17 [.v 1, .v 2] [0, 1])] s (l.map fr) [f, some (.p (fr w)), o] M = some (.nx [f, some (.p (fr (rsum l w))), o'] M) := by
  intro l
  induction l generalizing o with
  | nil => intro w m _ _ _ _; exact ⟨o, rfl⟩
  | cons q r ih =>
    intro w m hA hw hm ha
    have hq := hA q List.mem_cons_self
    rw [List.length_cons] at hm
    have hm2 : m ≤ 4000 := by
      have : 0 ≤ (a + 1) * (r.length + 1) := Nat.zero_le _
      omega
    have c : callX (W L (k + 2)) 17 [.p (fr w), .p (fr q)] M = some (.p (fr (w + q)), M) := callX_p 17 [fr w, fr q] _ (plus_ok hL k hw hq hm2 ha)
    obtain ⟨o', e⟩ := ih (some (.p (fr q))) (w + q) (m + a + 1) (fun x hx => hA x (List.mem_cons_of_mem _ hx)) (hw.add hq) (by rw [Nat.mul_succ] at hm; omega) ha
    refine ⟨o', ?_⟩
    rw [List.map_cons, lop_cons]
    simp [-Option.bind_some, c, ho, e, rsum]
theorem sum_ok {L : Nat} (hL : 2 ^ 9000 < L) (k a : Nat) (l : List Rat) (hA : AllB a l) (h : 1 + (a + 1) * l.length ≤ 4000) (ha : a ≤ 4000) : W L (k + 3) 20 [.l 0] [l.map fr] = some (.p (fr l.sum), [l.map fr]) := by
  unfold W
  rw [evF_step _ _ _ _ F__law_sum rfl rfl]
  obtain ⟨o', e⟩ := sum_loop hL k a [l.map fr] ⟨l.map fr, [(0, l.map fr)], true⟩ (by simp [-Option.bind_some, Src.ok]) (some (.l 0)) none l 0 1 hA bd0 (by omega) ha
  rw [rsum_eq, Rat.zero_add] at e
  unfold W at e
  simp [-Option.bind_some, F__law_sum, entry, s2, src, asSrc, fr0, e]
/-- the products -/
def prods : List Rat → List Rat → List Rat
  | q :: qs, r :: rs => q * r :: prods qs rs
  | _, _ => []
theorem prods_get : ∀ (qs rs : List Rat) (k : Nat) (q r : Rat), qs[k]? = some q → rs[k]? = some r → (prods qs rs)[k]? = some (q * r)
  | [], _, k, q, r, h, _ => by simp at h
  | _ :: _, [], k, q, r, _, h => by simp at h
  | a :: qs, b :: rs, 0, q, r, h, h' => by simp at h h'; subst h; subst h'; rfl
  | a :: qs, b :: rs, k + 1, q, r, h, h' => by simpa [prods] using prods_get qs rs k q r (by simpa using h) (by simpa using h')
theorem prods_len : ∀ (qs rs : List Rat), qs.length = rs.length → (prods qs rs).length = qs.length
  | [], [], _ => rfl
  | _ :: qs, _ :: rs, h => by simp [-Option.bind_some, prods, prods_len qs rs (by simpa using h)]
  | [], _ :: _, h => by simp at h
  | _ :: _, [], h => by simp at h
theorem prods_bd {a b : Nat} : ∀ {qs rs : List Rat}, AllB a qs → AllB b rs → AllB (a + b) (prods qs rs)
  | [], _, _, _ => by intro x hx; simp [-Option.bind_some, prods] at hx
  | _ :: _, [], _, _ => by intro x hx; simp [-Option.bind_some, prods] at hx
  | q :: qs, r :: rs, h1, h2 => by
    intro x hx
    rcases List.mem_cons.mp hx with e | hx
    · rw [e]; exact (h1 q List.mem_cons_self).mul (h2 r List.mem_cons_self)
    · exact prods_bd (fun y hy => h1 y (List.mem_cons_of_mem _ hy)) (fun y hy => h2 y (List.mem_cons_of_mem _ hy)) x hx
def dot (qs rs : List Rat) : Rat := (prods qs rs).sum
def row (qs : List Rat) : P := .tup (qs.map fr)
/-- a call whose one list argument comes back as it was -/
theorem callX_l {W : IX.Wd} {f : Nat} {xs : List P} {x : P} {M : Mem} {i : Nat} (hi : M[i]? = some xs) (h : W f [.l 0] [xs] = some (.p x, [xs])) : callX W f [.l i] M = some (.p x, M) := by
  unfold callX
  simp [-Option.bind_some, callIn, hi, h, callOut, putAll]
  have := (List.getElem?_eq_some_iff.mp hi)
  obtain ⟨h1, h2⟩ := this
  rw [← h2]
  exact List.set_getElem_self h1
theorem dot_ok {L : Nat} (hL : 2 ^ 9000 < L) (k a : Nat) (qs rs : List Rat) (o : D) (M0 : Mem) (ho : items M0 o = some (rs.map fr)) (hM : ∀ xs, items (M0 ++ [xs]) o = some (rs.map fr)) (hl : qs.length = rs.length) (h1 : AllB a qs) (h2 : AllB a rs) (h : 1 + (2 * a + 1) * qs.length ≤ 4000) (ha : 2 * a ≤ 4000) :
    (evSs (W L (k + 3)) G L F__law_dot.body [some (.p (row qs)), some o, none] M0).bind fin = some (.p (fr (dot qs rs)), M0 ++ [(prods qs rs).map fr]) := by
  have hq : qs.length < 2 ^ 62 := by
    have : qs.length ≤ (2 * a + 1) * qs.length := Nat.le_mul_of_pos_left _ (by omega)
    omega
  have el : ∀ x ∈ rangeP 0 qs.length, lcx (W L (k + 3)) G [2] (.call 19 [.idx (.v 0) (.v 2), .idx (.v 1) (.v 2)] [0, 1]) (.nm 2) [] [some (.p (row qs)), some o, none] x M0 =
      some ([match x with | .int j => (((prods qs rs)[j.toNat]?).map fr).getD .non | _ => .non], M0) := by
    intro x hx
    obtain ⟨j, hj, rfl⟩ := rng_mem hx
    obtain ⟨q, hq⟩ : ∃ q, qs[j]? = some q := ⟨_, List.getElem?_eq_getElem hj⟩
    obtain ⟨r, hr⟩ : ∃ r, rs[j]? = some r := ⟨_, List.getElem?_eq_getElem (by rw [← hl]; exact hj)⟩
    have i1 : index (.p (row qs)) (.p (.int j)) M0 = some (fr q) := idx_tup (by rw [List.getElem?_map, hq]; rfl)
    have i2 : index o (.p (.int j)) M0 = some (fr r) := idx_items ho (by rw [List.getElem?_map, hr]; rfl)
    have bq := h1 q (List.mem_of_getElem? hq)
    have br := h2 r (List.mem_of_getElem? hr)
    have c : callX (W L (k + 3)) 19 [.p (fr q), .p (fr r)] M0 = some (.p (fr (q * r)), M0) := callX_p 19 [fr q, fr r] _ (times_ok hL (k + 1) bq br (by omega) (by omega))
    have pg := prods_get qs rs j q r hq hr
    simp [-Option.bind_some, lcx, wipeE, i1, i2, c, pg]
  have lc := lcs_map (s := ⟨rangeP 0 qs.length, [], true⟩) _ _ el ok0
  have hm : (rangeP 0 qs.length).map (fun x => match x with | .int j => (((prods qs rs)[j.toNat]?).map fr).getD .non | _ => .non) = (prods qs rs).map fr := by
    rw [rng_map (fun j => (((prods qs rs)[j]?).map fr).getD .non) _ _ (fun j _ => by simp)]
    refine List.ext_getElem? fun j => ?_
    rw [List.getElem?_map, List.getElem?_map]
    by_cases hj : j < qs.length
    · rw [List.getElem?_range hj]
      have : j < (prods qs rs).length := by rw [prods_len _ _ hl]; exact hj
      rw [List.getElem?_eq_getElem this, Option.map_some, Option.map_some, List.getElem?_eq_getElem this]; rfl
    · rw [List.getElem?_eq_none (by simpa using hj), List.getElem?_eq_none (by rw [prods_len _ _ hl]; omega)]; rfl
  rw [hm] at lc
  have nl : newl ((prods qs rs).map fr) M0 = some (.l M0.length, M0 ++ [(prods qs rs).map fr]) := by
    unfold newl
    rw [if_pos]
    rw [List.length_map, prods_len _ _ hl]
    have : sizeLine = 16777216 := szl
    have : qs.length ≤ (2 * a + 1) * qs.length := Nat.le_mul_of_pos_left _ (by omega)
    omega
  have sm : callX (W L (k + 3)) 20 [.l M0.length] (M0 ++ [(prods qs rs).map fr]) = some (.p (fr (dot qs rs)), M0 ++ [(prods qs rs).map fr]) :=
    callX_l (by simp) (sum_ok hL k (2 * a) (prods qs rs) (by have := prods_bd h1 h2; rwa [← Nat.two_mul] at this) (by rw [prods_len _ _ hl]; exact h) ha)
  simp [-Option.bind_some, F__law_dot, row]
  rw [show ((qs.length : Nat) : Int) = ((qs.length : Nat) : Int) from rfl, src_rng hq]
  simp only [obs]
  rw [show (P.tup (List.map fr qs)) = row qs from rfl, lc]
  simp [-Option.bind_some, nl, sm]
theorem dot_pe {L : Nat} (hL : 2 ^ 9000 < L) (k a : Nat) (qs rs : List Rat) (hl : qs.length = rs.length) (h1 : AllB a qs) (h2 : AllB a rs) (h : 1 + (2 * a + 1) * qs.length ≤ 4000) (ha : 2 * a ≤ 4000) :
    W L (k + 4) 21 [.p (row qs), .p (row rs)] [] = some (.p (fr (dot qs rs)), [(prods qs rs).map fr]) := by
  have d := dot_ok hL k a qs rs (.p (row rs)) [] rfl (fun _ => rfl) hl h1 h2 h ha
  have s := evF_step (G := G) (N := L) (M := []) tab (k + 3) 21 [.p (row qs), .p (row rs)] F__law_dot rfl rfl
  exact s.trans d
theorem dot_p {L : Nat} (hL : 2 ^ 9000 < L) (k a : Nat) (qs rs : List Rat) (hl : qs.length = rs.length) (h1 : AllB a qs) (h2 : AllB a rs) (h : 1 + (2 * a + 1) * qs.length ≤ 4000) (ha : 2 * a ≤ 4000) (M : Mem) :
    callX (W L (k + 4)) 21 [.p (row qs), .p (row rs)] M = some (.p (fr (dot qs rs)), M) := by
  have e := dot_pe hL k a qs rs hl h1 h2 h ha
  unfold callX
  simp [-Option.bind_some, callIn, e, callOut, putAll]
theorem dot_le {L : Nat} (hL : 2 ^ 9000 < L) (k a : Nat) (qs rs : List Rat) (hl : qs.length = rs.length) (h1 : AllB a qs) (h2 : AllB a rs) (h : 1 + (2 * a + 1) * qs.length ≤ 4000) (ha : 2 * a ≤ 4000) :
    W L (k + 4) 21 [.p (row qs), .l 0] [rs.map fr] = some (.p (fr (dot qs rs)), [rs.map fr, (prods qs rs).map fr]) := by
  have d := dot_ok hL k a qs rs (.l 0) [rs.map fr] rfl (fun _ => rfl) hl h1 h2 h ha
  have s := evF_step (G := G) (N := L) (M := [rs.map fr]) tab (k + 3) 21 [.p (row qs), .l 0] F__law_dot rfl rfl
  exact s.trans d
/-- the dot of a tuple and a list -/
theorem dot_l {L : Nat} (hL : 2 ^ 9000 < L) (k a : Nat) (qs rs : List Rat) (hl : qs.length = rs.length) (h1 : AllB a qs) (h2 : AllB a rs) (h : 1 + (2 * a + 1) * qs.length ≤ 4000) (ha : 2 * a ≤ 4000) (M : Mem) (i : Nat) (hi : M[i]? = some (rs.map fr)) :
    callX (W L (k + 4)) 21 [.p (row qs), .l i] M = some (.p (fr (dot qs rs)), M) := by
  have e := dot_le hL k a qs rs hl h1 h2 h ha
  unfold callX
  simp [-Option.bind_some, callIn, hi, e, callOut, putAll]
  obtain ⟨g1, g2⟩ := List.getElem?_eq_some_iff.mp hi
  rw [← g2]
  exact List.set_getElem_self g1
/-! the same datum twice -/
def okp : Nat → P → Prop
  | n + 1, .int _ => True
  | n + 1, .tup l => l.length < 2 ^ 62 ∧ ∀ x ∈ l, okp n x
  | _, _ => False
theorem okp_mono : ∀ {n : Nat} {x : P}, okp n x → okp (n + 1) x
  | 0, x, h => by cases x <;> exact h.elim
  | n + 1, .int _, _ => trivial
  | n + 1, .tup l, h => ⟨h.1, fun y hy => okp_mono (h.2 y hy)⟩
  | n + 1, .non, h => h.elim
  | n + 1, .bl _, h => h.elim
  | n + 1, .str _, h => h.elim
theorem lop_keep {V : Wd} {N : Nat} {i : Nat} {b : List S} {s : Src} {ρ : IX.Env} {M : Mem} (hi : i < ρ.length) (ho : s.ok M = true) : ∀ (xs : List P) (o : Option D), (∀ x ∈ xs, evSs V G N b (ρ.set i (some (.p x))) M = some (.nx (ρ.set i (some (.p x))) M)) →
    ∃ o', lop V G N (.nm i) b s xs (ρ.set i o) M = some (.nx (ρ.set i o') M) := by
  intro xs
  induction xs with
  | nil => intro o _; exact ⟨o, rfl⟩
  | cons x xs ih =>
    intro o h
    obtain ⟨o', e⟩ := ih (some (.p x)) fun y hy => h y (List.mem_cons_of_mem _ hy)
    refine ⟨o', ?_⟩
    rw [lop_cons]
    have hp : T.put (.nm i) x (ρ.set i o) = some (ρ.set i (some (.p x))) := by
      rw [put_nm, if_pos (by simpa using hi), List.set_set]
    rw [hp]
    simp [-Option.bind_some, h x List.mem_cons_self, ho, e]
theorem so_ok {L : Nat} : ∀ (n k : Nat) (x : P), okp n x → W L (k + n) 15 [.p x, .p x] [] = some (.p (.bl true), [])
  | 0, k, x, h => by cases x <;> exact h.elim
  | n + 1, k, .int i, _ => by
    unfold W
    rw [show k + (n + 1) = (k + n) + 1 from rfl, evF_step _ _ _ _ F__law_so rfl rfl]
    have a1 : cmpop .is (.p (.int i)) (.p .non) [] = some false := rfl
    have a2 : bfun .istup [.p (.int i)] [] = some (.p (.bl false), []) := rfl
    have a3 : bfun .isbool [.p (.int i)] [] = some (.p (.bl false), []) := rfl
    have a4 : bfun .isint [.p (.int i)] [] = some (.p (.bl true), []) := rfl
    simp [-Option.bind_some, F__law_so, entry, a1, a2, a3, a4]
  | n + 1, k, .tup l, h => by
    unfold W
    rw [show k + (n + 1) = (k + n) + 1 from rfl, evF_step _ _ _ _ F__law_so rfl rfl]
    have a1 : cmpop .is (.p (.tup l)) (.p .non) [] = some false := by
      show some (decide (P.tup l = .non)) = _
      simp
    have a2 : bfun .istup [.p (.tup l)] [] = some (.p (.bl true), []) := rfl
    have body : ∀ x ∈ rangeP 0 l.length, evSs (evF tab G L (k + n)) G L [.ife (.not (.tru (.call 15 [.idx (.v 0) (.v 2), .idx (.v 1) (.v 2)] [0, 1]))) [.ret (.c (.bl false))] []]
        ([some (.p (.tup l)), some (.p (.tup l)), none].set 2 (some (.p x))) [] = some (.nx ([some (.p (.tup l)), some (.p (.tup l)), none].set 2 (some (.p x))) []) := by
      intro x hx
      obtain ⟨j, hj, rfl⟩ := rng_mem hx
      have hg : l[j]? = some l[j] := List.getElem?_eq_getElem hj
      have i1 : index (.p (.tup l)) (.p (.int j)) [] = some l[j] := idx_tup hg
      have c : callX (evF tab G L (k + n)) 15 [.p l[j], .p l[j]] [] = some (.p (.bl true), []) := callX_p 15 [l[j], l[j]] _ (so_ok n k l[j] (h.2 _ (List.getElem_mem hj)))
      simp [-Option.bind_some, i1, c]
    obtain ⟨o', e⟩ := lop_keep (ρ := [some (.p (.tup l)), some (.p (.tup l)), none]) (i := 2) (s := ⟨rangeP 0 l.length, [], true⟩) (by simp) ok0 _ none body
    have e : lop (evF tab G L (k + n)) G L (.nm 2) [.ife (.not (.tru (.call 15 [.idx (.v 0) (.v 2), .idx (.v 1) (.v 2)] [0, 1]))) [.ret (.c (.bl false))] []] ⟨rangeP 0 l.length, [], true⟩ (rangeP 0 l.length) [some (.p (.tup l)), some (.p (.tup l)), none] [] = some (.nx [some (.p (.tup l)), some (.p (.tup l)), o'] []) := e
    simp [-Option.bind_some, F__law_so, entry, a1, a2, src_rng h.1, e]
  | n + 1, k, .non, h => h.elim
  | n + 1, k, .bl _, h => h.elim
  | n + 1, k, .str _, h => h.elim
theorem so_c {L : Nat} {n k : Nat} {x : P} (h : okp n x) (M : Mem) : callX (W L (k + n)) 15 [.p x, .p x] M = some (.p (.bl true), M) := callX_p 15 [x, x] _ (so_ok n k x h)
end K16
end

section
set_option linter.all false
set_option autoImplicit false
set_option maxRecDepth 10000
namespace K16
open PySem IX
theorem gcd_loop0 {V : Wd} {N : Nat} {M : Mem} : ∀ (fuel b a : Nat), b < fuel →
    whl V G N (.tru (.v 1)) [.par [0, 1] [.v 1, .bin .mod (.v 0) (.v 1)]] fuel [some (.p (.int a)), some (.p (.int b))] M =
      some (.nx [some (.p (.int (Nat.gcd a b))), some (.p (.int 0))] M) := by
  intro fuel
  induction fuel with
  | zero => intro b a h; omega
  | succ fuel ih =>
    intro b a h
    rw [whl_step]
    by_cases hb : b = 0
    · subst hb
      simp [-Option.bind_some]
    · have hne : (b : Int) ≠ 0 := by omega
      simp [-Option.bind_some, hb]
      rw [fmod_nat, ih (a % b) b (by have := Nat.mod_lt a (Nat.pos_of_ne_zero hb); omega)]
      rw [Nat.gcd_comm b (a % b), ← Nat.gcd_rec, Nat.gcd_comm b a]
theorem common_ok {L : Nat} (k : Nat) (a b : Int) (hL : b.natAbs < L) : W L (k + 1) 0 [.p (.int a), .p (.int b)] [] = some (.p (.int (Nat.gcd a.natAbs b.natAbs)), []) := by
  unfold W
  rw [evF_step _ _ _ _ F_common rfl rfl]
  have lp := gcd_loop0 (V := evF tab G L k) (N := L) (M := []) L b.natAbs a.natAbs hL
  simp [-Option.bind_some, F_common, entry, abs_nat, lp]
theorem common_c {L : Nat} (k : Nat) (a b : Int) (hL : b.natAbs < L) (M : Mem) : callX (W L (k + 1)) 0 [.p (.int a), .p (.int b)] M = some (.p (.int (Nat.gcd a.natAbs b.natAbs)), M) := callX_p 0 [.int a, .int b] _ (common_ok k a b hL)
theorem ratio_ok {L : Nat} (hL : 2 ^ 9000 < L) (k : Nat) (n : Int) (d : Nat) (hd : 0 < d) (h1 : d < 2 ^ 9000) : W L (k + 2) 1 [.p (.int n), .p (.int d)] [] = some (.p (fr (mkRat n d)), []) := by
  unfold W
  rw [evF_step _ _ _ _ F_ratio rfl rfl]
  have hg : 0 < n.natAbs.gcd d := Nat.gcd_pos_of_pos_right _ hd
  have hg2 : n.natAbs.gcd d < 2 ^ 9000 := Nat.lt_of_le_of_lt (Nat.gcd_le_right _ hd) h1
  have hdo := divOk_of hg hg2
  have c := common_c (L := L) k n (d : Int) (by rw [Int.natAbs_natCast]; omega) []
  rw [Int.natAbs_natCast] at c
  unfold W at c
  have hn : ¬ ((d : Int) < 0) := by omega
  obtain ⟨e1, e2⟩ := num_eq n d (by omega)
  have f1 : n.fdiv ((n.natAbs.gcd d : Nat) : Int) = (mkRat n d).num := by rw [e1, Int.fdiv_eq_ediv_of_nonneg _ (by omega)]
  have f2 : (d : Int).fdiv ((n.natAbs.gcd d : Nat) : Int) = ((mkRat n d).den : Int) := by rw [e2, Int.fdiv_eq_ediv_of_nonneg _ (by omega)]; rfl
  simp [-Option.bind_some, F_ratio, entry, c, hn, hdo, f1, f2, fr, s2]
theorem ratio_c {L : Nat} (hL : 2 ^ 9000 < L) (k : Nat) (n dI : Int) (d : Nat) (he : dI = (d : Int)) (hd : 0 < d) (h1 : d < 2 ^ 9000) (M : Mem) : callX (W L (k + 2)) 1 [.p (.int n), .p (.int dI)] M = some (.p (fr (mkRat n d)), M) := by
  subst he
  exact callX_p 1 [.int n, .int d] _ (ratio_ok hL k n d hd h1)
/-- the common bottom -/
def bot : List Rat → Nat → Nat
  | [], b => b
  | q :: r, b => bot r (if b % q.den = 0 then b else b / Nat.gcd b q.den * q.den)
theorem step_pos {b : Nat} {q : Rat} (h : 0 < b) : 0 < (if b % q.den = 0 then b else b / Nat.gcd b q.den * q.den) := by
  split
  · exact h
  · exact Nat.mul_pos (Nat.div_pos (Nat.gcd_le_left _ h) (Nat.gcd_pos_of_pos_left _ h)) q.den_pos
theorem step_dvd {b : Nat} {q : Rat} : b ∣ (if b % q.den = 0 then b else b / Nat.gcd b q.den * q.den) ∧ q.den ∣ (if b % q.den = 0 then b else b / Nat.gcd b q.den * q.den) := by
  split
  · rename_i h
    exact ⟨Nat.dvd_refl _, Nat.dvd_of_mod_eq_zero h⟩
  · have e : b / Nat.gcd b q.den * q.den = Nat.lcm b q.den := by
      unfold Nat.lcm
      rw [Nat.mul_comm b, Nat.mul_div_assoc _ (Nat.gcd_dvd_left _ _), Nat.mul_comm]
    rw [e]
    exact ⟨Nat.dvd_lcm_left _ _, Nat.dvd_lcm_right _ _⟩
theorem step_le {b : Nat} {q : Rat} : (if b % q.den = 0 then b else b / Nat.gcd b q.den * q.den) ≤ b * q.den := by
  split
  · exact Nat.le_mul_of_pos_right _ q.den_pos
  · exact Nat.mul_le_mul_right _ (Nat.div_le_self _ _)
theorem bot_pos : ∀ (l : List Rat) (b : Nat), 0 < b → 0 < bot l b
  | [], b, h => h
  | q :: r, b, h => bot_pos r _ (step_pos h)
theorem bot_dvd : ∀ (l : List Rat) (b : Nat), b ∣ bot l b
  | [], b => Nat.dvd_refl _
  | q :: r, b => Nat.dvd_trans step_dvd.1 (bot_dvd r _)
theorem bot_mem : ∀ (l : List Rat) (b : Nat), ∀ q ∈ l, q.den ∣ bot l b
  | [], b, q, h => by simp at h
  | p :: r, b, q, h => by
    rcases List.mem_cons.mp h with e | h
    · subst e; exact Nat.dvd_trans step_dvd.2 (bot_dvd r _)
    · exact bot_mem r _ q h
theorem bot_lt {a : Nat} : ∀ (l : List Rat) (b m : Nat), AllB a l → b < 2 ^ m → bot l b < 2 ^ (m + a * l.length)
  | [], b, m, _, h => by simpa [bot] using h
  | q :: r, b, m, hA, h => by
    have := bot_lt r _ (m + a) (fun x hx => hA x (List.mem_cons_of_mem _ hx)) (Nat.lt_of_le_of_lt (step_le (b := b) (q := q)) (pw h (hA q List.mem_cons_self).2))
    rw [List.length_cons, Nat.mul_succ]
    rw [show m + (a * r.length + a) = m + a + a * r.length from by omega]
    exact this
theorem bot_loop {L : Nat} (hL : 2 ^ 9000 < L) (k a : Nat) (M : Mem) (s : Src) (ho : s.ok M = true) (f : Option D) : ∀ (l : List Rat) (b m : Nat) (o : Option D), AllB a l → 0 < b → b < 2 ^ m → m + a * l.length ≤ 4000 →
    ∃ o', lop (W L (k + 1)) G L (.nm 2) [.ife (.tru (.bin .mod (.v 1) (.idx (.v 2) (.c (.int 1)))))
          [.set (.nm 1) (.bin .mul (.bin .fdiv (.v 1) (.call 0 [(.v 1), (.idx (.v 2) (.c (.int 1)))] [0, 1])) (.idx (.v 2) (.c (.int 1))))]
          []] s (l.map fr) [f, some (.p (.int b)), o] M = some (.nx [f, some (.p (.int (bot l b))), o'] M) := by
  intro l
  induction l with
  | nil => intro b m o _ _ _ _; exact ⟨o, rfl⟩
  | cons q r ih =>
    intro b m o hA hb0 hb hm
    have hq := hA q List.mem_cons_self
    rw [List.length_cons, Nat.mul_succ] at hm
    have hs := Nat.lt_of_le_of_lt (step_le (b := b) (q := q)) (pw hb hq.2)
    obtain ⟨o', e⟩ := ih _ (m + a) (some (.p (fr q))) (fun x hx => hA x (List.mem_cons_of_mem _ hx)) (step_pos (q := q) hb0) hs (by omega)
    refine ⟨o', ?_⟩
    have hd0 := q.den_pos
    have hne : (q.den : Int) ≠ 0 := by omega
    have hd0' : ¬ q.den = 0 := Nat.ne_of_gt hd0
    have hm4 : m ≤ 4000 := by omega
    rw [List.map_cons, lop_cons]
    have hqd : q.den < 2 ^ 4000 := big hq.2 (by omega)
    have cc := common_c (L := L) k (b : Int) (q.den : Int) (by rw [Int.natAbs_natCast]; exact Nat.lt_trans (Nat.lt_of_lt_of_le hqd (Nat.pow_le_pow_right (by decide) (by omega))) hL) M
    rw [Int.natAbs_natCast, Int.natAbs_natCast] at cc
    have hg : 0 < b.gcd q.den := Nat.gcd_pos_of_pos_left _ hb0
    have hdo : divOk ((b.gcd q.den : Nat) : Int) = true := divOk_of hg (Nat.lt_of_le_of_lt (Nat.gcd_le_left _ hb0) (Nat.lt_of_lt_of_le (big hb hm4) (Nat.pow_le_pow_right (by decide) (by omega))))
    have hmo : mulOk ((b : Int).fdiv ((b.gcd q.den : Nat) : Int)) (q.den : Int) = true := mulOk_of (by
      rw [Int.fdiv_eq_ediv_of_nonneg _ (by omega)]
      exact Nat.lt_of_le_of_lt (Int.natAbs_ediv_le_natAbs _ _) (by rw [Int.natAbs_natCast]; exact big hb hm4)) (by rw [Int.natAbs_natCast]; exact hqd)
    have hf : (b : Int).fdiv ((b.gcd q.den : Nat) : Int) * (q.den : Int) = ((b / b.gcd q.den * q.den : Nat) : Int) := by
      rw [Int.fdiv_eq_ediv_of_nonneg _ (by omega)]; simp
    by_cases hz : b % q.den = 0
    · have i1 : ((b : Int).fmod (q.den : Int) != 0) = false := by rw [fmod_nat, hz]; rfl
      rw [if_pos hz] at e
      simp [-Option.bind_some, fr, at1, hd0', i1, ho, bot, hz]
      exact e
    · have i1 : ((b : Int).fmod (q.den : Int) != 0) = true := by
        rw [fmod_nat]
        have : ((b % q.den : Nat) : Int) ≠ 0 := by omega
        simpa using this
      rw [if_neg hz] at e
      simp [-Option.bind_some, fr, at1, hd0', i1, ho, bot, hz, cc, hdo, hmo, hf]
      exact e
theorem bot_p {L : Nat} (hL : 2 ^ 9000 < L) (k a : Nat) (l : List Rat) (hA : AllB a l) (h : 1 + a * l.length ≤ 4000) : W L (k + 2) 2 [.p (row l)] [] = some (.p (.int (bot l 1)), []) := by
  unfold W
  rw [evF_step _ _ _ _ F_bottom_of rfl rfl]
  obtain ⟨o', e⟩ := bot_loop hL k a [] ⟨l.map fr, [], true⟩ rfl (some (.p (row l))) l 1 1 none hA (by decide) (by decide) h
  unfold W at e
  simp [-Option.bind_some, F_bottom_of, entry, src, asSrc, row]
  unfold row at e
  simp [-Option.bind_some] at e
  simp [-Option.bind_some, e]
theorem bot_l {L : Nat} (hL : 2 ^ 9000 < L) (k a : Nat) (l : List Rat) (hA : AllB a l) (h : 1 + a * l.length ≤ 4000) : W L (k + 2) 2 [.l 0] [l.map fr] = some (.p (.int (bot l 1)), [l.map fr]) := by
  unfold W
  rw [evF_step _ _ _ _ F_bottom_of rfl rfl]
  obtain ⟨o', e⟩ := bot_loop hL k a [l.map fr] ⟨l.map fr, [(0, l.map fr)], true⟩ (by simp [Src.ok]) (some (.l 0)) l 1 1 none hA (by decide) (by decide) h
  unfold W at e
  simp [-Option.bind_some] at e
  simp [-Option.bind_some, F_bottom_of, entry, src, asSrc, e]
/-- a top over a bottom -/
def tp (B : Nat) (q : Rat) : Int := q.num * (B / q.den : Nat)
theorem tp_eq {B : Nat} {q : Rat} (h : q.den ∣ B) : ((tp B q : Int) : Rat) = q * (B : Rat) := by
  obtain ⟨c, rfl⟩ := h
  unfold tp
  rw [Nat.mul_div_cancel_left _ q.den_pos]
  have h1 : (q.den : Rat) ≠ 0 := by
    have := q.den_pos
    intro z
    have z : ((q.den : Nat) : Rat) = ((0 : Nat) : Rat) := z
    have := Rat.natCast_inj.mp z
    omega
  have h2 : q * (q.den : Rat) = (q.num : Rat) := by
    have := Rat.mkRat_self q
    rw [Rat.mkRat_eq_div] at this
    rw [← this]
    grind
  have e : ((q.num * ((c : Nat) : Int) : Int) : Rat) = (q.num : Rat) * (c : Rat) := by rw [Rat.intCast_mul]; rfl
  rw [e, ← h2, Rat.natCast_mul]
  grind
end K16
end

section
set_option linter.all false
set_option autoImplicit false
set_option maxRecDepth 10000
namespace K16
open PySem IX
theorem gturns_of {A : Type} (g f : A → P) {F : P → Option (Option P)} : ∀ xs : List A, (∀ x ∈ xs, F (g x) = some (some (f x))) → gturns F (xs.map g) = some (xs.map f)
  | [], _ => rfl
  | x :: xs, h => by
    show (do
      let o ← F (g x)
      let ys ← gturns F (xs.map g)
      some (o.toList ++ ys)) = _
    rw [h x List.mem_cons_self, gturns_of g f xs fun y hy => h y (List.mem_cons_of_mem _ hy)]
    rfl
theorem lcs_of {A : Type} (g f : A → P) {V : Wd} {G : Str → Option P} {ρ : IX.Env} {M : Mem} {vs : List Nat} {elt : E} {t : T} {ifs : List E} {s : Src} (ho : s.ok M = true) : ∀ xs : List A, (∀ x ∈ xs, lcx V G vs elt t ifs ρ (g x) M = some ([f x], M)) → lcs V G vs elt t ifs s (xs.map g) ρ M = some (xs.map f, M)
  | [], _ => rfl
  | x :: xs, h => by
    rw [List.map_cons, lcs_cons, h x List.mem_cons_self]
    simp only [obs, ho, if_true]
    rw [lcs_of g f ho xs (fun y hy => h y (List.mem_cons_of_mem _ hy))]
    rfl
theorem callX_q {W : Wd} {M : Mem} (f : Nat) (ps : List P) (x : P) (Mc : Mem) (h : W f (ps.map .p) [] = some (.p x, Mc)) : callX W f (ps.map .p) M = some (.p x, M) := by
  have hc : ∀ (ps : List P) (n : Nat), callIn (ps.map D.p) n = (ps.map D.p, []) := by
    intro ps
    induction ps with
    | nil => intro n; rfl
    | cons p ps ih =>
      intro n
      show (let q := callIn (ps.map D.p) n; (D.p p :: q.1, q.2)) = _
      rw [ih]; rfl
  unfold callX
  rw [hc]
  simp [-Option.bind_some, h, callOut, putAll]
theorem small_ok {n : Nat} (h : n ≤ 4000) : n + 1 < sizeLine := by
  rw [szl]; omega
theorem small_le {n : Nat} (h : n ≤ 4000) : n ≤ sizeLine := by
  rw [szl]; omega
theorem den_ok {m : Nat} {q : Rat} (h : Bd m q) (hm : m ≤ 4000) : divOk (q.den : Int) = true := divOk_of q.den_pos (Nat.lt_of_lt_of_le (big h.2 hm) (Nat.pow_le_pow_right (by decide) (by omega)))
theorem tops_ok {L : Nat} (k a B : Nat) (l : List Rat) (hA : AllB a l) (ha : a ≤ 4000) (hB : B < 2 ^ 4000) (hl : l.length ≤ 4000) : W L (k + 1) 3 [.p (row l), .p (.int B)] [] = some (.p (.tup (l.map fun q => .int (tp B q))), []) := by
  unfold W
  rw [evF_step _ _ _ _ F_tops_over rfl rfl]
  have el : ∀ q ∈ l, gnx (evF tab G L k) G [2] (.bin .mul (.idx (.v 2) (.c (.int 0))) (.bin .fdiv (.v 1) (.idx (.v 2) (.c (.int 1))))) (.nm 2) [] [some (.p (row l)), some (.p (.int B)), none] [] (fr q) = some (some (.int (tp B q))) := by
    intro q hq
    have b := hA q hq
    have hd : divOk (q.den : Int) = true := den_ok b ha
    have e : (B : Int).fdiv (q.den : Int) = ((B / q.den : Nat) : Int) := by
      rw [Int.fdiv_eq_ediv_of_nonneg _ (by omega)]; rfl
    have hm : mulOk q.num ((B / q.den : Nat) : Int) = true := mulOk_of (b.n ha) (by rw [Int.natAbs_natCast]; exact Nat.lt_of_le_of_lt (Nat.div_le_self _ _) hB)
    simp [-Option.bind_some, -Int.natCast_ediv, gnx, wipeE, fr, at0, at1, hd, e, hm, tp]
  have gt := gturns_of fr (fun q => .int (tp B q)) l el
  simp [-Option.bind_some, F_tops_over, entry, src, asSrc, row]
  simp [-Option.bind_some, row] at gt
  simp [-Option.bind_some, gt, small_ok hl]
theorem tops_c {L : Nat} (k a B : Nat) (l : List Rat) (hA : AllB a l) (ha : a ≤ 4000) (hB : B < 2 ^ 4000) (hl : l.length ≤ 4000) (M : Mem) : callX (W L (k + 1)) 3 [.p (row l), .p (.int B)] M = some (.p (.tup (l.map fun q => .int (tp B q))), M) := callX_p 3 [row l, .int B] _ (tops_ok k a B l hA ha hB hl)
theorem bot_c {L : Nat} (hL : 2 ^ 9000 < L) (k a : Nat) (l : List Rat) (hA : AllB a l) (h : 1 + a * l.length ≤ 4000) (M : Mem) : callX (W L (k + 2)) 2 [.p (row l)] M = some (.p (.int (bot l 1)), M) := callX_p 2 [row l] _ (bot_p hL k a l hA h)
theorem bot4 {a : Nat} {l : List Rat} (hA : AllB a l) (h : 1 + a * l.length ≤ 4000) : bot l 1 < 2 ^ 4000 := big (bot_lt l 1 1 hA (by decide)) h
theorem wholes_ok {L : Nat} (hL : 2 ^ 9000 < L) (k a : Nat) (l : List Rat) (hA : AllB a l) (ha : a ≤ 4000) (h : 1 + a * l.length ≤ 4000) (hl : l.length ≤ 4000) : W L (k + 3) 4 [.p (row l)] [] = some (.p (.tup [.tup (l.map fun q => .int (tp (bot l 1) q)), .int (bot l 1)]), []) := by
  unfold W
  rw [evF_step _ _ _ _ F_wholes rfl rfl]
  have c1 := bot_c hL k a l hA h []
  have c2 := tops_c (L := L) (k + 1) a (bot l 1) l hA ha (bot4 hA h) hl []
  unfold W at c1 c2
  simp [-Option.bind_some, F_wholes, entry, c1, c2, s2]
theorem wholes_c {L : Nat} (hL : 2 ^ 9000 < L) (k a : Nat) (l : List Rat) (hA : AllB a l) (ha : a ≤ 4000) (h : 1 + a * l.length ≤ 4000) (hl : l.length ≤ 4000) (M : Mem) : callX (W L (k + 3)) 4 [.p (row l)] M = some (.p (.tup [.tup (l.map fun q => .int (tp (bot l 1) q)), .int (bot l 1)]), M) := callX_p 4 [row l] _ (wholes_ok hL k a l hA ha h hl)
theorem zipP_map {A C : Type} (f : A → P) (g : C → P) : ∀ (l : List A) (r : List C), zipP (l.map f) (r.map g) = (l.zip r).map fun q => .tup [f q.1, g q.2]
  | [], _ => by simp [zipP]
  | _ :: _, [] => by simp [zipP]
  | x :: l, y :: r => by simp [zipP, zipP_map f g l r]
theorem intsP_map {A : Type} (f : A → Int) : ∀ l : List A, intsP (l.map fun x => .int (f x)) = some (l.map f)
  | [] => rfl
  | x :: l => by
    show (intsP (l.map fun x => .int (f x))).map (f x :: ·) = _
    rw [intsP_map f l]; rfl
theorem tp_lt {a B m : Nat} {q : Rat} (h : Bd a q) (hB : B < 2 ^ m) (hs : a + m ≤ 4000) : (tp B q).natAbs < 2 ^ 4000 := by
  unfold tp
  rw [Int.natAbs_mul, Int.natAbs_natCast]
  exact big (pw h.1 (Nat.lt_of_le_of_lt (Nat.div_le_self _ _) hB)) hs
/-- the dot over whole tops -/
def sumZ (B C : Nat) (l r : List Rat) : Int := ((l.zip r).map fun q => tp B q.1 * tp C q.2).sum
theorem raw_ok {L : Nat} (hL : 2 ^ 9000 < L) (k a : Nat) (l r : List Rat) (h1 : AllB a l) (h2 : AllB a r) (h : 1 + a + a * l.length ≤ 4000) (h' : 1 + a + a * r.length ≤ 4000) (hl : l.length ≤ 4000) (hr : r.length ≤ 4000) : W L (k + 4) 6 [.p (row l), .p (row r)] [] = some (.p (.tup [.int (sumZ (bot l 1) (bot r 1) l r), .int (bot l 1 * bot r 1 : Nat)]), []) := by
  unfold W
  rw [evF_step _ _ _ _ F_raw_dot rfl rfl]
  have c1 := wholes_c hL k a l h1 (by omega) (by omega) hl []
  have c2 := wholes_c hL k a r h2 (by omega) (by omega) hr []
  unfold W at c1 c2
  have hm : mulOk ((bot l 1 : Nat) : Int) ((bot r 1 : Nat) : Int) = true := mulOk_of (by rw [Int.natAbs_natCast]; exact bot4 h1 (by omega)) (by rw [Int.natAbs_natCast]; exact bot4 h2 (by omega))
  have el : ∀ q ∈ l.zip r, gnx (evF tab G L (k + 3)) G [6, 7] (.bin .mul (.v 6) (.v 7)) (.tp [(.nm 6), (.nm 7)]) [] [some (.p (row l)), some (.p (row r)), some (.p (.tup (l.map fun q => .int (tp (bot l 1) q)))), some (.p (.int (bot l 1))), some (.p (.tup (r.map fun q => .int (tp (bot r 1) q)))), some (.p (.int (bot r 1))), none, none] []
      (.tup [.int (tp (bot l 1) q.1), .int (tp (bot r 1) q.2)]) = some (some (.int (tp (bot l 1) q.1 * tp (bot r 1) q.2))) := by
    intro q hq
    have m1 : q.1 ∈ l := (List.of_mem_zip (a := q.1) (b := q.2) hq).1
    have m2 : q.2 ∈ r := (List.of_mem_zip (a := q.1) (b := q.2) hq).2
    have hm : mulOk (tp (bot l 1) q.1) (tp (bot r 1) q.2) = true := mulOk_of (tp_lt (h1 _ m1) (bot_lt l 1 1 h1 (by decide)) (by omega)) (tp_lt (h2 _ m2) (bot_lt r 1 1 h2 (by decide)) (by omega))
    simp [-Option.bind_some, gnx, wipeE, hm]
  have gt := gturns_of (fun q : Rat × Rat => .tup [.int (tp (bot l 1) q.1), .int (tp (bot r 1) q.2)]) (fun q => .int (tp (bot l 1) q.1 * tp (bot r 1) q.2)) (l.zip r) el
  have zz := zipP_map (fun q : Rat => P.int (tp (bot l 1) q)) (fun q : Rat => P.int (tp (bot r 1) q)) l r
  have ii := intsP_map (fun q : Rat × Rat => tp (bot l 1) q.1 * tp (bot r 1) q.2) (l.zip r)
  have sl : ((l.zip r).map (fun q : Rat × Rat => P.int (tp (bot l 1) q.1 * tp (bot r 1) q.2))).length + 1 < sizeLine := by
    rw [List.length_map, List.length_zip]
    exact small_ok (by omega)
  simp only [F_raw_dot, entry]
  simp [-Option.bind_some, c1, c2, src, hm, s2, zz]
  simp [-Option.bind_some] at gt sl
  rw [gt]
  simp only [obs]
  rw [ii]
  simp [-Option.bind_some, sl, s2, sumZ]
theorem raw_c {L : Nat} (hL : 2 ^ 9000 < L) (k a : Nat) (l r : List Rat) (h1 : AllB a l) (h2 : AllB a r) (h : 1 + a + a * l.length ≤ 4000) (h' : 1 + a + a * r.length ≤ 4000) (hl : l.length ≤ 4000) (hr : r.length ≤ 4000) (M : Mem) : callX (W L (k + 4)) 6 [.p (row l), .p (row r)] M = some (.p (.tup [.int (sumZ (bot l 1) (bot r 1) l r), .int (bot l 1 * bot r 1 : Nat)]), M) := callX_p 6 [row l, row r] _ (raw_ok hL k a l r h1 h2 h h' hl hr)
theorem nat_ne {n : Nat} (h : 0 < n) : (n : Rat) ≠ 0 := by
  intro z
  have z : ((n : Nat) : Rat) = ((0 : Nat) : Rat) := z
  have := Rat.natCast_inj.mp z
  omega
theorem sumZ_eq {B C : Nat} : ∀ (l r : List Rat), (∀ q ∈ l, q.den ∣ B) → (∀ q ∈ r, q.den ∣ C) → ((sumZ B C l r : Int) : Rat) = dot l r * ((B : Rat) * (C : Rat))
  | [], r, _, _ => by simp [sumZ, dot, prods]
  | _ :: _, [], _, _ => by simp [sumZ, dot, prods]
  | x :: l, y :: r, h1, h2 => by
    have ih := sumZ_eq l r (fun q h => h1 q (List.mem_cons_of_mem _ h)) (fun q h => h2 q (List.mem_cons_of_mem _ h))
    have e : sumZ B C (x :: l) (y :: r) = tp B x * tp C y + sumZ B C l r := by simp [sumZ]
    have e2 : dot (x :: l) (y :: r) = x * y + dot l r := by simp [dot, prods]
    rw [e, e2, Rat.intCast_add, Rat.intCast_mul, ih, tp_eq (h1 x List.mem_cons_self), tp_eq (h2 y List.mem_cons_self)]
    grind
theorem mk_of {S : Int} {n : Nat} {q : Rat} (hn : 0 < n) (h : (S : Rat) = q * (n : Rat)) : mkRat S n = q := by
  rw [Rat.mkRat_eq_div, h]
  have := nat_ne hn
  grind
theorem dot7_ok {L : Nat} (hL : 2 ^ 9000 < L) (k a : Nat) (l r : List Rat) (h1 : AllB a l) (h2 : AllB a r) (h : 1 + a + a * l.length ≤ 4000) (h' : 1 + a + a * r.length ≤ 4000) (hl : l.length ≤ 4000) (hr : r.length ≤ 4000) : W L (k + 5) 7 [.p (row l), .p (row r)] [] = some (.p (fr (dot l r)), []) := by
  unfold W
  rw [evF_step _ _ _ _ F_dot rfl rfl]
  have c1 := raw_c hL k a l r h1 h2 h h' hl hr []
  have hp : 0 < bot l 1 * bot r 1 := Nat.mul_pos (bot_pos _ _ (by decide)) (bot_pos _ _ (by decide))
  have hb : bot l 1 * bot r 1 < 2 ^ 9000 := Nat.lt_of_lt_of_le (pw (bot4 h1 (by omega)) (bot4 h2 (by omega))) (Nat.pow_le_pow_right (by decide) (by decide))
  have c2 := ratio_c hL (k + 2) (sumZ (bot l 1) (bot r 1) l r) (bot l 1 * bot r 1 : Nat) _ rfl hp hb []
  rw [mk_of hp (by rw [sumZ_eq l r (bot_mem l 1) (bot_mem r 1), Rat.natCast_mul])] at c2
  unfold W at c1 c2
  simp [-Option.bind_some] at c1 c2
  simp [-Option.bind_some, F_dot, entry, c1, c2]
theorem dot7_c {L : Nat} (hL : 2 ^ 9000 < L) (k a : Nat) (l r : List Rat) (h1 : AllB a l) (h2 : AllB a r) (h : 1 + a + a * l.length ≤ 4000) (h' : 1 + a + a * r.length ≤ 4000) (hl : l.length ≤ 4000) (hr : r.length ≤ 4000) (M : Mem) : callX (W L (k + 5)) 7 [.p (row l), .p (row r)] M = some (.p (fr (dot l r)), M) := callX_p 7 [row l, row r] _ (dot7_ok hL k a l r h1 h2 h h' hl hr)
end K16
end

section
set_option linter.all false
set_option autoImplicit false
set_option maxRecDepth 10000
namespace K16
open PySem IX
theorem lcs2_of {A : Type} (g : A → P) (f : A → List P) {V : Wd} {G : Str → Option P} {ρ : IX.Env} {M : Mem} {vs : List Nat} {elt : E} {t : T} {ifs : List E} {vs1 : List Nat} {t1 : T} {k1 : IK} {sr1 ifs1 : List E} {s : Src} (ho : s.ok M = true) : ∀ xs : List A, (∀ x ∈ xs, lcx2 V G vs elt t ifs vs1 t1 k1 sr1 ifs1 ρ (g x) M = some (f x, M)) → lcs2 V G vs elt t ifs vs1 t1 k1 sr1 ifs1 s (xs.map g) ρ M = some ((xs.map f).flatten, M)
  | [], _ => rfl
  | x :: xs, h => by
    rw [List.map_cons, lcs2_cons, h x List.mem_cons_self]
    simp only [obs, ho, if_true]
    rw [lcs2_of g f ho xs (fun y hy => h y (List.mem_cons_of_mem _ hy))]
    rfl
theorem frac_list {L : Nat} (hL : 2 ^ 9000 < L) (k : Nat) (zs : List Int) (B : Nat) (hB : 0 < B) (hb : B < 2 ^ 9000) (hz : zs.length ≤ 4000) : W L (k + 3) 5 [.l 0, .p (.int B)] [zs.map .int] = some (.p (row (zs.map fun n => mkRat n B)), [zs.map .int]) := by
  unfold W
  rw [evF_step _ _ _ _ F_fractions_of rfl rfl]
  have el : ∀ z ∈ zs, gnx (evF tab G L (k + 2)) G [2] (.call 1 [(.v 2), (.v 1)] [0, 1]) (.nm 2) [] [some (.l 0), some (.p (.int B)), none] [zs.map .int] (.int z) = some (some (fr (mkRat z B))) := by
    intro z hz
    have c := ratio_c hL k z B B rfl hB hb [zs.map .int]
    unfold W at c
    simp [-Option.bind_some, gnx, wipeE, c]
  have gt := gturns_of P.int (fun z => fr (mkRat z B)) zs el
  simp only [F_fractions_of, entry]
  simp [-Option.bind_some, src, asSrc]
  rw [gt]
  simp [-Option.bind_some, small_ok hz, row]
theorem frac_list_c {L : Nat} (hL : 2 ^ 9000 < L) (k : Nat) (zs : List Int) (B : Nat) (hB : 0 < B) (hb : B < 2 ^ 9000) (hz : zs.length ≤ 4000) (m0 m1 : List P) : callX (W L (k + 3)) 5 [.l 2, .p (.int B)] [m0, m1, zs.map .int] = some (.p (row (zs.map fun n => mkRat n B)), [m0, m1, zs.map .int]) := by
  have e := frac_list hL k zs B hB hb hz
  unfold callX
  simp [-Option.bind_some, callIn, e, callOut, putAll]
theorem seti_nat {xs : List P} {k : Nat} {v : P} (h : k < xs.length) : seti xs (k : Int) v = some (xs.set k v) := by
  unfold seti pix
  rw [if_pos (by omega), if_pos (by omega)]
  rfl
def addRow (t : Int) (zs us : List Int) : List Int := List.zipWith (fun z u => z + t * u) zs us
theorem in_loop {V : Wd} {N : Nat} {m0 m1 : List P} {s : Src} (ho : ∀ M, s.ok M = true) {e0 e1 e2 e3 e4 e5 e6 e7 : Option D} {t : Int} : ∀ (us zs pre : List Int) (o p : Option D), us.length = zs.length → (∀ u ∈ us, mulOk t u = true) →
    ∃ o' p', lop V G N (.tp [.nm 10, .nm 11]) [.augi (.v 8) (.v 10) .add (.bin .mul (.v 9) (.v 11))] s (enumP pre.length (us.map .int)) [e0, e1, e2, e3, e4, e5, e6, e7, some (.l 2), some (.p (.int t)), o, p] [m0, m1, (pre ++ zs).map .int] =
      some (.nx [e0, e1, e2, e3, e4, e5, e6, e7, some (.l 2), some (.p (.int t)), o', p'] [m0, m1, (pre ++ addRow t zs us).map .int]) := by
  intro us
  induction us with
  | nil =>
    intro zs pre o p hl _
    cases zs with
    | nil => exact ⟨o, p, rfl⟩
    | cons _ _ => simp at hl
  | cons u us ih =>
    intro zs pre o p hl hm
    cases zs with
    | nil => simp at hl
    | cons z zs =>
      obtain ⟨o', p', e⟩ := ih zs (pre ++ [z + t * u]) (some (.p (.int pre.length))) (some (.p (.int u))) (by simpa using hl) (fun y hy => hm y (List.mem_cons_of_mem _ hy))
      refine ⟨o', p', ?_⟩
      have hmu := hm u List.mem_cons_self
      have ix : index (.l 2) (.p (.int pre.length)) [m0, m1, (pre ++ z :: zs).map .int] = some (.int z) := idx_items rfl (by simp)
      have se : seti ((pre ++ z :: zs).map .int) (pre.length : Int) (.int (z + t * u)) = some ((pre ++ (z + t * u) :: zs).map .int) := by
        rw [seti_nat (by simp)]
        simp
      show lop _ _ _ _ _ _ (.tup [.int pre.length, .int u] :: enumP (pre.length + 1) (us.map .int)) _ _ = _
      rw [lop_cons]
      have a1 : augop .add (.p (.int z)) (.p (.int (t * u))) = some (.int (z + t * u)) := rfl
      simp only [List.map_append, List.map_cons] at ix se
      simp only [List.append_assoc, List.singleton_append, List.length_append, List.length_singleton] at e
      simp [-Option.bind_some, ix, hmu, a1, se, ho]
      simp [-Option.bind_some] at e
      rw [e]
      simp [addRow]
def acc (B C : Nat) : List Rat → List (List Rat) → List Int → List Int
  | w :: ws, r :: rs, zs => acc B C ws rs (addRow (tp B w) zs (r.map (tp C)))
  | _, _, zs => zs
theorem addRow0 : ∀ (zs us : List Int), us.length = zs.length → addRow 0 zs us = zs
  | [], [], _ => rfl
  | z :: zs, u :: us, h => by
    have := addRow0 zs us (by simpa using h)
    simp [addRow] at this ⊢
    exact this
  | [], _ :: _, h => by simp at h
  | _ :: _, [], h => by simp at h
theorem addRow_len (t : Int) (zs us : List Int) (h : us.length = zs.length) : (addRow t zs us).length = zs.length := by
  simp [addRow, h]
theorem out_loop {L : Nat} (k a m B C : Nat) (n : Nat) (hB : B < 2 ^ m) (hC : C < 2 ^ m) (hs : a + m ≤ 4000) (hn : n ≤ 4000) {m0 m1 : List P} {s : Src} (ho : ∀ M, s.ok M = true) {e0 e1 e2 e3 e4 e6 : Option D} :
    ∀ (ws : List Rat) (rs : List (List Rat)) (zs : List Int) (p5 p9 p10 p11 : Option D), AllB a ws → (∀ r ∈ rs, AllB a r ∧ r.length = n) → zs.length = n →
    ∃ o5 o9 o10 o11, lop (W L (k + 1)) G L (.tp [.nm 9, .nm 5]) [.ife (.tru (.v 9))
          [.loop (.tp [(.nm 10), (.nm 11)]) .enm [(.call 3 [(.v 5), (.v 7)] [0, 1])]
              [.augi (.v 8) (.v 10) .add (.bin .mul (.v 9) (.v 11))]]
          []] s ((ws.zip rs).map fun q => .tup [.int (tp B q.1), row q.2]) [e0, e1, e2, e3, e4, p5, e6, some (.p (.int C)), some (.l 2), p9, p10, p11] [m0, m1, zs.map .int] =
      some (.nx [e0, e1, e2, e3, e4, o5, e6, some (.p (.int C)), some (.l 2), o9, o10, o11] [m0, m1, (acc B C ws rs zs).map .int]) := by
  intro ws
  induction ws with
  | nil => intro rs zs p5 p9 p10 p11 _ _ _; exact ⟨_, _, _, _, rfl⟩
  | cons w ws ih =>
    intro rs zs p5 p9 p10 p11 hA hr hz
    cases rs with
    | nil => exact ⟨_, _, _, _, rfl⟩
    | cons r rs =>
      have hw := hA w List.mem_cons_self
      obtain ⟨hra, hrn⟩ := hr r List.mem_cons_self
      have hA' : AllB a ws := fun x hx => hA x (List.mem_cons_of_mem _ hx)
      have hr' : ∀ r ∈ rs, AllB a r ∧ r.length = n := fun x hx => hr x (List.mem_cons_of_mem _ hx)
      rw [List.zip_cons_cons, List.map_cons, lop_cons]
      by_cases ht : tp B w = 0
      · obtain ⟨o5, o9, o10, o11, e⟩ := ih rs zs (some (.p (row r))) (some (.p (.int (tp B w)))) p10 p11 hA' hr' hz
        refine ⟨o5, o9, o10, o11, ?_⟩
        have ac : acc B C (w :: ws) (r :: rs) zs = acc B C ws rs zs := by
          rw [acc, ht, addRow0 _ _ (by simp [hrn, hz])]
        rw [ac]
        rw [ht] at e
        simp [-Option.bind_some, ht, ho]
        exact e
      · have tc := tops_c (L := L) k a C r hra (by omega) (big hC (by omega)) (by omega) [m0, m1, zs.map .int]
        obtain ⟨q10, q11, il⟩ := in_loop (V := W L (k + 1)) (N := L) (m0 := m0) (m1 := m1) (s := ⟨enumP 0 ((r.map (tp C)).map .int), [], true⟩) (fun _ => rfl) (e0 := e0) (e1 := e1) (e2 := e2) (e3 := e3) (e4 := e4) (e5 := some (.p (row r))) (e6 := e6) (e7 := some (.p (.int C))) (t := tp B w) (r.map (tp C)) zs [] p10 p11 (by simp [hrn, hz]) (by
          intro u hu
          obtain ⟨x, hx, rfl⟩ := List.mem_map.mp hu
          exact mulOk_of (tp_lt hw hB hs) (tp_lt (hra x hx) hC hs))
        obtain ⟨o5, o9, o10, o11, e⟩ := ih rs (addRow (tp B w) zs (r.map (tp C))) (some (.p (row r))) (some (.p (.int (tp B w)))) q10 q11 hA' hr' (by rw [addRow_len _ _ _ (by simp [hrn, hz])]; exact hz)
        refine ⟨o5, o9, o10, o11, ?_⟩
        have cm : (r.map fun q => P.int (tp C q)) = (r.map (tp C)).map .int := by rw [List.map_map]; rfl
        rw [cm] at tc
        simp only [List.nil_append, List.length_nil] at il
        simp only [put_tp, puts_cons, puts_nil, put_nm, obs, List.length_cons, List.length_nil, List.set_cons_succ, List.set_cons_zero, ss_cons', s_ife', t_tru', e_v, List.getElem?_cons_succ, List.getElem?_cons_zero, tr_int]
        simp [-Option.bind_some, ht, ho, tc, src, -List.map_map]
        rw [il]
        simp only [obs]
        exact e
theorem addRow_get (t : Int) (zs us : List Int) (n : Nat) (z u : Int) (h1 : zs[n]? = some z) (h2 : us[n]? = some u) : (addRow t zs us)[n]? = some (z + t * u) := by
  unfold addRow
  rw [List.getElem?_zipWith, h1, h2]
def col (n : Nat) (rs : List (List Rat)) : List Rat := rs.map fun r => r.getD n 0
theorem acc_get {B C N n : Nat} (hn : n < N) : ∀ (ws : List Rat) (rs : List (List Rat)) (zs : List Int) (z : Int), (∀ r ∈ rs, r.length = N) → zs[n]? = some z → (acc B C ws rs zs)[n]? = some (z + sumZ B C ws (col n rs))
  | [], rs, zs, z, _, h => by simp [acc, sumZ, h]
  | w :: ws, [], zs, z, _, h => by simp [acc, sumZ, col, h]
  | w :: ws, r :: rs, zs, z, hr, h => by
    have hrn := hr r List.mem_cons_self
    rw [acc]
    rw [acc_get hn ws rs _ (z + tp B w * tp C (r.getD n 0)) (fun x hx => hr x (List.mem_cons_of_mem _ hx)) (addRow_get _ _ _ _ _ _ h (by
      rw [List.getElem?_map, List.getElem?_eq_getElem (by omega)]
      simp [List.getD, List.getElem?_eq_getElem (show n < r.length by omega)]))]
    simp [sumZ, col, Int.add_assoc]
theorem acc_len {B C N : Nat} : ∀ (ws : List Rat) (rs : List (List Rat)) (zs : List Int), (∀ r ∈ rs, r.length = N) → zs.length = N → (acc B C ws rs zs).length = N
  | [], rs, zs, _, h => by simp [acc, h]
  | w :: ws, [], zs, _, h => by simp [acc, h]
  | w :: ws, r :: rs, zs, hr, h => by
    rw [acc]
    exact acc_len ws rs _ (fun x hx => hr x (List.mem_cons_of_mem _ hx)) (by rw [addRow_len _ _ _ (by simp [hr r List.mem_cons_self, h])]; exact h)
/-- the weighted rows -/
def mixR (ws : List Rat) (rs : List (List Rat)) (n : Nat) : List Rat := (List.range n).map fun j => dot ws (col j rs)
theorem mix_plain {ws : List Rat} {rs : List (List Rat)} {N B C : Nat} (hB : 0 < B) (hC : 0 < C) (hr : ∀ r ∈ rs, r.length = N) (hb : ∀ q ∈ ws, q.den ∣ B) (hc : ∀ r ∈ rs, ∀ q ∈ r, q.den ∣ C) :
    (acc B C ws rs (List.replicate N 0)).map (fun z => mkRat z (B * C)) = mixR ws rs N := by
  refine List.ext_getElem? fun n => ?_
  by_cases hn : n < N
  · rw [List.getElem?_map, acc_get hn ws rs _ 0 hr (by simp [hn]), mixR, List.getElem?_map, List.getElem?_range hn]
    have hd : ∀ q ∈ col n rs, q.den ∣ C := by
      intro q hq
      obtain ⟨r, hrm, rfl⟩ := List.mem_map.mp hq
      have := hr r hrm
      rw [List.getD, List.getElem?_eq_getElem (by omega)]
      exact hc r hrm _ (List.getElem_mem _)
    simp only [Option.map_some, Int.zero_add]
    rw [mk_of (Nat.mul_pos hB hC) (by rw [sumZ_eq ws (col n rs) hb hd, Rat.natCast_mul])]
  · rw [List.getElem?_eq_none (by rw [List.length_map, acc_len ws rs _ hr (by simp)]; omega), List.getElem?_eq_none (by rw [mixR, List.length_map, List.length_range]; omega)]
end K16
end

section
set_option linter.all false
set_option autoImplicit false
set_option maxRecDepth 10000
namespace K16
open PySem IX
theorem rep_flat (n : Nat) : (List.replicate n [P.int 0]).flatten = (List.replicate n (0 : Int)).map .int := by
  induction n with
  | zero => rfl
  | succ n ih => rw [List.replicate_succ, List.flatten_cons, ih, List.replicate_succ]; rfl
theorem mul_list {M : Mem} {n : Nat} {i : Nat} (h : M[i]? = some [.int 0]) (hn : n ≤ 4000) : binop .mul (.l i) (.p (.int n)) M = some (.l M.length, M ++ [(List.replicate n (0 : Int)).map .int]) := by
  show (M[i]?.bind fun a => if (a.length * (n : Int).toNat ≤ sizeLine && decide (-(2 ^ 63) ≤ (n : Int)) && decide ((n : Int) < 2 ^ 63)) = true then newl (List.replicate (n : Int).toNat a).flatten M else none) = _
  rw [h]
  simp only [obs, Int.toNat_natCast, rep_flat]
  rw [if_pos]
  · unfold newl
    rw [if_pos]
    simp
    exact small_le hn
  · rw [Bool.and_eq_true, Bool.and_eq_true, decide_eq_true_eq, decide_eq_true_eq, decide_eq_true_eq]
    refine ⟨⟨?_, ?_⟩, ?_⟩
    · simp; exact small_le hn
    · omega
    · omega
theorem bot_lc {L : Nat} (hL : 2 ^ 9000 < L) (k a : Nat) (l : List Rat) (hA : AllB a l) (h : 1 + a * l.length ≤ 4000) : callX (W L (k + 2)) 2 [.l 0] [l.map fr] = some (.p (.int (bot l 1)), [l.map fr]) := callX_l rfl (bot_l hL k a l hA h)
theorem mixed_ok {L : Nat} (hL : 2 ^ 9000 < L) (k a n : Nat) (ws : List Rat) (rs : List (List Rat)) (h1 : AllB a ws) (h2 : ∀ r ∈ rs, AllB a r ∧ r.length = n) (hn : n ≤ 4000) (hs : 1 + a + a * ws.length + a * rs.flatten.length ≤ 4000) (hwl : ws.length ≤ 4000) (hfl : rs.flatten.length ≤ 4000) :
    ∃ Mc, W L (k + 4) 9 [.p (row ws), .p (.tup (rs.map row)), .p (.int n)] [] = some (.p (row (mixR ws rs n)), Mc) := by
  have hfA : AllB a rs.flatten := by
    intro q hq
    obtain ⟨r, hr, hq⟩ := List.mem_flatten.mp hq
    exact (h2 r hr).1 q hq
  have c1 := wholes_c hL k a ws h1 (by omega) (by omega) hwl []
  have el : ∀ r ∈ rs, lcx2 (W L (k + 3)) G [5, 6] (.v 6) (.nm 5) [] [6] (.nm 6) .seq [(.v 5)] [] [some (.p (row ws)), some (.p (.tup (rs.map row))), some (.p (.int n)), some (.p (.tup (ws.map fun q => .int (tp (bot ws 1) q)))), some (.p (.int (bot ws 1))), none, none, none, none, none, none, none] (row r) [] = some (r.map fr, []) := by
    intro r hr
    have li := lcs_of (V := W L (k + 3)) (G := G) (M := []) (ρ := [some (.p (row ws)), some (.p (.tup (rs.map row))), some (.p (.int n)), some (.p (.tup (ws.map fun q => .int (tp (bot ws 1) q)))), some (.p (.int (bot ws 1))), some (.p (row r)), none, none, none, none, none, none]) (vs := [6]) (elt := .v 6) (t := .nm 6) (ifs := []) (s := ⟨r.map fr, [], true⟩) fr fr rfl r (by
      intro q hq
      simp [-Option.bind_some, lcx, wipeE])
    unfold lcx2
    simp [-Option.bind_some, wipeE, src, asSrc, noScr, row]
    simp [-Option.bind_some, row] at li
    exact li
  have fl := lcs2_of (s := ⟨rs.map row, [], true⟩) row (fun r => r.map fr) rfl rs el
  have e1 : (rs.map fun r => r.map fr).flatten = rs.flatten.map fr := by rw [List.map_flatten]
  rw [e1] at fl
  have nl : newl (rs.flatten.map fr) [] = some (.l 0, [rs.flatten.map fr]) := by
    unfold newl
    rw [if_pos (by rw [List.length_map]; exact small_le hfl)]
    rfl
  have c2 := bot_lc hL (k + 1) a rs.flatten hfA (by omega)
  have nl2 : newl [P.int 0] [rs.flatten.map fr] = some (.l 1, [rs.flatten.map fr, [.int 0]]) := by
    unfold newl
    rw [if_pos (by decide)]
    rfl
  have ml := mul_list (M := [rs.flatten.map fr, [.int 0]]) (n := n) (i := 1) rfl hn
  have bw := bot_lt ws 1 1 h1 (by decide)
  have bf := bot_lt rs.flatten 1 1 hfA (by decide)
  obtain ⟨o5, o9, o10, o11, ol⟩ := out_loop (L := L) (k + 2) a (1 + a * ws.length + a * rs.flatten.length) (bot ws 1) (bot rs.flatten 1) n (Nat.lt_of_lt_of_le bw (Nat.pow_le_pow_right (by decide) (by omega))) (Nat.lt_of_lt_of_le bf (Nat.pow_le_pow_right (by decide) (by omega))) (by omega) hn (m0 := rs.flatten.map fr) (m1 := [.int 0])
    (s := ⟨(ws.zip rs).map fun q => .tup [.int (tp (bot ws 1) q.1), row q.2], [], true⟩) (fun _ => rfl) (e0 := some (.p (row ws))) (e1 := some (.p (.tup (rs.map row)))) (e2 := some (.p (.int n))) (e3 := some (.p (.tup (ws.map fun q => .int (tp (bot ws 1) q))))) (e4 := some (.p (.int (bot ws 1)))) (e6 := none) ws rs (List.replicate n 0) none none none none h1 h2 (by simp)
  have hm : mulOk ((bot ws 1 : Nat) : Int) ((bot rs.flatten 1 : Nat) : Int) = true := mulOk_of (by rw [Int.natAbs_natCast]; exact bot4 h1 (by omega)) (by rw [Int.natAbs_natCast]; exact bot4 hfA (by omega))
  have hp1 := bot_pos ws 1 (by decide)
  have hp2 := bot_pos rs.flatten 1 (by decide)
  have hb : bot ws 1 * bot rs.flatten 1 < 2 ^ 9000 := Nat.lt_of_lt_of_le (pw (bot4 h1 (by omega)) (bot4 hfA (by omega))) (Nat.pow_le_pow_right (by decide) (by decide))
  have al := acc_len (B := bot ws 1) (C := bot rs.flatten 1) (N := n) ws rs (List.replicate n 0) (fun r hr => (h2 r hr).2) (by simp)
  have c3 := frac_list_c hL k (acc (bot ws 1) (bot rs.flatten 1) ws rs (List.replicate n 0)) (bot ws 1 * bot rs.flatten 1) (Nat.mul_pos hp1 hp2) hb (by omega) (rs.flatten.map fr) [.int 0]
  rw [mix_plain hp1 hp2 (fun r hr => (h2 r hr).2) (bot_mem ws 1) (fun r hr q hq => bot_mem rs.flatten 1 q (List.mem_flatten.mpr ⟨r, hr, hq⟩))] at c3
  have zz := zipP_map (fun q : Rat => P.int (tp (bot ws 1) q)) row ws rs
  refine ⟨[rs.flatten.map fr, [.int 0], (acc (bot ws 1) (bot rs.flatten 1) ws rs (List.replicate n 0)).map .int], ?_⟩
  have s := evF_step (G := G) (N := L) (M := []) tab (k + 3) 9 [.p (row ws), .p (.tup (rs.map row)), .p (.int n)] F_mixed rfl rfl
  refine s.trans ?_
  simp only [F_mixed, entry]
  simp [-Option.bind_some, -List.map_flatten, -List.map_replicate, c1, src, asSrc, fl, nl, c2, nl2, ml, zz, ol, hm]
  rw [Int.natCast_mul] at c3
  unfold W at c3
  rw [c3]
  rfl
theorem mixed_c {L : Nat} (hL : 2 ^ 9000 < L) (k a n : Nat) (ws : List Rat) (rs : List (List Rat)) (h1 : AllB a ws) (h2 : ∀ r ∈ rs, AllB a r ∧ r.length = n) (hn : n ≤ 4000) (hs : 1 + a + a * ws.length + a * rs.flatten.length ≤ 4000) (hwl : ws.length ≤ 4000) (hfl : rs.flatten.length ≤ 4000) (M : Mem) :
    callX (W L (k + 4)) 9 [.p (row ws), .p (.tup (rs.map row)), .p (.int n)] M = some (.p (row (mixR ws rs n)), M) := by
  obtain ⟨Mc, e⟩ := mixed_ok hL k a n ws rs h1 h2 hn hs hwl hfl
  exact callX_q 9 [row ws, .tup (rs.map row), .int n] _ Mc e
end K16
end

section
set_option linter.all false
set_option autoImplicit false
set_option maxRecDepth 10000
namespace K16
open PySem IX
abbrev Ask := List Rat × Rat
def pairP (c : Ask) : P := .tup [row c.1, fr c.2]
def pairsP (cs : List Ask) : P := .tup (cs.map pairP)
def asksP (A : List (List Ask)) : P := .tup (A.map pairsP)
def tabP (T : List (List Rat)) : P := .tup (T.map row)
/-- what is fit: the asks, the table -/
structure Fit (A : List (List Ask)) (T : List (List Rat)) (n : Nat) : Prop where
  len : A.length ≤ 100
  rows : ∀ cs ∈ A, cs.length ≤ 100
  ask : ∀ cs ∈ A, ∀ c ∈ cs, c.1.length = T.length ∧ AllB 3 c.1
  tab : ∀ r ∈ T, AllB 3 r ∧ r.length = n
  pos : 0 < T.length
  tl : T.length ≤ 20
  nl : n ≤ 20
def worseA (A : List (List Ask)) (T : List (List Rat)) (n : Nat) : List (List Ask) := A.map fun cs => cs.map fun c => (mixR c.1 T n, c.2)
theorem idx_zero (x : P) (l : List P) (M : Mem) : index (.p (.tup (x :: l))) (.p (.int 0)) M = some x := idx_tup (k := 0) rfl
theorem flat_len {T : List (List Rat)} {n : Nat} (h : ∀ r ∈ T, AllB 3 r ∧ r.length = n) : T.flatten.length = T.length * n := by
  induction T with
  | nil => simp
  | cons r T ih =>
    rw [List.flatten_cons, List.length_append, ih (fun x hx => h x (List.mem_cons_of_mem _ hx)), (h r List.mem_cons_self).2, List.length_cons, Nat.succ_mul]
    omega
theorem Fit.fl {A : List (List Ask)} {T : List (List Rat)} {n : Nat} (h : Fit A T n) : T.flatten.length ≤ 400 := by
  rw [flat_len h.tab]
  exact Nat.le_trans (Nat.mul_le_mul h.tl h.nl) (by decide)
theorem Fit.zero {A : List (List Ask)} {T : List (List Rat)} {n : Nat} (h : Fit A T n) (M : Mem) : ∃ l : List Rat, index (.p (tabP T)) (.p (.int 0)) M = some (row l) ∧ l.length = n := by
  cases T with
  | nil => exact absurd h.pos (by simp)
  | cons r T => exact ⟨r, idx_zero _ _ M, (h.tab r List.mem_cons_self).2⟩
theorem seen_ok {L : Nat} (hL : 2 ^ 9000 < L) (k n : Nat) (A : List (List Ask)) (T : List (List Rat)) (h : Fit A T n) : W L (k + 5) 10 [.p (asksP A), .p (tabP T)] [] = some (.p (asksP (worseA A T n)), []) := by
  unfold W
  rw [evF_step _ _ _ _ F_worse_seen rfl rfl]
  obtain ⟨r0, i0, hr0⟩ := h.zero []
  have hfl := h.fl
  have htl := h.tl
  have hnl := h.nl
  have inner : ∀ cs ∈ A, ∀ c ∈ cs, gnx (evF tab G L (k + 4)) G [3, 4] (.tup [(.call 9 [(.v 3), (.v 1), (.v 2)] [0, 1, 2]), (.v 4)]) (.tp [(.nm 3), (.nm 4)]) [] [some (.p (asksP A)), some (.p (tabP T)), some (.p (.int n)), none, none, some (.p (pairsP cs))] [] (pairP c) = some (some (pairP (mixR c.1 T n, c.2))) := by
    intro cs hcs c hc
    obtain ⟨h1, h2⟩ := h.ask cs hcs c hc
    have m := mixed_c hL k 3 n c.1 T h2 h.tab (by omega) (by omega) (by omega) (by omega) []
    unfold W at m
    rw [show P.tup (T.map row) = tabP T from rfl] at m
    simp [-Option.bind_some, gnx, wipeE, pairP, m, s2]
  have outer : ∀ cs ∈ A, gnx (evF tab G L (k + 4)) G [5] (.gen .tuple [3, 4] (.tup [(.call 9 [(.v 3), (.v 1), (.v 2)] [0, 1, 2]), (.v 4)]) (.tp [(.nm 3), (.nm 4)]) .seq [(.v 5)] []) (.nm 5) [] [some (.p (asksP A)), some (.p (tabP T)), some (.p (.int n)), none, none, none] [] (pairsP cs) = some (some (pairsP (cs.map fun c => (mixR c.1 T n, c.2)))) := by
    intro cs hcs
    have gt := gturns_of pairP (fun c => pairP (mixR c.1 T n, c.2)) cs (inner cs hcs)
    have hl : cs.length + 1 < sizeLine := small_ok (by have := h.rows cs hcs; omega)
    rw [gnx]
    simp [-Option.bind_some, wipeE]
    rw [show src .seq [.p (pairsP cs)] [] = some ⟨cs.map pairP, [], true⟩ from rfl]
    simp only [obs]
    rw [gt]
    simp [-Option.bind_some, hl]
    simp [pairsP]
    try rfl
  have gt := gturns_of pairsP (fun cs => pairsP (cs.map fun c => (mixR c.1 T n, c.2))) A outer
  have hl : A.length + 1 < sizeLine := small_ok (by have := h.len; omega)
  simp only [F_worse_seen, entry]
  simp [-Option.bind_some, i0, row, hr0]
  rw [show src .seq [.p (asksP A)] [] = some ⟨A.map pairsP, [], true⟩ from rfl]
  simp only [obs]
  rw [gt]
  simp [-Option.bind_some, hl]
  simp [asksP, worseA]
  try rfl
theorem seen_c {L : Nat} (hL : 2 ^ 9000 < L) (k n : Nat) (A : List (List Ask)) (T : List (List Rat)) (h : Fit A T n) (M : Mem) : callX (W L (k + 5)) 10 [.p (asksP A), .p (tabP T)] M = some (.p (asksP (worseA A T n)), M) := callX_p 10 [asksP A, tabP T] _ (seen_ok hL k n A T h)
/-- the pays as the table brings them back -/
def backA (Y : List (List Rat)) (T : List (List Rat)) : List (List Rat) := Y.map fun y => T.map fun r => dot r y
structure FitY (Y T : List (List Rat)) (n : Nat) : Prop where
  y : ∀ r ∈ Y, AllB 3 r ∧ r.length = n
  t : ∀ r ∈ T, AllB 3 r ∧ r.length = n
  yl : Y.length ≤ 100
  tl : T.length ≤ 100
  nl : n ≤ 20
theorem paid_ok {L : Nat} (hL : 2 ^ 9000 < L) (k n : Nat) (Y T : List (List Rat)) (h : FitY Y T n) : W L (k + 6) 11 [.p (tabP Y), .p (tabP T)] [] = some (.p (tabP (backA Y T)), []) := by
  unfold W
  rw [evF_step _ _ _ _ F_pays_back rfl rfl]
  have hnl := h.nl
  have inner : ∀ y ∈ Y, ∀ r ∈ T, gnx (evF tab G L (k + 5)) G [2] (.call 7 [(.v 2), (.v 3)] [0, 1]) (.nm 2) [] [some (.p (tabP Y)), some (.p (tabP T)), none, some (.p (row y))] [] (row r) = some (some (fr (dot r y))) := by
    intro y hy r hr
    obtain ⟨y1, y2⟩ := h.y y hy
    obtain ⟨r1, r2⟩ := h.t r hr
    have m := dot7_c hL k 3 r y r1 y1 (by omega) (by omega) (by omega) (by omega) []
    unfold W at m
    simp [-Option.bind_some, gnx, wipeE, m]
  have outer : ∀ y ∈ Y, gnx (evF tab G L (k + 5)) G [3] (.gen .tuple [2] (.call 7 [(.v 2), (.v 3)] [0, 1]) (.nm 2) .seq [(.v 1)] []) (.nm 3) [] [some (.p (tabP Y)), some (.p (tabP T)), none, none] [] (row y) = some (some (row (T.map fun r => dot r y))) := by
    intro y hy
    have gt := gturns_of row (fun r => fr (dot r y)) T (inner y hy)
    have hl : T.length + 1 < sizeLine := small_ok (by have := h.tl; omega)
    rw [gnx]
    simp [-Option.bind_some, wipeE]
    rw [show src .seq [.p (tabP T)] [] = some ⟨T.map row, [], true⟩ from rfl]
    simp only [obs]
    rw [gt]
    simp [-Option.bind_some, hl]
    simp [row]
    try rfl
  have gt := gturns_of row (fun y => row (T.map fun r => dot r y)) Y outer
  have hl : Y.length + 1 < sizeLine := small_ok (by have := h.yl; omega)
  simp only [F_pays_back, entry]
  simp [-Option.bind_some]
  rw [show src .seq [.p (tabP Y)] [] = some ⟨Y.map row, [], true⟩ from rfl]
  simp only [obs]
  rw [gt]
  simp [-Option.bind_some, hl]
  simp [tabP, backA]
  try rfl
theorem paid_c {L : Nat} (hL : 2 ^ 9000 < L) (k n : Nat) (Y T : List (List Rat)) (h : FitY Y T n) (M : Mem) : callX (W L (k + 6)) 11 [.p (tabP Y), .p (tabP T)] M = some (.p (tabP (backA Y T)), M) := callX_p 11 [tabP Y, tabP T] _ (paid_ok hL k n Y T h)
end K16
end

section
set_option linter.all false
set_option autoImplicit false
set_option maxRecDepth 10000
namespace K16
open PySem IX
theorem lcs_ext {A : Type} (h : A → P) (f : A → P) (g : A → List P) {V : Wd} {G : Str → Option P} {ρ : IX.Env} {vs : List Nat} {elt : E} {t : T} {ifs : List E} {s : Src} (ho : ∀ M, s.ok M = true) : ∀ (xs : List A) (M : Mem), (∀ x ∈ xs, ∀ M, lcx V G vs elt t ifs ρ (h x) M = some ([f x], M ++ [g x])) → lcs V G vs elt t ifs s (xs.map h) ρ M = some (xs.map f, M ++ xs.map g)
  | [], M, _ => by simp
  | x :: xs, M, e => by
    rw [List.map_cons, lcs_cons, e x List.mem_cons_self]
    simp only [obs, ho, if_true]
    rw [lcs_ext h f g ho xs _ (fun y hy => e y (List.mem_cons_of_mem _ hy))]
    simp
theorem newl_ok {xs : List P} {M : Mem} (h : xs.length ≤ 4000) : newl xs M = some (.l M.length, M ++ [xs]) := by
  unfold newl
  rw [if_pos (small_le h)]
theorem rngP (n : Nat) : rangeP 0 n = (List.range n).map fun (k : Nat) => P.int k := by
  unfold rangeP
  refine List.map_congr_left fun k _ => ?_
  rw [Int.zero_add]
theorem col_get {T : List (List Rat)} {n j : Nat} (h : ∀ r ∈ T, AllB 3 r ∧ r.length = n) (hj : j < n) {r : List Rat} (hr : r ∈ T) (M : Mem) : index (.p (row r)) (.p (.int j)) M = some (fr (r.getD j 0)) := by
  have hl := (h r hr).2
  refine idx_tup ?_
  rw [List.getElem?_map, List.getElem?_eq_getElem (by omega)]
  simp [List.getD, List.getElem?_eq_getElem (show j < r.length by omega)]
theorem col_bd {T : List (List Rat)} {n j : Nat} (h : ∀ r ∈ T, AllB 3 r ∧ r.length = n) (hj : j < n) : AllB 3 (col j T) := by
  intro q hq
  obtain ⟨r, hr, rfl⟩ := List.mem_map.mp hq
  have hl := (h r hr).2
  rw [List.getD, List.getElem?_eq_getElem (by omega)]
  exact (h r hr).1 _ (List.getElem_mem _)
theorem col_len (j : Nat) (T : List (List Rat)) : (col j T).length = T.length := by simp [col]
/-- a change told through the table, in the law's own code -/
theorem told_e {L : Nat} (hL : 2 ^ 9000 < L) (k n : Nat) (T : List (List Rat)) (hT : ∀ r ∈ T, AllB 3 r ∧ r.length = n) (hp : 0 < T.length) (ht : T.length ≤ 20) (hn : n ≤ 20) (c : List Rat) (hc : c.length = T.length) (hA : AllB 3 c) {e0 e2 e3 e4 e6 e7 e8 : Option D} (M : Mem) :
    ∃ X, evE (W L (k + 4)) G (.bi .tuple [(.lc [8] (.call 21 [(.v 5), (.lc [7] (.idx (.v 7) (.v 8)) (.nm 7) .seq [(.v 1)] [])] [0, 1]) (.nm 8) .rng [(.bi .len [(.idx (.v 1) (.c (.int 0)))])] [])]) [e0, some (.p (tabP T)), e2, e3, e4, some (.p (row c)), e6, e7, e8] M = some (.p (row (mixR c T n)), M ++ X) := by
  obtain ⟨r0, i0, hr0⟩ : ∃ l : List Rat, index (.p (tabP T)) (.p (.int 0)) M = some (row l) ∧ l.length = n := by
    cases T with
    | nil => exact absurd hp (by simp)
    | cons r T => exact ⟨r, idx_zero _ _ M, (hT r List.mem_cons_self).2⟩
  have el : ∀ j ∈ List.range n, ∀ M, lcx (W L (k + 4)) G [8] (.call 21 [(.v 5), (.lc [7] (.idx (.v 7) (.v 8)) (.nm 7) .seq [(.v 1)] [])] [0, 1]) (.nm 8) [] [e0, some (.p (tabP T)), e2, e3, e4, some (.p (row c)), e6, e7, e8] (.int ((j : Nat) : Int)) M = some ([fr (dot c (col j T))], M ++ [(col j T).map fr]) := by
    intro j hj M
    rw [List.mem_range] at hj
    have li := lcs_of (V := W L (k + 4)) (G := G) (M := M) (ρ := [e0, some (.p (tabP T)), e2, e3, e4, some (.p (row c)), e6, e7, some (.p (.int j))]) (vs := [7]) (elt := .idx (.v 7) (.v 8)) (t := .nm 7) (ifs := []) (s := ⟨T.map row, [], true⟩) row (fun r => fr (r.getD j 0)) rfl T (by
      intro r hr
      have ig := col_get hT hj hr M
      simp [-Option.bind_some, lcx, wipeE, ig])
    have cm : (T.map fun r => fr (r.getD j 0)) = (col j T).map fr := by rw [col, List.map_map]; rfl
    rw [cm] at li
    have nl := newl_ok (xs := (col j T).map fr) (M := M) (by rw [List.length_map, col_len]; omega)
    have d := dot_l hL k 3 c (col j T) (by rw [col_len, hc]) hA (col_bd hT hj) (by omega) (by omega) (M ++ [(col j T).map fr]) M.length (by simp)
    rw [lcx]
    simp [-Option.bind_some, wipeE]
    rw [show src .seq [.p (tabP T)] M = some ⟨T.map row, [], true⟩ from rfl]
    simp [-Option.bind_some, li, nl, d]
  have le := lcs_ext (s := ⟨(List.range n).map fun (k : Nat) => P.int k, [], true⟩) (fun (j : Nat) => P.int (j : Int)) (fun j => fr (dot c (col j T))) (fun j => (col j T).map fr) (fun _ => rfl) (List.range n) M el
  have sr := src_rng (n := n) (M := M) (by omega)
  rw [rngP] at sr
  have nl := newl_ok (xs := (List.range n).map fun j => fr (dot c (col j T))) (M := M ++ (List.range n).map fun j => (col j T).map fr) (by rw [List.length_map, List.length_range]; omega)
  refine ⟨(List.range n).map (fun j => (col j T).map fr) ++ [(List.range n).map fun j => fr (dot c (col j T))], ?_⟩
  simp [-Option.bind_some, i0, row, hr0, sr]
  simp [-Option.bind_some, row] at le
  rw [le]
  simp only [obs]
  rw [nl]
  simp [-Option.bind_some, mixR]
abbrev toldE : E := .bi .tuple [(.lc [8] (.call 21 [(.v 5), (.lc [7] (.idx (.v 7) (.v 8)) (.nm 7) .seq [(.v 1)] [])] [0, 1]) (.nm 8) .rng [(.bi .len [(.idx (.v 1) (.c (.int 0)))])] [])]
theorem app_ok {xs : List P} {x : P} (h : xs.length < 4000) : mtf .append xs [.p x] = some (.non, xs ++ [x]) := by
  show (if xs.length < sizeLine then some (P.non, xs ++ [x]) else none) = _
  rw [if_pos (by have := small_ok (n := xs.length) (by omega); omega)]
theorem get_app {M X : Mem} {i : Nat} {xs : List P} (h : M[i]? = some xs) : (M ++ X)[i]? = some xs := by
  have hl := (List.getElem?_eq_some_iff.mp h).1
  rw [List.getElem?_append_left hl, h]
theorem set_get {M : Mem} {i : Nat} {xs ys : List P} (h : M[i]? = some xs) : (M.set i ys)[i]? = some ys := by
  have hl := (List.getElem?_eq_some_iff.mp h).1
  rw [List.getElem?_set_self hl]
theorem in27 {L : Nat} (hL : 2 ^ 9000 < L) (k n : Nat) (T : List (List Rat)) (hT : ∀ r ∈ T, AllB 3 r ∧ r.length = n) (hp : 0 < T.length) (ht : T.length ≤ 20) (hn : n ≤ 20) {s : Src} (ho : ∀ M, s.ok M = true) {e0 e2 e3 e7 e8 : Option D} {j : Nat} : ∀ (cs : List Ask) (xs : List P) (M : Mem) (p5 p6 : Option D), (∀ c ∈ cs, c.1.length = T.length ∧ AllB 3 c.1) → M[j]? = some xs → xs.length + cs.length ≤ 4000 →
    ∃ M' o5 o6, lop (W L (k + 4)) G L (.tp [(.nm 5), (.nm 6)]) [.ex (.mt .append (.v 4) [(.tup [toldE, (.v 6)])])] s (cs.map pairP) [e0, some (.p (tabP T)), e2, e3, some (.l j), p5, p6, e7, e8] M = some (.nx [e0, some (.p (tabP T)), e2, e3, some (.l j), o5, o6, e7, e8] M') ∧
      M'[j]? = some (xs ++ cs.map fun c => pairP (mixR c.1 T n, c.2)) ∧ ∀ i < j, M'[i]? = M[i]? := by
  intro cs
  induction cs with
  | nil => intro xs M p5 p6 _ hj _; exact ⟨M, p5, p6, rfl, by simpa using hj, fun _ _ => rfl⟩
  | cons c cs ih =>
    intro xs M p5 p6 hc hj hl
    obtain ⟨c1, c2⟩ := hc c List.mem_cons_self
    rw [List.length_cons] at hl
    obtain ⟨X, eX⟩ := told_e hL k n T hT hp ht hn c.1 c1 c2 (e0 := e0) (e2 := e2) (e3 := e3) (e4 := some (.l j)) (e6 := some (.p (fr c.2))) (e7 := e7) (e8 := e8) M
    have g1 := get_app (X := X) hj
    have ap := app_ok (xs := xs) (x := pairP (mixR c.1 T n, c.2)) (by omega)
    have hjl : j < M.length := (List.getElem?_eq_some_iff.mp hj).1
    obtain ⟨M', o5, o6, e, r1, r2⟩ := ih (xs ++ [pairP (mixR c.1 T n, c.2)]) ((M ++ X).set j (xs ++ [pairP (mixR c.1 T n, c.2)])) (some (.p (row c.1))) (some (.p (fr c.2))) (fun y hy => hc y (List.mem_cons_of_mem _ hy)) (set_get g1) (by simp; omega)
    refine ⟨M', o5, o6, ?_, ?_, ?_⟩
    · rw [List.map_cons, lop_cons]
      simp only [pairP, put_tp, puts_cons, puts_nil, put_nm, List.length_cons, List.length_nil, List.set_cons_succ, List.set_cons_zero]
      simp only [toldE] at e ⊢
      simp [-Option.bind_some, -e_bi, s2, ho]
      rw [eX]
      simp only [pairP] at ap e
      simp [-Option.bind_some, s2, ho, g1, ap]
      exact e
    · rw [r1]; simp
    · intro i hi
      rw [r2 i hi, List.getElem?_set_ne (by omega), List.getElem?_append_left (by omega)]
theorem out27 {L : Nat} (hL : 2 ^ 9000 < L) (k n : Nat) (T : List (List Rat)) (hT : ∀ r ∈ T, AllB 3 r ∧ r.length = n) (hp : 0 < T.length) (ht : T.length ≤ 20) (hn : n ≤ 20) {s : Src} (ho : ∀ M, s.ok M = true) {e0 e7 e8 : Option D} : ∀ (A : List (List Ask)) (xs : List P) (M : Mem) (p3 p4 p5 p6 : Option D), (∀ cs ∈ A, cs.length ≤ 100 ∧ ∀ c ∈ cs, c.1.length = T.length ∧ AllB 3 c.1) → M[0]? = some xs → xs.length + A.length ≤ 4000 →
    ∃ M' o3 o4 o5 o6, lop (W L (k + 4)) G L (.nm 3) [.set (.nm 4) (.lst []), .loop (.tp [(.nm 5), (.nm 6)]) .seq [(.v 3)] [.ex (.mt .append (.v 4) [(.tup [toldE, (.v 6)])])], .ex (.mt .append (.v 2) [(.bi .tuple [(.v 4)])])] s (A.map pairsP) [e0, some (.p (tabP T)), some (.l 0), p3, p4, p5, p6, e7, e8] M = some (.nx [e0, some (.p (tabP T)), some (.l 0), o3, o4, o5, o6, e7, e8] M') ∧
      M'[0]? = some (xs ++ A.map fun cs => pairsP (cs.map fun c => (mixR c.1 T n, c.2))) := by
  intro A
  induction A with
  | nil => intro xs M p3 p4 p5 p6 _ hj _; exact ⟨M, p3, p4, p5, p6, rfl, by simpa using hj⟩
  | cons cs A ih =>
    intro xs M p3 p4 p5 p6 hc hj hl
    obtain ⟨c1, c2⟩ := hc cs List.mem_cons_self
    rw [List.length_cons] at hl
    have hjl : 0 < M.length := (List.getElem?_eq_some_iff.mp hj).1
    have nl := newl_ok (xs := []) (M := M) (by simp)
    obtain ⟨M1, o5, o6, e1, r1, r2⟩ := in27 hL k n T hT hp ht hn (s := ⟨cs.map pairP, [], true⟩) (fun _ => rfl) (e0 := e0) (e2 := some (.l 0)) (e3 := some (.p (pairsP cs))) (e7 := e7) (e8 := e8) (j := M.length) cs [] (M ++ [[]]) p5 p6 c2 (by simp) (by simp; omega)
    rw [List.nil_append] at r1
    have r0 : M1[0]? = some xs := by rw [r2 0 hjl, List.getElem?_append_left hjl, hj]
    have ap := app_ok (xs := xs) (x := pairsP (cs.map fun c => (mixR c.1 T n, c.2))) (by omega)
    obtain ⟨M', o3, o4, o5', o6', e, rr⟩ := ih (xs ++ [pairsP (cs.map fun c => (mixR c.1 T n, c.2))]) (M1.set 0 (xs ++ [pairsP (cs.map fun c => (mixR c.1 T n, c.2))])) (some (.p (pairsP cs))) (some (.l M.length)) o5 o6 (fun y hy => hc y (List.mem_cons_of_mem _ hy)) (set_get r0) (by simp; omega)
    refine ⟨M', o3, o4, o5', o6', ?_, ?_⟩
    · have pe : P.tup (cs.map fun c => pairP (mixR c.1 T n, c.2)) = pairsP (cs.map fun c => (mixR c.1 T n, c.2)) := by rw [pairsP, List.map_map]; rfl
      rw [List.map_cons, lop_cons]
      simp only [put_nm, List.length_cons, List.length_nil, List.set_cons_succ, List.set_cons_zero]
      simp [-Option.bind_some, nl]
      rw [show src .seq [.p (pairsP cs)] (M ++ [[]]) = some ⟨cs.map pairP, [], true⟩ from rfl]
      simp only [obs]
      rw [e1]
      simp only [obs]
      simp [-Option.bind_some, r1, pe, r0, ap, ho]
      exact e
    · rw [rr]; simp
theorem worse_ok {L : Nat} (hL : 2 ^ 9000 < L) (k n : Nat) (A : List (List Ask)) (T : List (List Rat)) (h : Fit A T n) : ∃ Mc, W L (k + 5) 27 [.p (asksP A), .p (tabP T)] [] = some (.p (asksP (worseA A T n)), Mc) := by
  obtain ⟨M', o3, o4, o5, o6, e, r⟩ := out27 hL k n T h.tab h.pos h.tl h.nl (s := ⟨A.map pairsP, [], true⟩) (fun _ => rfl) (e0 := some (.p (asksP A))) (e7 := none) (e8 := none) A [] [[]] none none none none (fun cs hcs => ⟨h.rows cs hcs, h.ask cs hcs⟩) rfl (by have := h.len; simp; omega)
  rw [List.nil_append] at r
  refine ⟨M', ?_⟩
  have s := evF_step (G := G) (N := L) (M := []) tab (k + 4) 27 [.p (asksP A), .p (tabP T)] F__law_worse rfl rfl
  refine s.trans ?_
  have nl := newl_ok (xs := []) (M := []) (by simp)
  have pe : P.tup (A.map fun cs => pairsP (cs.map fun c => (mixR c.1 T n, c.2))) = asksP (worseA A T n) := by rw [asksP, worseA, List.map_map]; rfl
  simp only [F__law_worse, entry]
  simp [-Option.bind_some, nl]
  rw [show src .seq [.p (asksP A)] [[]] = some ⟨A.map pairsP, [], true⟩ from rfl]
  simp only [obs]
  simp only [toldE] at e
  unfold W at e
  rw [e]
  simp [-Option.bind_some, r, pe]
theorem worse_c {L : Nat} (hL : 2 ^ 9000 < L) (k n : Nat) (A : List (List Ask)) (T : List (List Rat)) (h : Fit A T n) (M : Mem) : callX (W L (k + 5)) 27 [.p (asksP A), .p (tabP T)] M = some (.p (asksP (worseA A T n)), M) := by
  obtain ⟨Mc, e⟩ := worse_ok hL k n A T h
  exact callX_q 27 [asksP A, tabP T] _ Mc e
theorem back_ok {L : Nat} (hL : 2 ^ 9000 < L) (k n : Nat) (Y T : List (List Rat)) (h : FitY Y T n) : ∃ Mc, W L (k + 5) 28 [.p (tabP Y), .p (tabP T)] [] = some (.p (tabP (backA Y T)), Mc) := by
  have hnl := h.nl
  have inner : ∀ y ∈ Y, ∀ M, ∀ r ∈ T, lcx (W L (k + 4)) G [2] (.call 21 [(.v 2), (.v 3)] [0, 1]) (.nm 2) [] [some (.p (tabP Y)), some (.p (tabP T)), none, some (.p (row y))] (row r) M = some ([fr (dot r y)], M) := by
    intro y hy M r hr
    obtain ⟨y1, y2⟩ := h.y y hy
    obtain ⟨r1, r2⟩ := h.t r hr
    have m := dot_p hL k 3 r y (by omega) r1 y1 (by omega) (by omega) M
    simp [-Option.bind_some, lcx, wipeE, m]
  have outer : ∀ y ∈ Y, ∀ M, lcx (W L (k + 4)) G [3] (.bi .tuple [(.lc [2] (.call 21 [(.v 2), (.v 3)] [0, 1]) (.nm 2) .seq [(.v 1)] [])]) (.nm 3) [] [some (.p (tabP Y)), some (.p (tabP T)), none, none] (row y) M = some ([row (T.map fun r => dot r y)], M ++ [(T.map fun r => dot r y).map fr]) := by
    intro y hy M
    have lm := lcs_of (s := ⟨T.map row, [], true⟩) row (fun r => fr (dot r y)) rfl T (inner y hy M)
    have nl := newl_ok (xs := T.map fun r => fr (dot r y)) (M := M) (by rw [List.length_map]; have := h.tl; omega)
    rw [lcx]
    simp [-Option.bind_some, wipeE]
    rw [show src .seq [.p (tabP T)] M = some ⟨T.map row, [], true⟩ from rfl]
    simp only [obs]
    rw [lm]
    simp [-Option.bind_some, nl, row]
    try exact ⟨rfl, rfl⟩
  have le := lcs_ext (s := ⟨Y.map row, [], true⟩) row (fun y => row (T.map fun r => dot r y)) (fun y => (T.map fun r => dot r y).map fr) (fun _ => rfl) Y [] outer
  rw [List.nil_append] at le
  have nl := newl_ok (xs := Y.map fun y => row (T.map fun r => dot r y)) (M := Y.map fun y => (T.map fun r => dot r y).map fr) (by rw [List.length_map]; have := h.yl; omega)
  refine ⟨(Y.map fun y => (T.map fun r => dot r y).map fr) ++ [Y.map fun y => row (T.map fun r => dot r y)], ?_⟩
  have s := evF_step (G := G) (N := L) (M := []) tab (k + 4) 28 [.p (tabP Y), .p (tabP T)] F__law_back rfl rfl
  refine s.trans ?_
  simp only [F__law_back, entry]
  simp [-Option.bind_some, -List.map_map]
  rw [show src .seq [.p (tabP Y)] [] = some ⟨Y.map row, [], true⟩ from rfl]
  simp only [obs]
  unfold W at le
  rw [le]
  simp [-Option.bind_some, -List.map_map, nl]
  rw [tabP, backA, List.map_map]
  rfl
theorem back_c {L : Nat} (hL : 2 ^ 9000 < L) (k n : Nat) (Y T : List (List Rat)) (h : FitY Y T n) (M : Mem) : callX (W L (k + 5)) 28 [.p (tabP Y), .p (tabP T)] M = some (.p (tabP (backA Y T)), M) := by
  obtain ⟨Mc, e⟩ := back_ok hL k n Y T h
  exact callX_q 28 [tabP Y, tabP T] _ Mc e
/-- a row with one place told -/
def unitR (n c : Nat) : List Rat := (List.range n).map fun j => if j = c then 1 else 0
theorem fr1 : P.tup [.int 1, .int 1] = fr 1 := rfl
theorem G1' : G "ONE" = some (fr 1) := rfl
theorem G0' : G "ZERO" = some (fr 0) := rfl
theorem unit_ok {L : Nat} (k n c : Nat) (hn : n ≤ 4000) : W L (k + 1) 8 [.p (.int n), .p (.int c)] [] = some (.p (row (unitR n c)), []) := by
  have el : ∀ j ∈ List.range n, gnx (W L k) G [2] (.ife (.cmp .eq (.v 2) (.v 1)) (.g "ONE") (.g "ZERO")) (.nm 2) [] [some (.p (.int n)), some (.p (.int c)), none] [] (.int ((j : Nat) : Int)) = some (some (fr (if j = c then 1 else 0))) := by
    intro j _
    by_cases hj : j = c
    · subst hj
      simp [-Option.bind_some, gnx, wipeE, G1']
    · have : ¬ ((j : Int) = (c : Int)) := by omega
      simp [-Option.bind_some, gnx, wipeE, G0', this, hj]
  have gt := gturns_of (fun (j : Nat) => P.int (j : Int)) (fun j => fr (if j = c then 1 else 0)) (List.range n) el
  have hl : ((List.range n).map fun j => fr (if j = c then 1 else 0)).length + 1 < sizeLine := by rw [List.length_map, List.length_range]; exact small_ok hn
  have sr := src_rng (n := n) (M := []) (by omega)
  rw [rngP] at sr
  unfold W
  rw [evF_step _ _ _ _ F_unit rfl rfl]
  simp only [F_unit, entry]
  simp [-Option.bind_some, -List.map_map, sr]
  unfold W at gt
  rw [gt]
  simp only [obs]
  rw [if_pos hl]
  simp only [obs]
  rw [row, unitR, List.map_map]
  rfl
theorem unit_c {L : Nat} (k n c : Nat) (hn : n ≤ 4000) (M : Mem) : callX (W L (k + 1)) 8 [.p (.int n), .p (.int c)] M = some (.p (row (unitR n c)), M) := callX_p 8 [.int n, .int c] _ (unit_ok k n c hn)
def intsT (cs : List Nat) : P := .tup (cs.map fun (c : Nat) => P.int c)
/-- the greatest of them -/
def maxN : Nat → List Nat → Nat
  | a, [] => a
  | a, b :: r => maxN (if b > a then b else a) r
theorem maxI_nat : ∀ (r : List Nat) (a : Nat), maxI (a : Int) (r.map fun (c : Nat) => (c : Int)) = (maxN a r : Int)
  | [], a => rfl
  | b :: r, a => by
    show maxI (if (b : Int) > a then (b : Int) else a) _ = (maxN (if b > a then b else a) r : Int)
    rw [← maxI_nat r]
    congr 1
    by_cases h : b > a
    · rw [if_pos h, if_pos (by omega)]
    · rw [if_neg h, if_neg (by omega)]
theorem maxN_lt {m : Nat} : ∀ (r : List Nat) (a : Nat), a < m → (∀ x ∈ r, x < m) → maxN a r < m
  | [], a, h, _ => h
  | b :: r, a, h, hr => maxN_lt r _ (by split; exact hr b List.mem_cons_self; exact h) fun x hx => hr x (List.mem_cons_of_mem _ hx)
theorem max_ok {a : Nat} {r : List Nat} {M : Mem} {d : D} (h : items M d = some ((a :: r).map fun (c : Nat) => P.int c)) (hd : (∃ l, d = .p (.tup l)) ∨ ∃ i, d = .l i) : bfun .max [d] M = some (.p (.int (maxN a r)), M) := by
  have hi : intsP ((a :: r).map fun (c : Nat) => P.int c) = some ((a :: r).map fun (c : Nat) => (c : Int)) := intsP_map (fun (c : Nat) => (c : Int)) (a :: r)
  have e : bfun .max [d] M = (items M d).bind fun l => (intsP l).bind fun is => (match is with
    | [] => none
    | a :: r => some (.p (.int (maxI a r)), M)) := by
    rcases hd with ⟨l, rfl⟩ | ⟨i, rfl⟩ <;> rfl
  rw [e, h]
  simp only [obs]
  rw [hi]
  simp only [obs, List.map_cons]
  rw [maxI_nat]
theorem joined_ok {L : Nat} (hL : 2 ^ 9000 < L) (k : Nat) (A : List (List Ask)) (a : Nat) (r : List Nat) (h : Fit A ((a :: r).map (unitR (maxN a r + 1))) (maxN a r + 1)) : W L (k + 6) 12 [.p (asksP A), .p (intsT (a :: r))] [] = some (.p (asksP (worseA A ((a :: r).map (unitR (maxN a r + 1))) (maxN a r + 1))), []) := by
  have hnl := h.nl
  have htl := h.tl
  rw [List.length_map] at htl
  have mx := max_ok (a := a) (r := r) (M := []) (d := .p (intsT (a :: r))) rfl (.inl ⟨_, rfl⟩)
  have el : ∀ c ∈ a :: r, gnx (W L (k + 5)) G [3] (.call 8 [(.v 2), (.v 3)] [0, 1]) (.nm 3) [] [some (.p (asksP A)), some (.p (intsT (a :: r))), some (.p (.int (maxN a r + 1 : Nat))), none] [] (.int ((c : Nat) : Int)) = some (some (row (unitR (maxN a r + 1) c))) := by
    intro c _
    have u := unit_c (L := L) (k + 4) (maxN a r + 1) c (by omega) []
    simp [-Option.bind_some, gnx, wipeE] at u ⊢
    rw [u]
    simp [-Option.bind_some]
  have gt := gturns_of (fun (c : Nat) => P.int (c : Int)) (fun c => row (unitR (maxN a r + 1) c)) (a :: r) el
  have sn := seen_c hL k (maxN a r + 1) A _ h []
  have hl : ((a :: r).map fun c => row (unitR (maxN a r + 1) c)).length + 1 < sizeLine := by rw [List.length_map]; exact small_ok (by omega)
  unfold W
  rw [evF_step _ _ _ _ F_joined_cells rfl rfl]
  simp only [F_joined_cells, entry]
  unfold W at gt sn
  rw [show (((maxN a r + 1 : Nat)) : Int) = (maxN a r : Int) + 1 from rfl] at gt
  have te : P.tup ((a :: r).map fun c => row (unitR (maxN a r + 1) c)) = tabP ((a :: r).map (unitR (maxN a r + 1))) := by rw [tabP, List.map_map]; rfl
  generalize a :: r = cs at *
  simp only [ss_cons', s_set', e_bin, e_bi, es_cons, es_nil, e_v, e_c, List.map_cons, List.map_nil, List.cons_append, List.nil_append, List.getElem?_cons_succ, List.getElem?_cons_zero, obs, List.replicate, mx, b_add, putD_nm, List.length_cons, List.length_nil, List.set_cons_succ, List.set_cons_zero]
  rw [if_pos (by decide)]
  simp only [obs, s_ret', e_call, e_gen, es_cons, es_nil, e_v, List.getElem?_cons_succ, List.getElem?_cons_zero]
  rw [show src .seq [.p (intsT cs)] [] = some ⟨cs.map fun (c : Nat) => P.int c, [], true⟩ from rfl]
  simp only [obs, ge_tup]
  rw [gt]
  simp only [obs]
  rw [if_pos hl, te]
  simp [-Option.bind_some]
  rw [sn]
  rfl
theorem joined_c {L : Nat} (hL : 2 ^ 9000 < L) (k : Nat) (A : List (List Ask)) (a : Nat) (r : List Nat) (h : Fit A ((a :: r).map (unitR (maxN a r + 1))) (maxN a r + 1)) (M : Mem) : callX (W L (k + 6)) 12 [.p (asksP A), .p (intsT (a :: r))] M = some (.p (asksP (worseA A ((a :: r).map (unitR (maxN a r + 1))) (maxN a r + 1))), M) := callX_p 12 [asksP A, intsT (a :: r)] _ (joined_ok hL k A a r h)
end K16
end

section
set_option linter.all false
set_option autoImplicit false
set_option maxRecDepth 10000
namespace K16
open PySem IX
def PoolOk (zs : List Int) : Prop := ∃ (a b c : Int) (rest : List Int), zs = a :: b :: c :: rest ∧ 0 ≤ a ∧ 0 ≤ b ∧ b < 2147483648 ∧ 0 ≤ c
theorem small_nat {a : Int} (h : -(2 ^ 62) ≤ a) (h2 : a < 2 ^ 62) : a.natAbs < 2 ^ 4000 := by
  have : a.natAbs < 2 ^ 63 := by
    have e : (2 : Nat) ^ 63 = 9223372036854775808 := by decide
    have e2 : (2 : Int) ^ 62 = 4611686018427387904 := by decide
    omega
  exact Nat.lt_of_lt_of_le this (Nat.pow_le_pow_right (by decide) (by decide))
theorem mulOk_small {a b : Int} (h : 0 ≤ a) (h2 : a < 2147483648) (h3 : 0 ≤ b) (h4 : b < 2147483648) : mulOk a b = true := by
  have e2 : (2 : Int) ^ 62 = 4611686018427387904 := by decide
  exact mulOk_of (small_nat (by omega) (by omega)) (small_nat (by omega) (by omega))
theorem pw18 (M : Mem) : binop .pow (.p (.int 10)) (.p (.int 18)) M = some (.p (.int (10 ^ 18)), M) := by rfl
section
variable {a b c : Int} {rest : List Int}
theorem gx0 : index (.l 0) (.p (.int 0)) [(a :: b :: c :: rest).map .int] = some (.int a) := idx_items (k := 0) rfl rfl
theorem gx1 : index (.l 0) (.p (.int 1)) [(a :: b :: c :: rest).map .int] = some (.int b) := idx_items (k := 1) rfl rfl
theorem gx2 : index (.l 0) (.p (.int 2)) [(a :: b :: c :: rest).map .int] = some (.int c) := idx_items (k := 2) rfl rfl
theorem sx0 (x : Int) : seti ((a :: b :: c :: rest).map .int) 0 (.int x) = some ((x :: b :: c :: rest).map .int) := seti_nat (k := 0) (by simp)
theorem sx1 (x : Int) : seti ((a :: b :: c :: rest).map .int) 1 (.int x) = some ((a :: x :: c :: rest).map .int) := seti_nat (k := 1) (by simp)
theorem sx2 (x : Int) : seti ((a :: b :: c :: rest).map .int) 2 (.int x) = some ((a :: b :: x :: rest).map .int) := seti_nat (k := 2) (by simp)
end
abbrev dS1 : S := .ife (.and [(.cmp .eq (.idx (.v 0) (.c (.int 0))) (.c (.int 0))), (.cmp .lt (.idx (.v 0) (.c (.int 2))) (.bi .len [(.v 0)]))])
      [.set (.nm 2) (.idx (.v 0) (.idx (.v 0) (.c (.int 2)))),
       .seti (.v 0) (.c (.int 2)) (.bin .add (.idx (.v 0) (.c (.int 2))) (.c (.int 1))),
       .seti (.v 0) (.c (.int 1)) (.bin .mod (.bi .int [(.bin .add (.bin .mul (.idx (.v 0) (.c (.int 1))) (.c (.int 31))) (.v 2))]) (.c (.int 2147483647))),
       .ife (.cmp .ge (.bi .abs [(.v 2)]) (.bin .pow (.c (.int 10)) (.c (.int 18))))
          [.seti (.v 0) (.c (.int 0)) (.bi .abs [(.v 2)])]
          []]
      []
theorem draw1 {V : Wd} {N m : Nat} {zs : List Int} (h : PoolOk zs) : ∃ zs' o, evS V G N dS1 [some (.l 0), some (.p (.int m)), none, none, none] [zs.map .int] = some (.nx [some (.l 0), some (.p (.int m)), o, none, none] [zs'.map .int]) ∧ PoolOk zs' := by
  obtain ⟨a, b, c, rest, rfl, ha, hb, hb2, hc⟩ := h
  have ln : bfun .len [.l 0] [(a :: b :: c :: rest).map .int] = some (.p (.int (a :: b :: c :: rest).length), [(a :: b :: c :: rest).map .int]) := by
    rw [bf_len, it_l']
    simp
  by_cases h0 : a = 0
  · by_cases hlt : c < (a :: b :: c :: rest).length
    · obtain ⟨c', rfl⟩ := Int.eq_ofNat_of_zero_le hc
      have hl : c' < (a :: b :: (c' : Int) :: rest).length := by omega
      generalize hx : (a :: b :: (c' : Int) :: rest)[c'] = x
      have gc : index (.l 0) (.p (.int (c' : Int))) [(a :: b :: (c' : Int) :: rest).map .int] = some (.int x) := idx_items rfl (by rw [List.getElem?_map, List.getElem?_eq_getElem hl, hx]; rfl)
      have mo := mulOk_small hb hb2 (b := 31) (by decide) (by decide)
      have f1 := Int.fmod_nonneg_of_pos (b * 31 + x) (b := 2147483647) (by decide)
      have f2 := Int.fmod_lt_of_pos (b * 31 + x) (b := 2147483647) (by decide)
      have tt : evT V G (.and [(.cmp .eq (.idx (.v 0) (.c (.int 0))) (.c (.int 0))), (.cmp .lt (.idx (.v 0) (.c (.int 2))) (.bi .len [(.v 0)]))]) [some (.l 0), some (.p (.int m)), none, none, none] [(a :: b :: (c' : Int) :: rest).map .int] = some (true, [(a :: b :: (c' : Int) :: rest).map .int]) := by
        simp only [t_and', ta2, ta1, t_cmp', e_idx, e_v, e_c, List.getElem?_cons_zero, obs, gx0, gx2, e_bi, es_cons, es_nil, ln, c_eq, c_lt]
        rw [show (a == 0) = true from by rw [h0]; rfl, if_pos rfl, decide_eq_true hlt]
      rw [s_ife', tt]
      simp only [obs, if_true]
      clear tt ln
      by_cases hx18 : (1000000000000000000 : Int) ≤ (if x < 0 then -x else x)
      · refine ⟨(if x < 0 then -x else x) :: (b * 31 + x).fmod 2147483647 :: (c' + 1) :: rest, some (.p (.int x)), ?_, _, _, _, _, rfl, by split <;> omega, f1, by omega, by omega⟩
        simp [-Option.bind_some, -List.map_cons, gx0, gx1, gx2, gc, sx0, sx1, sx2, mo, pw18, hx18]
      · refine ⟨a :: (b * 31 + x).fmod 2147483647 :: (c' + 1) :: rest, some (.p (.int x)), ?_, _, _, _, _, rfl, ha, f1, by omega, by omega⟩
        simp [-Option.bind_some, -List.map_cons, gx0, gx1, gx2, gc, sx0, sx1, sx2, mo, pw18, hx18]
    · refine ⟨a :: b :: c :: rest, none, ?_, _, _, _, _, rfl, ha, hb, hb2, hc⟩
      have hlt' : ¬ (c < (rest.length : Int) + 1 + 1 + 1) := by simpa using hlt
      simp [-Option.bind_some, -List.map_cons, gx0, gx2, h0, hlt']
  · refine ⟨a :: b :: c :: rest, none, ?_, _, _, _, _, rfl, ha, hb, hb2, hc⟩
    simp [-Option.bind_some, -List.map_cons, gx0, gx2, h0]
abbrev dS2 : List S := [.ife (.cmp .gt (.idx (.v 0) (.c (.int 0))) (.c (.int 0)))
      [.set (.nm 3) (.bin .mod (.bi .int [(.idx (.v 0) (.c (.int 0)))]) (.v 1)),
       .seti (.v 0) (.c (.int 0)) (.bin .fdiv (.idx (.v 0) (.c (.int 0))) (.v 1)),
       .ret (.v 3)]
      [],
   .seti (.v 0) (.c (.int 1)) (.bin .mod (.bi .int [(.bin .add (.bin .mul (.idx (.v 0) (.c (.int 1))) (.c (.int 48271))) (.c (.int 12345)))]) (.c (.int 2147483647))),
   .set (.nm 4) (.bin .mod (.bi .int [(.bin .add (.bin .add (.bin .mul (.idx (.v 0) (.c (.int 1))) (.c (.int 69621))) (.bin .fdiv (.idx (.v 0) (.c (.int 1))) (.c (.int 65536)))) (.c (.int 17)))]) (.c (.int 2147483629))),
   .ret (.bin .mod (.bi .int [(.bin .fdiv (.v 4) (.c (.int 16)))]) (.v 1))]
theorem fm_nat (x : Int) {m : Nat} (h : 0 < m) : ∃ d : Nat, x.fmod (m : Int) = d ∧ d < m := by
  have f1 := Int.fmod_nonneg_of_pos x (b := m) (by omega)
  have f2 := Int.fmod_lt_of_pos x (b := m) (by omega)
  exact ⟨(x.fmod m).toNat, by omega, by omega⟩
theorem fd_nn {x : Int} {m : Nat} (h : 0 ≤ x) : 0 ≤ x.fdiv (m : Int) := by
  rw [Int.fdiv_eq_ediv_of_nonneg _ (by omega)]
  exact Int.ediv_nonneg h (by omega)
theorem divOk_lit {b : Nat} (h : 0 < b) (h2 : b < 2 ^ 62) : divOk (b : Int) = true := divOk_of h (Nat.lt_of_lt_of_le h2 (Nat.pow_le_pow_right (by decide) (by decide)))
theorem draw2 {V : Wd} {N m : Nat} {zs : List Int} {o : Option D} (h : PoolOk zs) (hm : 0 < m) (hm2 : m < 2 ^ 62) : ∃ (zs' : List Int) (d : Nat), evSs V G N dS2 [some (.l 0), some (.p (.int m)), o, none, none] [zs.map .int] = some (.rt (.p (.int d)) [zs'.map .int]) ∧ PoolOk zs' ∧ d < m := by
  obtain ⟨a, b, c, rest, rfl, ha, hb, hb2, hc⟩ := h
  have hmne : (m : Int) ≠ 0 := by omega
  have hm0 : ¬ m = 0 := by omega
  have dm : divOk (m : Int) = true := divOk_lit hm hm2
  by_cases h0 : 0 < a
  · obtain ⟨d, e, hd⟩ := fm_nat a hm
    refine ⟨a.fdiv m :: b :: c :: rest, d, ?_, ⟨_, _, _, _, rfl, fd_nn ha, hb, hb2, hc⟩, hd⟩
    simp [-Option.bind_some, -List.map_cons, gx0, h0, e, hm0, dm, sx0]
  · have mo := mulOk_small hb hb2 (b := 48271) (by decide) (by decide)
    have f1 := Int.fmod_nonneg_of_pos (b * 48271 + 12345) (b := 2147483647) (by decide)
    have f2 := Int.fmod_lt_of_pos (b * 48271 + 12345) (b := 2147483647) (by decide)
    generalize hx : (b * 48271 + 12345).fmod 2147483647 = x at f1 f2
    have mo2 := mulOk_small f1 (by omega) (b := 69621) (by decide) (by decide)
    generalize hy : (x * 69621 + x.fdiv 65536 + 17).fmod 2147483629 = y
    obtain ⟨d, e, hd⟩ := fm_nat (y.fdiv 16) hm
    have d1 : divOk 65536 = true := divOk_lit (b := 65536) (by decide) (by decide)
    have d2 : divOk 16 = true := divOk_lit (b := 16) (by decide) (by decide)
    refine ⟨a :: x :: c :: rest, d, ?_, ⟨_, _, _, _, rfl, ha, f1, by omega, hc⟩, hd⟩
    simp [-Option.bind_some, -List.map_cons, gx0, gx1, sx1, h0, e, hm0, dm, mo, mo2, hx, hy, d1, d2]
theorem draw_ok {L : Nat} (k : Nat) {m : Nat} {zs : List Int} (h : PoolOk zs) (hm : 0 < m) (hm2 : m < 2 ^ 62) : ∃ (zs' : List Int) (d : Nat), W L (k + 1) 14 [.l 0, .p (.int m)] [zs.map .int] = some (.p (.int d), [zs'.map .int]) ∧ PoolOk zs' ∧ d < m := by
  obtain ⟨z1, o, e1, h1⟩ := draw1 (V := W L k) (N := L) (m := m) h
  obtain ⟨z2, d, e2, h2, hd⟩ := draw2 (V := W L k) (N := L) (o := o) h1 hm hm2
  refine ⟨z2, d, ?_, h2, hd⟩
  have s := evF_step (G := G) (N := L) (M := [zs.map .int]) tab k 14 [.l 0, .p (.int m)] F__law_draw rfl rfl
  refine s.trans ?_
  show (evSs (W L k) G L (dS1 :: dS2) [some (.l 0), some (.p (.int m)), none, none, none] [zs.map .int]).bind fin = _
  rw [ss_cons', e1]
  simp only [obs]
  rw [e2]
  rfl
end K16
end

section
set_option linter.all false
set_option autoImplicit false
set_option maxRecDepth 10000
namespace K16
open PySem IX
/-- list 0 is a pool -/
def IP (M : Mem) : Prop := ∃ zs : List Int, M[0]? = some (zs.map .int) ∧ PoolOk zs
def Up (M M' : Mem) : Prop := IP M' ∧ M.length ≤ M'.length ∧ ∀ i, 0 < i → i < M.length → M'[i]? = M[i]?
theorem Up.refl {M : Mem} (h : IP M) : Up M M := ⟨h, Nat.le_refl _, fun _ _ _ => rfl⟩
theorem Up.trans {A B C : Mem} (h : Up A B) (h' : Up B C) : Up A C := ⟨h'.1, Nat.le_trans h.2.1 h'.2.1, fun i h0 hi => by rw [h'.2.2 i h0 (Nat.lt_of_lt_of_le hi h.2.1), h.2.2 i h0 hi]⟩
theorem Up.get {A B : Mem} (h : Up A B) {i : Nat} {xs : List P} (h0 : 0 < i) (hi : A[i]? = some xs) : B[i]? = some xs := by
  rw [h.2.2 i h0 (List.getElem?_eq_some_iff.mp hi).1, hi]
theorem IP.pos {M : Mem} (h : IP M) : 0 < M.length := by
  obtain ⟨zs, h, _⟩ := h
  exact (List.getElem?_eq_some_iff.mp h).1
theorem IP.app {M X : Mem} (h : IP M) : IP (M ++ X) := by
  obtain ⟨zs, h, hp⟩ := h
  exact ⟨zs, get_app h, hp⟩
theorem Up.app {M X : Mem} (h : IP M) : Up M (M ++ X) := ⟨h.app, by simp, fun i _ hi => List.getElem?_append_left hi⟩
theorem IP.one {zs : List Int} (h : PoolOk zs) : IP [zs.map .int] := ⟨zs, rfl, h⟩
def Draws (V : Wd) (f : Nat) (ps : List P) (R : P → Prop) : Prop := ∀ zs : List Int, PoolOk zs → ∃ x Mc, V f (.l 0 :: ps.map .p) [zs.map .int] = some (.p x, Mc) ∧ IP Mc ∧ R x
theorem callX_pool {V : Wd} {f : Nat} {ps : List P} {R : P → Prop} {M : Mem} (h : IP M) (hd : Draws V f ps R) : ∃ x M', callX V f (.l 0 :: ps.map .p) M = some (.p x, M') ∧ Up M M' ∧ R x := by
  obtain ⟨zs, h0, hp⟩ := h
  obtain ⟨x, Mc, e, ⟨zc, hc, hpc⟩, r⟩ := hd zs hp
  have hlen := (List.getElem?_eq_some_iff.mp h0).1
  have hcI : ∀ (ps : List P) (n : Nat), callIn (ps.map D.p) n = (ps.map D.p, []) := by
    intro ps
    induction ps with
    | nil => intro n; rfl
    | cons p ps ih =>
      intro n
      show (let q := callIn (ps.map D.p) n; (D.p p :: q.1, q.2)) = _
      rw [ih]; rfl
  refine ⟨x, M.set 0 (zc.map .int), ?_, ⟨⟨zc, set_get h0, hpc⟩, by simp, fun i hi _ => List.getElem?_set_ne (by omega)⟩, r⟩
  cases Mc with
  | nil => simp at hc
  | cons c0 Mc =>
    have hc0 : c0 = zc.map .int := by simpa using hc
    subst hc0
    unfold callX
    rw [show callIn (.l 0 :: ps.map D.p) 0 = (.l 0 :: ps.map D.p, [0]) from by
      show (let q := callIn (ps.map D.p) 1; (D.l 0 :: q.1, 0 :: q.2)) = _
      rw [hcI]]
    simp [-Option.bind_some, h0, e, callOut, putAll]
theorem draws_draw {L : Nat} (k m : Nat) (hm : 0 < m) (hm2 : m < 2 ^ 62) : Draws (W L (k + 1)) 14 [.int m] (fun x => ∃ d : Nat, x = .int d ∧ d < m) := by
  intro zs h
  obtain ⟨z, d, e, h', hd⟩ := draw_ok (L := L) k h hm hm2
  exact ⟨_, _, e, IP.one h', d, rfl, hd⟩
theorem lcs_inv {A : Type} (g : A → P) (Q : A → Prop) {V : Wd} {G : Str → Option P} {ρ : IX.Env} {M0 : Mem} {vs : List Nat} {elt : E} {t : T} {ifs : List E} {s : Src} (ho : ∀ M, s.ok M = true) : ∀ (xs : List P) (M : Mem), Up M0 M → (∀ x ∈ xs, ∀ M, Up M0 M → ∃ a M', lcx V G vs elt t ifs ρ x M = some ([g a], M') ∧ Up M M' ∧ Q a) →
    ∃ (as : List A) (M' : Mem), lcs V G vs elt t ifs s xs ρ M = some (as.map g, M') ∧ Up M M' ∧ as.length = xs.length ∧ ∀ a ∈ as, Q a
  | [], M, hM, _ => ⟨[], M, rfl, Up.refl hM.1, rfl, by simp⟩
  | x :: xs, M, hM, h => by
    obtain ⟨a, M1, e1, u1, q1⟩ := h x List.mem_cons_self M hM
    obtain ⟨as, M2, e2, u2, l2, q2⟩ := lcs_inv g Q ho xs M1 (hM.trans u1) fun y hy => h y (List.mem_cons_of_mem _ hy)
    refine ⟨a :: as, M2, ?_, u1.trans u2, by simp [l2], ?_⟩
    · rw [lcs_cons, e1]
      simp only [obs, ho, if_true]
      rw [e2]
      rfl
    · intro b hb
      rcases List.mem_cons.mp hb with rfl | hb
      · exact q1
      · exact q2 b hb
def smallQ : List Rat := [0, 0, 1, -1, mkRat 1 2, mkRat (-1) 2, 2, mkRat 1 3, mkRat (-2) 3, 3]
def smallPs : List P := [(.tup [.int 0, .int 1]), (.tup [.int 0, .int 1]), (.tup [.int 1, .int 1]), (.tup [.int (-1), .int 1]), (.tup [.int 1, .int 2]), (.tup [.int (-1), .int 2]), (.tup [.int 2, .int 1]), (.tup [.int 1, .int 3]), (.tup [.int (-2), .int 3]), (.tup [.int 3, .int 1])]
theorem smallP : smallPs = smallQ.map fr := by rfl
theorem smallB : AllB 2 smallQ := by
  intro q hq
  have : ∀ q ∈ smallQ, (decide (q.num.natAbs < 2 ^ 2) && decide (q.den < 2 ^ 2)) = true := by decide
  have := this q hq
  rw [Bool.and_eq_true, decide_eq_true_eq, decide_eq_true_eq] at this
  exact this
def slackQ : List Rat := [0, 0, 1, mkRat 1 2, 3]
def slackPs : List P := [(.tup [.int 0, .int 1]), (.tup [.int 0, .int 1]), (.tup [.int 1, .int 1]), (.tup [.int 1, .int 2]), (.tup [.int 3, .int 1])]
theorem slackP : slackPs = slackQ.map fr := by rfl
theorem slackB : AllB 2 slackQ := by
  intro q hq
  have : ∀ q ∈ slackQ, (decide (q.num.natAbs < 2 ^ 2) && decide (q.den < 2 ^ 2)) = true := by decide
  have := this q hq
  rw [Bool.and_eq_true, decide_eq_true_eq, decide_eq_true_eq] at this
  exact this
theorem small_d {L : Nat} (k : Nat) : Draws (W L (k + 2)) 22 [] (fun x => ∃ q, x = fr q ∧ Bd 2 q) := by
  intro zs h
  have nl := newl_ok (xs := smallPs) (M := [zs.map .int]) (by decide)
  obtain ⟨x, M', e, u, d, rfl, hd⟩ := callX_pool (M := [zs.map .int] ++ [smallPs]) (IP.one h).app (draws_draw (L := L) k 10 (by decide) (by decide))
  have g1 : M'[1]? = some smallPs := u.get (by decide) rfl
  have hl : d < smallQ.length := hd
  have ix : index (.l 1) (.p (.int d)) M' = some (fr smallQ[d]) := idx_items (by rw [it_l', g1]) (by rw [smallP, List.getElem?_map, List.getElem?_eq_getElem hl]; rfl)
  refine ⟨fr smallQ[d], M', ?_, u.1, _, rfl, smallB _ (List.getElem_mem hl)⟩
  have s := evF_step (G := G) (N := L) (M := [zs.map .int]) tab (k + 1) 22 [.l 0] F__law_small rfl rfl
  refine s.trans ?_
  unfold W at e
  simp only [smallPs] at nl e
  simp only [F__law_small, entry]
  simp [-Option.bind_some, nl, s2]
  simp at e
  rw [e]
  simp [-Option.bind_some, ix]
theorem slack_d {L : Nat} (k : Nat) : Draws (W L (k + 2)) 23 [] (fun x => ∃ q, x = fr q ∧ Bd 2 q) := by
  intro zs h
  have nl := newl_ok (xs := slackPs) (M := [zs.map .int]) (by decide)
  obtain ⟨x, M', e, u, d, rfl, hd⟩ := callX_pool (M := [zs.map .int] ++ [slackPs]) (IP.one h).app (draws_draw (L := L) k 5 (by decide) (by decide))
  have g1 : M'[1]? = some slackPs := u.get (by decide) rfl
  have hl : d < slackQ.length := hd
  have ix : index (.l 1) (.p (.int d)) M' = some (fr slackQ[d]) := idx_items (by rw [it_l', g1]) (by rw [slackP, List.getElem?_map, List.getElem?_eq_getElem hl]; rfl)
  refine ⟨fr slackQ[d], M', ?_, u.1, _, rfl, slackB _ (List.getElem_mem hl)⟩
  have s := evF_step (G := G) (N := L) (M := [zs.map .int]) tab (k + 1) 23 [.l 0] F__law_slack rfl rfl
  refine s.trans ?_
  unfold W at e
  simp only [slackPs] at nl e
  simp only [F__law_slack, entry]
  simp [-Option.bind_some, nl, s2]
  simp at e
  rw [e]
  simp [-Option.bind_some, ix]
theorem row_d {L : Nat} (k n : Nat) (hn : n ≤ 4000) : Draws (W L (k + 3)) 24 [.int n] (fun x => ∃ l, x = row l ∧ l.length = n ∧ AllB 2 l) := by
  intro zs h
  have sr := src_rng (n := n) (M := [zs.map .int]) (by omega)
  obtain ⟨as, M', e, u, hl, hq⟩ := lcs_inv (V := W L (k + 2)) (G := G) (M0 := [zs.map .int]) (vs := [2]) (elt := .call 22 [(.v 0)] [0]) (t := .nm 2) (ifs := []) (ρ := [some (.l 0), some (.p (.int n)), none]) (s := ⟨rangeP 0 n, [], true⟩) fr (Bd 2) (fun _ => rfl) (rangeP 0 n) [zs.map .int] (Up.refl (IP.one h)) (by
    intro x hx M hM
    obtain ⟨_, M', e, u, q, rfl, hq⟩ := callX_pool hM.1 (small_d (L := L) k)
    refine ⟨q, M', ?_, u, hq⟩
    simp at e
    simp [-Option.bind_some, lcx, wipeE, e])
  have hl' : as.length = n := by rw [hl]; simp [rangeP]
  have nl := newl_ok (xs := as.map fr) (M := M') (by rw [List.length_map]; omega)
  refine ⟨row as, M' ++ [as.map fr], ?_, u.1.app, as, rfl, hl', hq⟩
  have s := evF_step (G := G) (N := L) (M := [zs.map .int]) tab (k + 2) 24 [.l 0, .p (.int n)] F__law_row rfl rfl
  refine s.trans ?_
  simp only [F__law_row, entry]
  unfold W at e
  simp [-Option.bind_some, sr, e, nl, row]
end K16
end

section
set_option linter.all false
set_option autoImplicit false
set_option maxRecDepth 10000
namespace K16
open PySem IX
theorem rsum_bd {a : Nat} : ∀ (l : List Rat) (w : Rat) (m : Nat), AllB a l → Bd m w → Bd (m + (a + 1) * l.length) (rsum l w)
  | [], w, m, _, h => by simpa [rsum] using h
  | q :: r, w, m, hA, h => by
    have := rsum_bd r (w + q) (m + a + 1) (fun x hx => hA x (List.mem_cons_of_mem _ hx)) (h.add (hA q List.mem_cons_self))
    rw [List.length_cons, Nat.mul_succ, show m + ((a + 1) * r.length + (a + 1)) = m + a + 1 + (a + 1) * r.length from by omega]
    exact this
theorem dot_bd {a : Nat} {l r : List Rat} (h1 : AllB a l) (h2 : AllB a r) (hl : l.length = r.length) : Bd (1 + (2 * a + 1) * l.length) (dot l r) := by
  have := rsum_bd (prods l r) 0 1 (by have := prods_bd h1 h2; rwa [← Nat.two_mul] at this) bd0
  rw [rsum_eq, Rat.zero_add, prods_len _ _ hl] at this
  exact this
theorem AllB.mono {a b : Nat} {l : List Rat} (h : AllB a l) (hb : a ≤ b) : AllB b l := fun q hq => (h q hq).mono hb
/-- a list at place i grows -/
theorem Up.set {M : Mem} {i : Nat} {xs : List P} (h : IP M) (hi : 0 < i) : IP (M.set i xs) := by
  obtain ⟨zs, h0, hp⟩ := h
  exact ⟨zs, by rw [List.getElem?_set_ne (by omega), h0], hp⟩
abbrev askE : List E := [(.tup [(.v 5), (.call 18 [(.call 21 [(.v 5), (.v 1)] [0, 1]), (.call 23 [(.v 0)] [0])] [0, 1])])]
theorem pairs_loop {L : Nat} (hL : 2 ^ 9000 < L) (k : Nat) (ps : List Rat) (hp : AllB 3 ps) (hl : ps.length ≤ 20) {s : Src} (ho : ∀ M, s.ok M = true) {e2 : Option D} : ∀ (xs : List P) (cs : List Ask) (M : Mem) (p4 p5 : Option D), IP M → M[1]? = some (cs.map pairP) → cs.length + xs.length ≤ 4000 → (∀ c ∈ cs, c.1.length = ps.length ∧ AllB 3 c.1) →
    ∃ (cs' : List Ask) (M' : Mem) (o4 o5 : Option D), lop (W L (k + 4)) G L (.nm 4) [.set (.nm 5) (.call 24 [(.v 0), (.bi .len [(.v 1)])] [0, 1]), .ex (.mt .append (.v 3) askE)] s xs [some (.l 0), some (.p (row ps)), e2, some (.l 1), p4, p5] M = some (.nx [some (.l 0), some (.p (row ps)), e2, some (.l 1), o4, o5] M') ∧
      IP M' ∧ M'[1]? = some (cs'.map pairP) ∧ cs'.length = cs.length + xs.length ∧ (∀ c ∈ cs', c.1.length = ps.length ∧ AllB 3 c.1) := by
  intro xs
  induction xs with
  | nil => intro cs M p4 p5 hI h1 _ hc; exact ⟨cs, M, p4, p5, rfl, hI, h1, rfl, hc⟩
  | cons x xs ih =>
    intro cs M p4 p5 hI h1 hlen hc
    rw [List.length_cons] at hlen
    obtain ⟨_, M1, e1, u1, c, rfl, hcl, hcA⟩ := callX_pool hI (row_d (L := L) (k + 1) ps.length (by omega))
    obtain ⟨_, M2, e2', u2, q, rfl, hq⟩ := callX_pool u1.1 (slack_d (L := L) (k + 2))
    have hcA3 := hcA.mono (b := 3) (by decide)
    have d := dot_p hL k 3 c ps hcl hcA3 hp (by omega) (by omega) M1
    have db := dot_bd hcA3 hp hcl
    have mi : callX (W L (k + 4)) 18 [.p (fr (dot c ps)), .p (fr q)] M2 = some (.p (fr (dot c ps - q)), M2) := callX_p 18 [fr (dot c ps), fr q] _ (minus_ok hL (k + 2) db hq (by omega) (by omega))
    have g2 : M2[1]? = some (cs.map pairP) := u2.get (by decide) (u1.get (by decide) h1)
    have ap := app_ok (xs := cs.map pairP) (x := pairP (c, dot c ps - q)) (by rw [List.length_map]; omega)
    obtain ⟨cs', M', o4, o5, e, r1, r2, r3, r4⟩ := ih (cs ++ [(c, dot c ps - q)]) (M2.set 1 (cs.map pairP ++ [pairP (c, dot c ps - q)])) (some (.p x)) (some (.p (row c))) (Up.set u2.1 (by decide)) (by rw [set_get g2]; simp) (by simp; omega) (by
      intro y hy
      rcases List.mem_append.mp hy with hy | hy
      · exact hc y hy
      · rw [List.mem_singleton.mp hy]; exact ⟨hcl, hcA3⟩)
    refine ⟨cs', M', o4, o5, ?_, r1, r2, by rw [r3]; simp; omega, r4⟩
    simp only [List.map_cons, List.map_nil] at e1 e2'
    have ln : ∀ M, bfun .len [.p (row ps)] M = some (.p (.int ps.length), M) := by
      intro M
      rw [bf_len, row, it_tup']
      simp
    rw [lop_cons]
    simp [-Option.bind_some, ln]
    rw [e1]
    simp only [pairP] at ap e
    simp [-Option.bind_some, d, e2', mi, s2, g2, ap, ho]
    exact e
theorem pairs_d {L : Nat} (hL : 2 ^ 9000 < L) (k m : Nat) (ps : List Rat) (hp : AllB 3 ps) (hl : ps.length ≤ 20) (hm : m ≤ 100) : Draws (W L (k + 5)) 25 [row ps, .int m] (fun x => ∃ cs : List Ask, x = pairsP cs ∧ cs.length = m ∧ ∀ c ∈ cs, c.1.length = ps.length ∧ AllB 3 c.1) := by
  intro zs h
  have sr := src_rng (n := m) (M := [zs.map .int, []]) (by omega)
  have nl := newl_ok (xs := []) (M := [zs.map .int]) (by simp)
  obtain ⟨cs, M', o4, o5, e, r1, r2, r3, r4⟩ := pairs_loop hL k ps hp hl (s := ⟨rangeP 0 m, [], true⟩) (fun _ => rfl) (e2 := some (.p (.int m))) (rangeP 0 m) [] [zs.map .int, []] none none (IP.app (IP.one h)) rfl (by simp [rangeP]; omega) (by simp)
  refine ⟨pairsP cs, M', ?_, r1, cs, rfl, by rw [r3]; simp [rangeP], r4⟩
  have s := evF_step (G := G) (N := L) (M := [zs.map .int]) tab (k + 4) 25 [.l 0, .p (row ps), .p (.int m)] F__law_pairs rfl rfl
  refine s.trans ?_
  simp only [F__law_pairs, entry]
  simp only [askE] at e
  unfold W at e
  simp [-Option.bind_some, nl, sr]
  rw [e]
  simp [-Option.bind_some, r2, pairsP]
end K16
end

section
set_option linter.all false
set_option autoImplicit false
set_option maxRecDepth 10000
namespace K16
open PySem IX
def natP (c : Nat) : P := .int (c : Int)
theorem shares_loop {L : Nat} (k many : Nat) (h0 : 0 < many) (hm : many ≤ 20) {j : Nat} (hj : 0 < j) {s : Src} (ho : ∀ M, s.ok M = true) {e2 e6 : Option D} : ∀ (xs : List P) (ps : List Nat) (t : Nat) (M : Mem) (p4 p5 : Option D), IP M → M[j]? = some (ps.map natP) → ps.length = many → (∀ p ∈ ps, p ≤ t) →
    ∃ (ps' : List Nat) (M' : Mem) (o4 o5 : Option D), lop (W L (k + 1)) G L (.nm 4) [.set (.nm 5) (.call 14 [(.v 0), (.v 1)] [0, 1]), .seti (.v 3) (.v 5) (.bin .add (.idx (.v 3) (.v 5)) (.c (.int 1)))] s xs [some (.l 0), some (.p (.int many)), e2, some (.l j), p4, p5, e6] M = some (.nx [some (.l 0), some (.p (.int many)), e2, some (.l j), o4, o5, e6] M') ∧
      IP M' ∧ M'[j]? = some (ps'.map natP) ∧ ps'.length = many ∧ (∀ p ∈ ps', p ≤ t + xs.length) := by
  intro xs
  induction xs with
  | nil => intro ps t M p4 p5 hI h1 hl hb; exact ⟨ps, M, p4, p5, rfl, hI, h1, hl, hb⟩
  | cons x xs ih =>
    intro ps t M p4 p5 hI h1 hl hb
    obtain ⟨_, M1, e1, u1, d, rfl, hd⟩ := callX_pool hI (draws_draw (L := L) k many h0 (by omega))
    have g1 : M1[j]? = some (ps.map natP) := u1.get hj h1
    have hdl : d < ps.length := by omega
    have ix : index (.l j) (.p (.int d)) M1 = some (.int (ps[d] : Nat)) := idx_items (by rw [it_l', g1]) (by rw [List.getElem?_map, List.getElem?_eq_getElem hdl]; rfl)
    have se : seti (ps.map natP) (d : Int) (.int ((ps[d] : Nat) + 1)) = some ((ps.set d (ps[d] + 1)).map natP) := by
      rw [seti_nat (by simpa using hdl), List.map_set]; rfl
    obtain ⟨ps', M', o4, o5, e, r1, r2, r3, r4⟩ := ih (ps.set d (ps[d] + 1)) (t + 1) (M1.set j ((ps.set d (ps[d] + 1)).map natP)) (some (.p x)) (some (.p (.int d))) (Up.set u1.1 hj) (set_get g1) (by simpa using hl) (by
      intro p hp
      rcases List.mem_or_eq_of_mem_set hp with hp | rfl
      · have := hb p hp; omega
      · have := hb ps[d] (List.getElem_mem hdl); omega)
    refine ⟨ps', M', o4, o5, ?_, r1, r2, r3, fun p hp => by have := r4 p hp; rw [List.length_cons]; omega⟩
    simp only [List.map_cons, List.map_nil] at e1
    rw [lop_cons]
    simp [-Option.bind_some, -List.map_set]
    rw [e1]
    simp [-Option.bind_some, -List.map_set, ix, g1, se, ho]
    exact e
def wholeN : List Nat := [1, 2, 3, 4, 6]
theorem shares_d {L : Nat} (hL : 2 ^ 9000 < L) (k many : Nat) (h0 : 0 < many) (hm : many ≤ 20) : Draws (W L (k + 2)) 26 [.int many] (fun x => ∃ l, x = row l ∧ l.length = many ∧ AllB 3 l) := by
  intro zs h
  have nl := newl_ok (xs := [.int 1, .int 2, .int 3, .int 4, .int 6]) (M := [zs.map .int]) (by decide)
  obtain ⟨_, M1, e1, u1, d, rfl, hd⟩ := callX_pool (M := [zs.map .int] ++ [[.int 1, .int 2, .int 3, .int 4, .int 6]]) (IP.one h).app (draws_draw (L := L) k 5 (by decide) (by decide))
  have hdl : d < wholeN.length := hd
  have g1 : M1[1]? = some (wholeN.map natP) := u1.get (by decide) rfl
  have ix : index (.l 1) (.p (.int d)) M1 = some (.int (wholeN[d] : Nat)) := idx_items (by rw [it_l', g1]) (by rw [List.getElem?_map, List.getElem?_eq_getElem hdl]; rfl)
  have hw : 0 < wholeN[d] ∧ wholeN[d] < 7 := by
    have : ∀ w ∈ wholeN, 0 < w ∧ w < 7 := by decide
    exact this _ (List.getElem_mem hdl)
  have p1 := u1.1.pos
  have sz : sizeLine = 16777216 := szl
  have nl1 := newl_ok (xs := [.int 0]) (M := M1) (by decide)
  have ml := mul_list (M := M1 ++ [[.int 0]]) (n := many) (i := M1.length) (by simp) (by omega)
  generalize hM2 : M1 ++ [[P.int 0]] ++ [(List.replicate many (0 : Int)).map .int] = M2 at ml
  generalize hj : (M1 ++ [[P.int 0]]).length = j at ml
  have j0 : 0 < j := by rw [← hj]; simp
  have i2 : IP M2 := by rw [← hM2, List.append_assoc]; exact u1.1.app
  have g2 : M2[j]? = some ((List.replicate many 0).map natP) := by
    rw [← hM2, ← hj, List.getElem?_append_right (Nat.le_refl _), Nat.sub_self]
    simp [natP]
  have sr := src_rng (n := wholeN[d]) (M := M2) (by omega)
  obtain ⟨ps, M3, o4, o5, e3, i3, g3, hl3, hb3⟩ := shares_loop (L := L) k many h0 hm j0 (s := ⟨rangeP 0 wholeN[d], [], true⟩) (fun _ => rfl) (e2 := some (.p (.int (wholeN[d] : Nat)))) (e6 := none) (rangeP 0 wholeN[d]) (List.replicate many 0) 0 M2 none none i2 g2 (by simp) (by intro p hp; simp at hp; omega)
  have hb3' : ∀ p ∈ ps, p < 7 := by
    intro p hp
    have := hb3 p hp
    have e : (rangeP 0 wholeN[d]).length = wholeN[d] := by simp [rangeP]
    omega
  have el := lcs_of (V := W L (k + 1)) (G := G) (M := M3) (vs := [6]) (elt := .call 16 [(.v 6), (.v 2)] [0, 1]) (t := .nm 6) (ifs := []) (ρ := [some (.l 0), some (.p (.int many)), some (.p (.int (wholeN[d] : Nat))), some (.l j), o4, o5, none]) (s := ⟨ps.map natP, [(j, ps.map natP)], true⟩) natP (fun (p : Nat) => fr (mkRat (p : Int) wholeN[d])) (by simp [Src.ok, g3]) ps (by
    intro p hp
    have c := call_frac (L := L) (k := k) (n := (p : Int)) (M := M3) (dI := (wholeN[d] : Nat)) rfl hL hw.1 (Nat.lt_of_lt_of_le hw.2 (Nat.le_trans (show 7 ≤ 2 ^ 3 by decide) (Nat.pow_le_pow_right (by decide) (by decide))))
    unfold natP
    simp [-Option.bind_some, lcx, wipeE, c])
  have nl4 := newl_ok (xs := ps.map fun (p : Nat) => fr (mkRat (p : Int) wholeN[d])) (M := M3) (by rw [List.length_map]; omega)
  refine ⟨row (ps.map fun (p : Nat) => mkRat (p : Int) wholeN[d]), M3 ++ [ps.map fun (p : Nat) => fr (mkRat (p : Int) wholeN[d])], ?_, i3.app, _, rfl, by rw [List.length_map, hl3], ?_⟩
  · have s := evF_step (G := G) (N := L) (M := [zs.map .int]) tab (k + 1) 26 [.l 0, .p (.int many)] F__law_shares rfl rfl
    refine s.trans ?_
    have as : asSrc M3 (.l j) = some ⟨ps.map natP, [(j, ps.map natP)], true⟩ := by
      show M3[j]?.map _ = _
      rw [g3]; rfl
    simp only [F__law_shares, entry]
    unfold W at e1 e3 el
    simp only [List.map_cons, List.map_nil] at e1
    simp [-Option.bind_some, nl]
    simp at e1
    rw [e1]
    simp [-Option.bind_some, ix, nl1, ml, sr]
    rw [e3]
    simp [-Option.bind_some, src, as]
    rw [el]
    simp [-Option.bind_some, nl4, row]
  · intro q hq
    obtain ⟨p, hp, rfl⟩ := List.mem_map.mp hq
    have := hb3' p hp
    exact mk_bd hw.1 (by rw [Int.natAbs_natCast]; omega) (by omega)
theorem pool_ok {L : Nat} (k : Nat) (ns : List Int) (h : ns.length ≤ 3000) (M : Mem) : ∃ zs : List Int, callX (W L (k + 1)) 13 [.scr (ns.map P.int)] M = some (.l M.length, M ++ [zs.map .int]) ∧ PoolOk zs := by
  refine ⟨0 :: 7 :: 3 :: ns, ?_, _, _, _, _, rfl, by decide, by decide, by decide, by decide⟩
  have n1 := newl_ok (xs := [.int 0, .int 7, .int 3]) (M := []) (by decide)
  have n2 := newl_ok (xs := ns.map .int) (M := [[.int 0, .int 7, .int 3]]) (by rw [List.length_map]; omega)
  have n3 := newl_ok (xs := .int 0 :: .int 7 :: .int 3 :: ns.map .int) (M := [[.int 0, .int 7, .int 3], ns.map .int]) (by simp; omega)
  have e : W L (k + 1) 13 [.scr (ns.map P.int)] [] = some (.l 2, [[.int 0, .int 7, .int 3], ns.map .int, (0 :: 7 :: 3 :: ns).map .int]) := by
    have s := evF_step (G := G) (N := L) (M := []) tab k 13 [.scr (ns.map P.int)] F__law_pool rfl rfl
    refine s.trans ?_
    have ad : binop .add (.l 0) (.l 1) [[.int 0, .int 7, .int 3], ns.map .int] = newl ([.int 0, .int 7, .int 3] ++ ns.map .int) [[.int 0, .int 7, .int 3], ns.map .int] := rfl
    simp only [F__law_pool, entry]
    simp [-Option.bind_some, n1, n2, ad, -List.cons_append]
    rw [n3]
    simp [-Option.bind_some]
  unfold callX
  simp [-Option.bind_some, callIn, e, callOut, putAll]
end K16
end

section
set_option linter.all false
set_option autoImplicit false
set_option maxRecDepth 10000
namespace K16
open PySem IX
theorem lop_inv {V : Wd} {N : Nat} {t : T} {b : List S} {s : Src} (I : IX.Env → Mem → Prop) (ho : ∀ M, s.ok M = true) : ∀ (xs : List P) (ρ : IX.Env) (M : Mem), I ρ M → (∀ x ∈ xs, ∀ ρ M, I ρ M → ∃ ρ' M', ((t.put x ρ).bind fun ρ' => evSs V G N b ρ' M) = some (.nx ρ' M') ∧ I ρ' M') →
    ∃ ρ' M', lop V G N t b s xs ρ M = some (.nx ρ' M') ∧ I ρ' M'
  | [], ρ, M, hI, _ => ⟨ρ, M, rfl, hI⟩
  | x :: xs, ρ, M, hI, h => by
    obtain ⟨ρ1, M1, e1, h1⟩ := h x List.mem_cons_self ρ M hI
    obtain ⟨ρ2, M2, e2, h2⟩ := lop_inv I ho xs ρ1 M1 h1 fun y hy => h y (List.mem_cons_of_mem _ hy)
    refine ⟨ρ2, M2, ?_, h2⟩
    rw [lop_cons, e1]
    simp only [obs, ho, if_true]
    exact e2
theorem okp_fr (q : Rat) : okp 2 (fr q) := ⟨by simp, by intro x hx; simp at hx; rcases hx with rfl | rfl <;> trivial⟩
theorem okp_row {l : List Rat} (h : l.length ≤ 4000) : okp 3 (row l) := ⟨by rw [List.length_map]; omega, by
  intro x hx
  obtain ⟨q, _, rfl⟩ := List.mem_map.mp hx
  exact okp_fr q⟩
theorem okp_tab {T : List (List Rat)} (h : T.length ≤ 4000) (h' : ∀ r ∈ T, r.length ≤ 4000) : okp 4 (tabP T) := ⟨by rw [List.length_map]; omega, by
  intro x hx
  obtain ⟨q, hq, rfl⟩ := List.mem_map.mp hx
  exact okp_row (h' q hq)⟩
theorem okp_asks {A : List (List Ask)} (h : A.length ≤ 4000) (h' : ∀ cs ∈ A, cs.length ≤ 4000 ∧ ∀ c ∈ cs, c.1.length ≤ 4000) : okp 6 (asksP A) := ⟨by rw [List.length_map]; omega, by
  intro x hx
  obtain ⟨cs, hcs, rfl⟩ := List.mem_map.mp hx
  refine ⟨by rw [List.length_map]; have := (h' cs hcs).1; omega, ?_⟩
  intro x hx
  obtain ⟨c, hc, rfl⟩ := List.mem_map.mp hx
  refine ⟨by simp, ?_⟩
  intro x hx
  simp at hx
  rcases hx with rfl | rfl
  · exact okp_row ((h' cs hcs).2 c hc)
  · exact okp_mono (okp_fr _)⟩
theorem mix_len (ws : List Rat) (rs : List (List Rat)) (n : Nat) : (mixR ws rs n).length = n := by simp [mixR]
theorem okp_worse {A : List (List Ask)} {T : List (List Rat)} {n : Nat} (h : Fit A T n) : okp 6 (asksP (worseA A T n)) := by
  refine okp_asks (by rw [worseA, List.length_map]; have := h.len; omega) ?_
  intro cs hcs
  obtain ⟨cs, hc, rfl⟩ := List.mem_map.mp hcs
  refine ⟨by rw [List.length_map]; have := h.rows cs hc; omega, ?_⟩
  intro c hc
  obtain ⟨c, hc, rfl⟩ := List.mem_map.mp hc
  rw [mix_len]
  have := h.nl; omega
theorem okp_back {Y T : List (List Rat)} {n : Nat} (h : FitY Y T n) : okp 4 (tabP (backA Y T)) := by
  refine okp_tab (by rw [backA, List.length_map]; have := h.yl; omega) ?_
  intro r hr
  obtain ⟨y, _, rfl⟩ := List.mem_map.mp hr
  rw [List.length_map]; have := h.tl; omega
section
variable {L : Nat} {e0 p2 p3 p4 p5 p6 p7 p8 p9 p10 p11 p12 p13 p14 : Option D} {M : Mem}
abbrev B1 : S := .set (.tp [(.nm 3), (.nm 4), (.nm 5)]) (.tup [(.bin .add (.c (.int 1)) (.call 14 [(.v 1), (.c (.int 3))] [0, 1])), (.bin .add (.c (.int 1)) (.call 14 [(.v 1), (.c (.int 6))] [0, 1])), (.bin .add (.c (.int 1)) (.call 14 [(.v 1), (.c (.int 7))] [0, 1]))])
theorem b1 (h : IP M) : ∃ (M' : Mem) (w c n : Nat), evS (W L 11) G L B1 [e0, some (.l 0), p2, p3, p4, p5, p6, p7, p8, p9, p10, p11, p12, p13, p14] M =
    some (.nx [e0, some (.l 0), p2, some (.p (.int w)), some (.p (.int c)), some (.p (.int n)), p6, p7, p8, p9, p10, p11, p12, p13, p14] M') ∧ IP M' ∧ 0 < w ∧ w ≤ 3 ∧ 0 < c ∧ c ≤ 6 ∧ 0 < n ∧ n ≤ 7 := by
  obtain ⟨_, M1, x1, u1, w, rfl, hw⟩ := callX_pool h (draws_draw (L := L) 10 3 (by decide) (by decide))
  obtain ⟨_, M2, x2, u2, c, rfl, hc⟩ := callX_pool u1.1 (draws_draw (L := L) 10 6 (by decide) (by decide))
  obtain ⟨_, M3, x3, u3, n, rfl, hn⟩ := callX_pool u2.1 (draws_draw (L := L) 10 7 (by decide) (by decide))
  refine ⟨M3, 1 + w, 1 + c, 1 + n, ?_, u3.1, by omega, by omega, by omega, by omega, by omega, by omega⟩
  have s3 : 3 ≤ sizeLine := by decide
  simp at x1 x2 x3
  simp [-Option.bind_some, x1, x2, x3, s3]
abbrev B2 : S := .set (.nm 7) (.bi .tuple [(.lc [6] (.call 25 [(.v 1), (.call 24 [(.v 1), (.v 4)] [0, 1]), (.call 14 [(.v 1), (.c (.int 5))] [0, 1])] [0, 1, 2]) (.nm 6) .rng [(.v 3)] [])])
theorem b2 (hL : 2 ^ 9000 < L) {w c : Nat} (hw : w ≤ 3) (hc : c ≤ 6) (h : IP M) : ∃ (M' : Mem) (A : List (List Ask)), evS (W L 11) G L B2 [e0, some (.l 0), p2, some (.p (.int w)), some (.p (.int c)), p5, p6, p7, p8, p9, p10, p11, p12, p13, p14] M =
    some (.nx [e0, some (.l 0), p2, some (.p (.int w)), some (.p (.int c)), p5, p6, some (.p (asksP A)), p8, p9, p10, p11, p12, p13, p14] M') ∧ IP M' ∧ A.length = w ∧ ∀ cs ∈ A, cs.length ≤ 5 ∧ ∀ q ∈ cs, q.1.length = c ∧ AllB 3 q.1 := by
  have sr := src_rng (n := w) (M := M) (by omega)
  obtain ⟨A, M', e, u, hl, hq⟩ := lcs_inv (V := W L 11) (G := G) (M0 := M) (vs := [6]) (elt := .call 25 [(.v 1), (.call 24 [(.v 1), (.v 4)] [0, 1]), (.call 14 [(.v 1), (.c (.int 5))] [0, 1])] [0, 1, 2]) (t := .nm 6) (ifs := []) (ρ := [e0, some (.l 0), p2, some (.p (.int w)), some (.p (.int c)), p5, p6, p7, p8, p9, p10, p11, p12, p13, p14]) (s := ⟨rangeP 0 w, [], true⟩) pairsP (fun cs => cs.length ≤ 5 ∧ ∀ q ∈ cs, q.1.length = c ∧ AllB 3 q.1) (fun _ => rfl) (rangeP 0 w) M (Up.refl h) (by
    intro x hx M hM
    obtain ⟨_, M1, x1, u1, r, rfl, hr, hrA⟩ := callX_pool hM.1 (row_d (L := L) 8 c (by omega))
    obtain ⟨_, M2, x2, u2, d, rfl, hd⟩ := callX_pool u1.1 (draws_draw (L := L) 10 5 (by decide) (by decide))
    obtain ⟨_, M3, x3, u3, cs, rfl, hcs, hq⟩ := callX_pool u2.1 (pairs_d hL 6 d r (hrA.mono (by decide)) (by omega) (by omega))
    refine ⟨cs, M3, ?_, u1.trans (u2.trans u3), by omega, fun q hqm => by rw [← hr]; exact hq q hqm⟩
    simp at x1 x2 x3
    simp [-Option.bind_some, lcx, wipeE, x1, x2, x3])
  have hl' : A.length = w := by rw [hl]; simp [rangeP]
  have nl := newl_ok (xs := A.map pairsP) (M := M') (by rw [List.length_map]; omega)
  refine ⟨M' ++ [A.map pairsP], A, ?_, u.1.app, hl', hq⟩
  simp [-Option.bind_some, sr, e, nl, asksP]
abbrev B3 : S := .set (.nm 9) (.bi .tuple [(.lc [8] (.call 26 [(.v 1), (.v 5)] [0, 1]) (.nm 8) .rng [(.v 4)] [])])
theorem b3 (hL : 2 ^ 9000 < L) {c n : Nat} (hc : c ≤ 6) (hn0 : 0 < n) (hn : n ≤ 7) (h : IP M) : ∃ (M' : Mem) (T : List (List Rat)), evS (W L 11) G L B3 [e0, some (.l 0), p2, p3, some (.p (.int c)), some (.p (.int n)), p6, p7, p8, p9, p10, p11, p12, p13, p14] M =
    some (.nx [e0, some (.l 0), p2, p3, some (.p (.int c)), some (.p (.int n)), p6, p7, p8, some (.p (tabP T)), p10, p11, p12, p13, p14] M') ∧ IP M' ∧ T.length = c ∧ ∀ r ∈ T, AllB 3 r ∧ r.length = n := by
  have sr := src_rng (n := c) (M := M) (by omega)
  obtain ⟨T, M', e, u, hl, hq⟩ := lcs_inv (V := W L 11) (G := G) (M0 := M) (vs := [8]) (elt := .call 26 [(.v 1), (.v 5)] [0, 1]) (t := .nm 8) (ifs := []) (ρ := [e0, some (.l 0), p2, p3, some (.p (.int c)), some (.p (.int n)), p6, p7, p8, p9, p10, p11, p12, p13, p14]) (s := ⟨rangeP 0 c, [], true⟩) row (fun r => AllB 3 r ∧ r.length = n) (fun _ => rfl) (rangeP 0 c) M (Up.refl h) (by
    intro x hx M hM
    obtain ⟨_, M1, x1, u1, r, rfl, hr, hrA⟩ := callX_pool hM.1 (shares_d hL 9 n hn0 (by omega))
    refine ⟨r, M1, ?_, u1, hrA, hr⟩
    simp at x1
    simp [-Option.bind_some, lcx, wipeE, x1])
  have hl' : T.length = c := by rw [hl]; simp [rangeP]
  have nl := newl_ok (xs := T.map row) (M := M') (by rw [List.length_map]; omega)
  refine ⟨M' ++ [T.map row], T, ?_, u.1.app, hl', hq⟩
  simp [-Option.bind_some, sr, e, nl, tabP]
abbrev B6 : S := .set (.nm 11) (.bi .tuple [(.lc [6] (.call 24 [(.v 1), (.v 5)] [0, 1]) (.nm 6) .rng [(.v 3)] [])])
theorem b6 {w n : Nat} (hw : w ≤ 3) (hn : n ≤ 7) (h : IP M) : ∃ (M' : Mem) (Y : List (List Rat)), evS (W L 11) G L B6 [e0, some (.l 0), p2, some (.p (.int w)), p4, some (.p (.int n)), p6, p7, p8, p9, p10, p11, p12, p13, p14] M =
    some (.nx [e0, some (.l 0), p2, some (.p (.int w)), p4, some (.p (.int n)), p6, p7, p8, p9, p10, some (.p (tabP Y)), p12, p13, p14] M') ∧ IP M' ∧ Y.length = w ∧ ∀ r ∈ Y, AllB 3 r ∧ r.length = n := by
  have sr := src_rng (n := w) (M := M) (by omega)
  obtain ⟨Y, M', e, u, hl, hq⟩ := lcs_inv (V := W L 11) (G := G) (M0 := M) (vs := [6]) (elt := .call 24 [(.v 1), (.v 5)] [0, 1]) (t := .nm 6) (ifs := []) (ρ := [e0, some (.l 0), p2, some (.p (.int w)), p4, some (.p (.int n)), p6, p7, p8, p9, p10, p11, p12, p13, p14]) (s := ⟨rangeP 0 w, [], true⟩) row (fun r => AllB 3 r ∧ r.length = n) (fun _ => rfl) (rangeP 0 w) M (Up.refl h) (by
    intro x hx M hM
    obtain ⟨_, M1, x1, u1, r, rfl, hr, hrA⟩ := callX_pool hM.1 (row_d (L := L) 8 n (by omega))
    refine ⟨r, M1, ?_, u1, hrA.mono (by decide), hr⟩
    simp at x1
    simp [-Option.bind_some, lcx, wipeE, x1])
  have hl' : Y.length = w := by rw [hl]; simp [rangeP]
  have nl := newl_ok (xs := Y.map row) (M := M') (by rw [List.length_map]; omega)
  refine ⟨M' ++ [Y.map row], Y, ?_, u.1.app, hl', hq⟩
  simp [-Option.bind_some, sr, e, nl, tabP]
end
end K16
end

section
set_option linter.all false
set_option autoImplicit false
set_option maxRecDepth 10000
namespace K16
open PySem IX
section
variable {L : Nat} {e0 p1 p2 p3 p4 p5 p6 p7 p8 p9 p10 p11 p12 p13 p14 : Option D} {M : Mem}
abbrev B4 : S := .set (.nm 10) (.ife (.cmp .gt (.v 2) (.c (.int 0))) (.call 10 [(.v 7), (.v 9)] [0, 1]) (.call 10 [(.v 9), (.v 7)] [1, 0]))
theorem b4 (hL : 2 ^ 9000 < L) {g : Int} {n : Nat} {A : List (List Ask)} {T : List (List Rat)} (h : Fit A T n) : evS (W L 11) G L B4 [e0, p1, some (.p (.int g)), p3, p4, p5, p6, some (.p (asksP A)), p8, some (.p (tabP T)), p10, p11, p12, p13, p14] M =
    some (.nx [e0, p1, some (.p (.int g)), p3, p4, p5, p6, some (.p (asksP A)), p8, some (.p (tabP T)), some (.p (asksP (worseA A T n))), p11, p12, p13, p14] M) := by
  have c := seen_c hL 6 n A T h M
  by_cases hg : 0 < g <;> simp [-Option.bind_some, hg, c]
abbrev B5 : S := .ife (.not (.tru (.call 15 [(.v 10), (.call 27 [(.v 7), (.v 9)] [0, 1])] [0, 1]))) [.ret (.c (.bl false))] []
theorem b5 (hL : 2 ^ 9000 < L) {n : Nat} {A : List (List Ask)} {T : List (List Rat)} (h : Fit A T n) : evS (W L 11) G L B5 [e0, p1, p2, p3, p4, p5, p6, some (.p (asksP A)), p8, some (.p (tabP T)), some (.p (asksP (worseA A T n))), p11, p12, p13, p14] M =
    some (.nx [e0, p1, p2, p3, p4, p5, p6, some (.p (asksP A)), p8, some (.p (tabP T)), some (.p (asksP (worseA A T n))), p11, p12, p13, p14] M) := by
  have c := worse_c hL 6 n A T h M
  have so := so_c (L := L) (k := 5) (okp_worse h) M
  simp [-Option.bind_some, c, so]
abbrev B7 : S := .set (.nm 10) (.ife (.cmp .gt (.v 2) (.c (.int 0))) (.call 11 [(.v 11), (.v 9)] [0, 1]) (.call 11 [(.v 9), (.v 11)] [1, 0]))
theorem b7 (hL : 2 ^ 9000 < L) {g : Int} {n : Nat} {Y T : List (List Rat)} (h : FitY Y T n) : evS (W L 11) G L B7 [e0, p1, some (.p (.int g)), p3, p4, p5, p6, p7, p8, some (.p (tabP T)), p10, some (.p (tabP Y)), p12, p13, p14] M =
    some (.nx [e0, p1, some (.p (.int g)), p3, p4, p5, p6, p7, p8, some (.p (tabP T)), some (.p (tabP (backA Y T))), some (.p (tabP Y)), p12, p13, p14] M) := by
  have c := paid_c hL 5 n Y T h M
  by_cases hg : 0 < g <;> simp [-Option.bind_some, hg, c]
abbrev B8 : S := .ife (.not (.tru (.call 15 [(.v 10), (.call 28 [(.v 11), (.v 9)] [0, 1])] [0, 1]))) [.ret (.c (.bl false))] []
theorem b8 (hL : 2 ^ 9000 < L) {n : Nat} {Y T : List (List Rat)} (h : FitY Y T n) : evS (W L 11) G L B8 [e0, p1, p2, p3, p4, p5, p6, p7, p8, some (.p (tabP T)), some (.p (tabP (backA Y T))), some (.p (tabP Y)), p12, p13, p14] M =
    some (.nx [e0, p1, p2, p3, p4, p5, p6, p7, p8, some (.p (tabP T)), some (.p (tabP (backA Y T))), some (.p (tabP Y)), p12, p13, p14] M) := by
  have c := back_c hL 6 n Y T h M
  have so := so_c (L := L) (k := 7) (okp_back h) M
  simp [-Option.bind_some, c, so]
theorem fits_nat : ∀ l : List Nat, P.fits 63 (l.map natP) = true
  | [] => rfl
  | c :: l => by
    show (P.fit 63 (natP c) && P.fits 63 (l.map natP)) = true
    rw [fits_nat l]; rfl
theorem ne_nil {i j : Nat} {l : List Nat} {M : Mem} (h1 : M[i]? = some (l.map natP)) (h2 : M[j]? = some []) : cmpop .ne (.l i) (.l j) M = some (!l.isEmpty) := by
  show ((M[i]?.bind fun a => M[j]?.bind fun b => if P.fits 63 a && P.fits 63 b then some ((P.tup a).eqv (.tup b)) else none).map (!·)) = _
  rw [h1, h2]
  simp only [obs]
  rw [fits_nat, show P.fits 63 [] = true from rfl]
  cases l with
  | nil => rfl
  | cons a l => rfl
/-- the number of places so far -/
def nxt : List Nat → Nat
  | [] => 1
  | a :: r => maxN a r + 2
abbrev B10 : S := .loop (.nm 8) .rng [(.v 4)]
          [.ex (.mt .append (.v 12) [(.call 14 [(.v 1), (.ife (.cmp .ne (.v 12) (.lst [])) (.bin .add (.bi .max [(.v 12)]) (.c (.int 2))) (.c (.int 1)))] [0, 1])])]
theorem told_loop {j : Nat} (hj : 0 < j) {s : Src} (ho : ∀ M, s.ok M = true) : ∀ (xs : List P) (l : List Nat) (M : Mem) (p8 : Option D), IP M → M[j]? = some (l.map natP) → l.length + xs.length ≤ 20 → (∀ z ∈ l, z < l.length) →
    ∃ (l' : List Nat) (M' : Mem) (o8 : Option D), lop (W L 11) G L (.nm 8) [.ex (.mt .append (.v 12) [(.call 14 [(.v 1), (.ife (.cmp .ne (.v 12) (.lst [])) (.bin .add (.bi .max [(.v 12)]) (.c (.int 2))) (.c (.int 1)))] [0, 1])])] s xs [e0, some (.l 0), p2, p3, p4, p5, p6, p7, p8, p9, p10, p11, some (.l j), p13, p14] M = some (.nx [e0, some (.l 0), p2, p3, p4, p5, p6, p7, o8, p9, p10, p11, some (.l j), p13, p14] M') ∧
      IP M' ∧ M'[j]? = some (l'.map natP) ∧ l'.length = l.length + xs.length ∧ ∀ z ∈ l', z < l'.length := by
  intro xs
  induction xs with
  | nil => intro l M p8 hI h1 _ hb; exact ⟨l, M, p8, rfl, hI, h1, rfl, hb⟩
  | cons x xs ih =>
    intro l M p8 hI h1 hlen hb
    rw [List.length_cons] at hlen
    have nl := newl_ok (xs := []) (M := M) (by simp)
    have i1 : IP (M ++ [[]]) := hI.app
    have g1 : (M ++ [[]])[j]? = some (l.map natP) := get_app h1
    have ne := ne_nil (i := j) (j := M.length) (M := M ++ [[]]) g1 (by simp)
    have nb : nxt l ≤ l.length + 1 ∧ 0 < nxt l := by
      cases l with
      | nil => exact ⟨by decide, by decide⟩
      | cons a r =>
        have := maxN_lt r a (hb a List.mem_cons_self) (fun x hx => hb x (List.mem_cons_of_mem _ hx))
        simp only [nxt]
        omega
    obtain ⟨_, M1, e1, u1, d, rfl, hd⟩ := callX_pool i1 (draws_draw (L := L) 10 (nxt l) nb.2 (by omega))
    have g2 : M1[j]? = some (l.map natP) := u1.get hj g1
    have ap := app_ok (xs := l.map natP) (x := natP d) (by rw [List.length_map]; omega)
    obtain ⟨l', M', o8, e, r1, r2, r3, r4⟩ := ih (l ++ [d]) (M1.set j (l.map natP ++ [natP d])) (some (.p x)) (Up.set u1.1 hj) (by rw [set_get g2]; simp) (by simp; omega) (by
      intro z hz
      rw [List.length_append, List.length_singleton]
      rcases List.mem_append.mp hz with hz | hz
      · have := hb z hz; omega
      · rw [List.mem_singleton.mp hz]; omega)
    refine ⟨l', M', o8, ?_, r1, r2, by rw [r3]; simp; omega, r4⟩
    simp only [List.map_cons, List.map_nil] at e1
    rw [lop_cons]
    cases l with
    | nil =>
      simp only [nxt] at e1
      simp at e1 ne
      simp [-Option.bind_some, nl, ne, e1]
      simp [natP] at ap g2 e
      simp [-Option.bind_some, g2, ap, ho]
      exact e
    | cons a r =>
      have mx := max_ok (a := a) (r := r) (M := M ++ [[]]) (d := .l j) (by rw [it_l', g1]; rfl) (.inr ⟨j, rfl⟩)
      simp only [nxt] at e1
      rw [show (((maxN a r + 2 : Nat)) : Int) = (maxN a r : Int) + 2 from rfl] at e1
      simp only [List.isEmpty_cons, Bool.not_false] at ne
      simp [-Option.bind_some, -List.map_cons, nl, ne, mx, e1]
      rw [show D.p (P.int (d : Int)) = D.p (natP d) from rfl]
      simp [-Option.bind_some, -List.map_cons, g2, ap, ho]
      exact e
theorem b10 {c j : Nat} (hc : c ≤ 6) (hj : 0 < j) (h : IP M) (h1 : M[j]? = some []) : ∃ (l' : List Nat) (M' : Mem) (o8 : Option D), evS (W L 11) G L B10 [e0, some (.l 0), p2, p3, some (.p (.int c)), p5, p6, p7, p8, p9, p10, p11, some (.l j), p13, p14] M = some (.nx [e0, some (.l 0), p2, p3, some (.p (.int c)), p5, p6, p7, o8, p9, p10, p11, some (.l j), p13, p14] M') ∧
      IP M' ∧ M'[j]? = some (l'.map natP) ∧ l'.length = c ∧ ∀ z ∈ l', z < l'.length := by
  have sr := src_rng (n := c) (M := M) (by omega)
  obtain ⟨l', M', o8, e, r1, r2, r3, r4⟩ := told_loop (L := L) (e0 := e0) (p2 := p2) (p3 := p3) (p4 := some (.p (.int c))) (p5 := p5) (p6 := p6) (p7 := p7) (p9 := p9) (p10 := p10) (p11 := p11) (p13 := p13) (p14 := p14) hj (s := ⟨rangeP 0 c, [], true⟩) (fun _ => rfl) (rangeP 0 c) [] M p8 h h1 (by simp [rangeP]; omega) (by simp)
  refine ⟨l', M', o8, ?_, r1, r2, by rw [r3]; simp [rangeP], r4⟩
  rw [s_loop']
  simp only [es_cons, es_nil, e_v, List.getElem?_cons_succ, List.getElem?_cons_zero, obs]
  rw [sr]
  exact e
end
end K16
end

section
set_option linter.all false
set_option autoImplicit false
set_option maxRecDepth 10000
namespace K16
open PySem IX
theorem lcs_extI {A : Type} (I : Mem → Prop) (hI : ∀ M X, I M → I (M ++ X)) (h : A → P) (f : A → P) (g : A → List P) {V : Wd} {G : Str → Option P} {ρ : IX.Env} {vs : List Nat} {elt : E} {t : T} {ifs : List E} {s : Src} (ho : ∀ M, s.ok M = true) : ∀ (xs : List A) (M : Mem), I M → (∀ x ∈ xs, ∀ M, I M → lcx V G vs elt t ifs ρ (h x) M = some ([f x], M ++ [g x])) → lcs V G vs elt t ifs s (xs.map h) ρ M = some (xs.map f, M ++ xs.map g)
  | [], M, _, _ => by simp
  | x :: xs, M, hm, e => by
    rw [List.map_cons, lcs_cons, e x List.mem_cons_self M hm]
    simp only [obs, ho, if_true]
    rw [lcs_extI I hI h f g ho xs _ (hI _ _ hm) (fun y hy => e y (List.mem_cons_of_mem _ hy))]
    simp
section
variable {L : Nat} {e0 p1 p2 p3 p4 p5 p6 p7 p8 p9 p10 p11 p12 p13 p14 : Option D} {M : Mem}
abbrev B11 : S := .set (.nm 14) (.bi .tuple [(.lc [8] (.bi .tuple [(.lc [13] (.tup [(.bi .int [(.cmp .eq (.idx (.v 12) (.v 8)) (.v 13))]), (.c (.int 1))]) (.nm 13) .rng [(.bin .add (.bi .max [(.v 12)]) (.c (.int 1)))] [])]) (.nm 8) .rng [(.v 4)] [])])
def joins (a : Nat) (r : List Nat) : List (List Rat) := (a :: r).map (unitR (maxN a r + 1))
theorem b11 {c j a : Nat} {r : List Nat} (hc : c ≤ 6) (h : IP M) (h1 : M[j]? = some ((a :: r).map natP)) (hl : (a :: r).length = c) (hb : ∀ z ∈ a :: r, z < (a :: r).length) : ∃ M' : Mem, evS (W L 11) G L B11 [e0, p1, p2, p3, some (.p (.int c)), p5, p6, p7, p8, p9, p10, p11, some (.l j), p13, p14] M =
    some (.nx [e0, p1, p2, p3, some (.p (.int c)), p5, p6, p7, p8, p9, p10, p11, some (.l j), p13, some (.p (tabP (joins a r)))] M') ∧ Up M M' := by
  have hmx : maxN a r < (a :: r).length := maxN_lt r a (hb a List.mem_cons_self) (fun x hx => hb x (List.mem_cons_of_mem _ hx))
  generalize hm : maxN a r + 1 = m
  have hm6 : m ≤ 6 := by omega
  have el : ∀ z ∈ List.range c, ∀ M : Mem, M[j]? = some ((a :: r).map natP) → lcx (W L 11) G [8] (.bi .tuple [(.lc [13] (.tup [(.bi .int [(.cmp .eq (.idx (.v 12) (.v 8)) (.v 13))]), (.c (.int 1))]) (.nm 13) .rng [(.bin .add (.bi .max [(.v 12)]) (.c (.int 1)))] [])]) (.nm 8) [] [e0, p1, p2, p3, some (.p (.int c)), p5, p6, p7, p8, p9, p10, p11, some (.l j), p13, p14] (.int ((z : Nat) : Int)) M = some ([row (unitR m ((a :: r).getD z 0))], M ++ [(unitR m ((a :: r).getD z 0)).map fr]) := by
    intro z hz M h1
    rw [List.mem_range] at hz
    have hzl : z < (a :: r).length := by omega
    have gd : (a :: r).getD z 0 = (a :: r)[z] := by rw [List.getD, List.getElem?_eq_getElem hzl]; rfl
    have ix : index (.l j) (.p (.int z)) M = some (.int ((a :: r)[z] : Nat)) := idx_items (by rw [it_l', h1]) (by rw [List.getElem?_map, List.getElem?_eq_getElem hzl]; rfl)
    have mx := max_ok (a := a) (r := r) (M := M) (d := .l j) (by rw [it_l', h1]; rfl) (.inr ⟨j, rfl⟩)
    have sr := src_rng (n := m) (M := M) (by omega)
    rw [rngP, show ((m : Nat) : Int) = (maxN a r : Int) + 1 from by rw [← hm]; rfl] at sr
    rw [gd]
    generalize (a :: r)[z] = v at ix
    have li := lcs_of (V := W L 11) (G := G) (M := M) (ρ := [e0, p1, p2, p3, some (.p (.int c)), p5, p6, p7, some (.p (.int z)), p9, p10, p11, some (.l j), p13, p14]) (vs := [13]) (elt := .tup [(.bi .int [(.cmp .eq (.idx (.v 12) (.v 8)) (.v 13))]), (.c (.int 1))]) (t := .nm 13) (ifs := []) (s := ⟨(List.range m).map fun (k : Nat) => P.int k, [], true⟩) (fun (k : Nat) => P.int (k : Int)) (fun k => fr (if k = v then 1 else 0)) rfl (List.range m) (by
      intro k _
      by_cases hk : k = v
      · subst hk
        simp [-Option.bind_some, lcx, wipeE, ix, s2, fr1]
      · have e : ((v : Int) == (k : Int)) = false := by
          have : (v : Int) ≠ (k : Int) := by omega
          simpa using this
        have e' : ¬ v = k := by omega
        simp [-Option.bind_some, lcx, wipeE, ix, e, e', s2, hk, fr0])
    have nl := newl_ok (xs := (List.range m).map fun k => fr (if k = v then 1 else 0)) (M := M) (by rw [List.length_map, List.length_range]; omega)
    have ue : (unitR m v).map fr = (List.range m).map fun k => fr (if k = v then 1 else 0) := by rw [unitR, List.map_map]; rfl
    rw [row, ue]
    rw [lcx]
    simp [-Option.bind_some, wipeE, mx, sr]
    rw [li]
    simp [-Option.bind_some, nl]
  have le := lcs_extI (I := fun M : Mem => M[j]? = some ((a :: r).map natP)) (fun M X hM => get_app hM) (s := ⟨(List.range c).map fun (k : Nat) => P.int k, [], true⟩) (fun (k : Nat) => P.int (k : Int)) (fun z => row (unitR m ((a :: r).getD z 0))) (fun z => (unitR m ((a :: r).getD z 0)).map fr) (fun _ => rfl) (List.range c) M h1 el
  have sr := src_rng (n := c) (M := M) (by omega)
  rw [rngP] at sr
  have te : (List.range c).map (fun z => row (unitR m ((a :: r).getD z 0))) = (joins a r).map row := by
    refine List.ext_getElem? fun z => ?_
    rw [joins, hm, List.map_map, List.getElem?_map, List.getElem?_map]
    by_cases hz : z < c
    · rw [List.getElem?_range hz, List.getElem?_eq_getElem (show z < (a :: r).length by omega)]
      simp only [Option.map_some]
      rw [List.getD, List.getElem?_eq_getElem (show z < (a :: r).length by omega)]
      rfl
    · rw [List.getElem?_eq_none (by rw [List.length_range]; omega), List.getElem?_eq_none (by omega)]; rfl
  rw [te] at le
  have nl := newl_ok (xs := (joins a r).map row) (M := M ++ (List.range c).map fun z => (unitR m ((a :: r).getD z 0)).map fr) (by rw [List.length_map, joins, List.length_map]; omega)
  generalize (List.range c).map (fun z => (unitR m ((a :: r).getD z 0)).map fr) = X at le nl
  refine ⟨M ++ X ++ [(joins a r).map row], ?_, by rw [List.append_assoc]; exact Up.app h⟩
  rw [s_set']
  simp only [e_bi, es_cons, es_nil, e_lc, e_v, List.getElem?_cons_succ, List.getElem?_cons_zero, obs]
  rw [sr]
  simp only [obs]
  rw [le]
  simp [-Option.bind_some, nl, tabP]
theorem fit_joins {A : List (List Ask)} {c a : Nat} {r : List Nat} (hc : c ≤ 6) (hA : A.length ≤ 3) (hq : ∀ cs ∈ A, cs.length ≤ 5 ∧ ∀ q ∈ cs, q.1.length = c ∧ AllB 3 q.1) (hl : (a :: r).length = c) (hb : ∀ z ∈ a :: r, z < (a :: r).length) : Fit A (joins a r) (maxN a r + 1) := by
  have hmx : maxN a r < (a :: r).length := maxN_lt r a (hb a List.mem_cons_self) (fun x hx => hb x (List.mem_cons_of_mem _ hx))
  have jl : (joins a r).length = c := by rw [joins, List.length_map, hl]
  refine ⟨by omega, fun cs h => by have := (hq cs h).1; omega, fun cs h q hm => by rw [jl]; exact (hq cs h).2 q hm, ?_, by rw [jl, ← hl]; simp, by rw [jl]; omega, by omega⟩
  intro u hu
  obtain ⟨z, _, rfl⟩ := List.mem_map.mp hu
  refine ⟨?_, by simp [unitR]⟩
  intro q hq
  obtain ⟨k, _, rfl⟩ := List.mem_map.mp hq
  split
  · exact ⟨by decide, by decide⟩
  · exact ⟨by decide, by decide⟩
abbrev B12 : S := .set (.nm 10) (.ife (.cmp .gt (.v 2) (.c (.int 0))) (.call 12 [(.v 7), (.bi .tuple [(.v 12)])] [0, 1]) (.call 12 [(.bi .tuple [(.v 12)]), (.v 7)] [1, 0]))
theorem b12 (hL : 2 ^ 9000 < L) {g : Int} {j a : Nat} {r : List Nat} {A : List (List Ask)} (h : Fit A (joins a r) (maxN a r + 1)) (h1 : M[j]? = some ((a :: r).map natP)) : evS (W L 11) G L B12 [e0, p1, some (.p (.int g)), p3, p4, p5, p6, some (.p (asksP A)), p8, p9, p10, p11, some (.l j), p13, p14] M =
    some (.nx [e0, p1, some (.p (.int g)), p3, p4, p5, p6, some (.p (asksP A)), p8, p9, some (.p (asksP (worseA A (joins a r) (maxN a r + 1)))), p11, some (.l j), p13, p14] M) := by
  have c := joined_c hL 5 A a r h M
  rw [show intsT (a :: r) = .tup ((a :: r).map natP) from rfl] at c
  rw [show (a :: r).map (unitR (maxN a r + 1)) = joins a r from rfl] at c
  by_cases hg : 0 < g <;> simp [-Option.bind_some, -List.map_cons, hg, h1, c]
abbrev B13 : S := .ife (.or [(.not (.tru (.call 15 [(.v 10), (.call 27 [(.v 7), (.v 14)] [0, 1])] [0, 1]))), (.not (.tru (.call 15 [(.call 10 [(.v 7), (.v 14)] [0, 1]), (.call 27 [(.v 7), (.v 14)] [0, 1])] [0, 1])))]) [.ret (.c (.bl false))] []
theorem b13 (hL : 2 ^ 9000 < L) {n : Nat} {A : List (List Ask)} {T : List (List Rat)} (h : Fit A T n) : evS (W L 11) G L B13 [e0, p1, p2, p3, p4, p5, p6, some (.p (asksP A)), p8, p9, some (.p (asksP (worseA A T n))), p11, p12, p13, some (.p (tabP T))] M =
    some (.nx [e0, p1, p2, p3, p4, p5, p6, some (.p (asksP A)), p8, p9, some (.p (asksP (worseA A T n))), p11, p12, p13, some (.p (tabP T))] M) := by
  have c := worse_c hL 6 n A T h M
  have c2 := seen_c hL 6 n A T h M
  have so := so_c (L := L) (k := 5) (okp_worse h) M
  simp [-Option.bind_some, c, c2, so]
end
end K16
end

section
set_option linter.all false
set_option autoImplicit false
set_option maxRecDepth 10000
namespace K16
open PySem IX
theorem ss_nx {V : Wd} {N : Nat} {s : S} {r : List S} {ρ ρ' : IX.Env} {M M' : Mem} (h : evS V G N s ρ M = some (.nx ρ' M')) : evSs V G N (s :: r) ρ M = evSs V G N r ρ' M' := by
  rw [ss_cons', h]; rfl
abbrev B9 : S := .set (.nm 12) (.lst [])
abbrev body : List S := [B1, B2, B3, B4, B5, B6, B7, B8, B9, B10, B11, B12, B13]
def Inv (e0 : Option D) (ρ : IX.Env) (M : Mem) : Prop := ∃ p2 p3 p4 p5 p6 p7 p8 p9 p10 p11 p12 p13 p14 : Option D, ρ = [e0, some (.l 0), p2, p3, p4, p5, p6, p7, p8, p9, p10, p11, p12, p13, p14] ∧ IP M
theorem turn {L : Nat} (hL : 2 ^ 9000 < L) {e0 : Option D} (g : Int) (ρ : IX.Env) (M : Mem) (h : Inv e0 ρ M) : ∃ ρ' M', ((T.put (.nm 2) (.int g) ρ).bind fun ρ' => evSs (W L 11) G L body ρ' M) = some (.nx ρ' M') ∧ Inv e0 ρ' M' := by
  obtain ⟨p2, p3, p4, p5, p6, p7, p8, p9, p10, p11, p12, p13, p14, rfl, hI⟩ := h
  rw [put_nm, if_pos (by simp)]
  simp only [obs, List.set_cons_succ, List.set_cons_zero]
  obtain ⟨M1, w, c, n, x1, i1, w0, w3, c0, c6, n0, n7⟩ := b1 (L := L) (e0 := e0) (p2 := some (.p (.int g))) (p3 := p3) (p4 := p4) (p5 := p5) (p6 := p6) (p7 := p7) (p8 := p8) (p9 := p9) (p10 := p10) (p11 := p11) (p12 := p12) (p13 := p13) (p14 := p14) hI
  rw [ss_nx x1]
  clear x1
  obtain ⟨M2, A, x2, i2, al, aq⟩ := b2 hL (e0 := e0) (p2 := some (.p (.int g))) (p5 := some (.p (.int n))) (p6 := p6) (p7 := p7) (p8 := p8) (p9 := p9) (p10 := p10) (p11 := p11) (p12 := p12) (p13 := p13) (p14 := p14) w3 c6 i1
  rw [ss_nx x2]
  clear x2
  obtain ⟨M3, T, x3, i3, tl, tq⟩ := b3 hL (e0 := e0) (p2 := some (.p (.int g))) (p3 := some (.p (.int w))) (p6 := p6) (p7 := some (.p (asksP A))) (p8 := p8) (p9 := p9) (p10 := p10) (p11 := p11) (p12 := p12) (p13 := p13) (p14 := p14) c6 n0 n7 i2
  rw [ss_nx x3]
  clear x3
  have ft : Fit A T n := ⟨by omega, fun cs h => by have := (aq cs h).1; omega, fun cs h q hm => by rw [tl]; exact (aq cs h).2 q hm, tq, by omega, by omega, by omega⟩
  rw [ss_nx (b4 hL ft), ss_nx (b5 hL ft)]
  obtain ⟨M4, Y, x4, i4, yl, yq⟩ := b6 (L := L) (e0 := e0) (p2 := some (.p (.int g))) (p4 := some (.p (.int c))) (p6 := p6) (p7 := some (.p (asksP A))) (p8 := p8) (p9 := some (.p (tabP T))) (p10 := some (.p (asksP (worseA A T n)))) (p11 := p11) (p12 := p12) (p13 := p13) (p14 := p14) w3 n7 i3
  rw [ss_nx x4]
  clear x4
  have fy : FitY Y T n := ⟨yq, tq, by omega, by omega, by omega⟩
  rw [ss_nx (b7 hL fy), ss_nx (b8 hL fy)]
  have nl := newl_ok (xs := []) (M := M4) (by simp)
  have hj : 0 < M4.length := i4.pos
  have x5 : evS (W L 11) G L B9 [e0, some (.l 0), some (.p (.int g)), some (.p (.int w)), some (.p (.int c)), some (.p (.int n)), p6, some (.p (asksP A)), p8, some (.p (tabP T)), some (.p (tabP (backA Y T))), some (.p (tabP Y)), p12, p13, p14] M4 = some (.nx [e0, some (.l 0), some (.p (.int g)), some (.p (.int w)), some (.p (.int c)), some (.p (.int n)), p6, some (.p (asksP A)), p8, some (.p (tabP T)), some (.p (tabP (backA Y T))), some (.p (tabP Y)), some (.l M4.length), p13, p14] (M4 ++ [[]])) := by
    simp [-Option.bind_some, nl]
  rw [ss_nx x5]
  clear x5
  obtain ⟨l, M5, o8, x6, i5, g5, ll, lb⟩ := b10 (L := L) (e0 := e0) (p2 := some (.p (.int g))) (p3 := some (.p (.int w))) (p5 := some (.p (.int n))) (p6 := p6) (p7 := some (.p (asksP A))) (p8 := p8) (p9 := some (.p (tabP T))) (p10 := some (.p (tabP (backA Y T)))) (p11 := some (.p (tabP Y))) (p13 := p13) (p14 := p14) (M := M4 ++ [[]]) (j := M4.length) c6 hj i4.app (by simp)
  rw [ss_nx x6]
  clear x6
  cases l with
  | nil => simp at ll; omega
  | cons a r =>
    obtain ⟨M6, x7, u6⟩ := b11 (L := L) (e0 := e0) (p1 := some (.l 0)) (p2 := some (.p (.int g))) (p3 := some (.p (.int w))) (p5 := some (.p (.int n))) (p6 := p6) (p7 := some (.p (asksP A))) (p8 := o8) (p9 := some (.p (tabP T))) (p10 := some (.p (tabP (backA Y T)))) (p11 := some (.p (tabP Y))) (p13 := p13) (p14 := p14) c6 i5 g5 ll lb
    rw [ss_nx x7]
    clear x7
    have fj := fit_joins c6 (by omega) aq ll lb
    rw [ss_nx (b12 hL fj (u6.get hj g5)), ss_nx (b13 hL fj)]
    exact ⟨_, _, rfl, _, _, _, _, _, _, _, _, _, _, _, _, _, rfl, u6.1⟩
theorem body_eq : F_law.body = [.set (.nm 1) (.call 13 [(.v 0)] [0]), .loop (.nm 2) .rng [(.c (.int 4))] body, .ret (.c (.bl true))] := by rfl
def loops : Nat := 2 ^ 20000
theorem loops_big : 2 ^ 9000 < loops := Nat.pow_lt_pow_right (by decide) (by decide)
theorem plain (ns : List Int) (hl : ns.length ≤ 63) (hb : ∀ z ∈ ns, Builtin.Int.intBits z ≤ 1048576) : ∃ M', evF tab (fun x => pg.G.lookup x) loops 12 29 [.scr (ns.map P.int)] [] = some (.p (.bl true), M') := by
  obtain ⟨zs, pc, hp⟩ := pool_ok (L := loops) 10 ns (by omega) []
  have sr := src_rng (n := 4) (M := [zs.map .int]) (by decide)
  obtain ⟨ρ', M', e, h⟩ := lop_inv (V := W loops 11) (N := loops) (t := .nm 2) (b := body) (s := ⟨rangeP 0 4, [], true⟩) (Inv (some (.scr (ns.map P.int)))) (fun _ => rfl) (rangeP 0 4) [some (.scr (ns.map P.int)), some (.l 0), none, none, none, none, none, none, none, none, none, none, none, none, none] [zs.map .int] ⟨_, _, _, _, _, _, _, _, _, _, _, _, _, rfl, IP.one hp⟩ (by
    intro x hx ρ M hI
    obtain ⟨k, _, rfl⟩ := rng_mem hx
    exact turn loops_big k ρ M hI)
  refine ⟨M', ?_⟩
  have s := evF_step (G := G) (N := loops) (M := []) tab 11 29 [.scr (ns.map P.int)] F_law rfl rfl
  refine s.trans ?_
  have en : entry F_law [.scr (ns.map P.int)] = [some (.scr (ns.map P.int)), none, none, none, none, none, none, none, none, none, none, none, none, none, none] := rfl
  rw [body_eq, en]
  have x1 : evS (evF tab G loops 11) G loops (.set (.nm 1) (.call 13 [(.v 0)] [0])) [some (.scr (ns.map P.int)), none, none, none, none, none, none, none, none, none, none, none, none, none, none] [] = some (.nx [some (.scr (ns.map P.int)), some (.l 0), none, none, none, none, none, none, none, none, none, none, none, none, none] [zs.map .int]) := by
    unfold W at pc
    simp at pc
    simp [-Option.bind_some, pc]
  rw [ss_nx x1]
  have x2 : evS (evF tab G loops 11) G loops (.loop (.nm 2) .rng [(.c (.int 4))] body) [some (.scr (ns.map P.int)), some (.l 0), none, none, none, none, none, none, none, none, none, none, none, none, none] [zs.map .int] = some (.nx ρ' M') := by
    rw [s_loop']
    simp only [es_cons, es_nil, e_c, obs]
    rw [show src .rng [.p (.int 4)] [zs.map .int] = some ⟨rangeP 0 4, [], true⟩ from sr]
    exact e
  rw [ss_nx x2]
  rfl
end K16
end

section
open PySem PySem.W PySem.Calls PyProof.Rows
set_option maxRecDepth 100000 in
set_option maxHeartbeats 0 in
theorem PySem.Challenge.cw_gladlydone_k16_cells_told_worse_holds : PySem.Challenge.rw_gladlydone_k16_cells_told_worse.Holds := by
  w_on; o_law
  refine HandSHeadRun.head_any (r := OpenLaw.row PySem.Challenge.rw_gladlydone_k16_cells_told_worse) (q := view (OpenLaw.row PySem.Challenge.rw_gladlydone_k16_cells_told_worse).prog [34]) (H := K16.hk) (ob := K16.ob) (M := 4000) (loose := K16.loose) (d := HandSHeadRun.topDef (OpenLaw.row PySem.Challenge.rw_gladlydone_k16_cells_told_worse).prog 34) (kwd := []) K16.ob_eq
    (by kernel_rfl) (fun s => by kernel_rfl) K16.run (by kernel_rfl) (by kernel_rfl) (by kernel_rfl) (by rfl) (by first | assumption | decide +kernel) (by decide +kernel) ⟨rfl, rfl, rfl, rfl, rfl, by decide +kernel⟩ ?hw ?hc
  case hw => w_witness2
  case hc =>
    refine LamX.walk_ofTsE (l := PySem.Challenge.rw_gladlydone_k16_cells_told_worse) (n := 63) (k := 48) (x := "script") (CX := fun _ => IX.CXF) rfl (by decide) (by kernel_rfl) ⟨rfl, by decide, by decide⟩ ?F (fun _ _ _ _ _ z => z)
    intro w mg fa h Y G hmg0
    obtain ⟨K, KX, c⟩ := Y
    have hmg : mg ("law" : PySem.Str) = some (.ref fa) := by
      have e : (HandSHeadRun.topDef (OpenLaw.row PySem.Challenge.rw_gladlydone_k16_cells_told_worse).prog 34).name = ("law" : PySem.Str) := by kernel_rfl
      rw [← e]
      exact hmg0
    obtain ⟨f1, f2, f3⟩ := K16.facts KX G c
    exact ⟨K, KX, IX.law_at (kss := []) (k := 12) (L := K16.loops) KX c (by have z := c.more; simp only [K16.ex, Bool.and_eq_true] at z; exact z.1.1) hmg (by simp [K16.tf]) f1 f2 f3 (by kernel_rfl) K16.plain⟩
end
