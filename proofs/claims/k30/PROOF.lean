import PyProof.Rows.All
import Wide.All
import OpenK.AllK
import Wide.FinOn
import HandS.ForMost
import HandS.GenList
import HandS.AnyAll
import KE.GoesMore
import KE.GoesEnum
import KE.DataMinMax
import KE.KTupSum
import HandS.Iter
import HandS.Deep
import HandS.More
import KE.DataFind
import HandS.TupMul
import PyProof.Lay0
import PyProof.P3Statements
import KE.KNestM
import HandS.TupAny
import HandS.Wide
import HandS.Zip
import HandS.IsInst
import HandS.Style
import HandS.Comp
import HandS.EndTab
import HandS.Words
import HandS.Defaults
import HandS.ExcOwn
import HandS.HeadEnd
import HandS.HeadHook1
import HandS.HeadHook2
import HandS.HeadHook3
import HandS.HeadHook4
import HandS.HeadWalk
import HandS.Head0
import HandS.Head1
import HandS.Head2
import PySem.Challenge.RW_gladlydone_k30_guarantees
set_option Elab.async false
set_option autoImplicit false
set_option linter.all false
set_option exponentiation.threshold 100000

section
set_option Elab.async false
set_option linter.all false
set_option maxRecDepth 100000
set_option maxHeartbeats 4000000
namespace GX
open PySem PySem.Spec PyProof.Rows L2 GenW

/-- while the generator sleeps its consumer changes the objects at Sa alone -/
structure Slp (Own : List V → List (Addr × Obj) → Prop) (Sa : List Addr) (ys : List V) (s s' : Shared) : Prop where
  os : s'.os = s.os
  bare : AllBare s'.gens
  keep : ∀ b o, b ∉ Sa → s.heap.get? b = some o → s'.heap.get? b = some o
  own : ∃ pl, Own ys pl ∧ pl.map (·.1) = Sa ∧ ∀ p ∈ pl, s'.heap.get? p.1 = some p.2 ∧ ∀ v, p.2.data ≠ .cell v

theorem woken {X : Cx} {Own : List V → List (Addr × Obj) → Prop} {Sa : List Addr} {ys : List V} {pl : List (Addr × Obj)} {σ : L2.St} {H : Hp} {s s' : Shared}
    (hpn : ∀ b ∈ Sa, ∀ p ∈ X.pn, p.1 ≠ b) (hA : ∀ b ∈ Sa, Apart X b) (hpl : pl.map (·.1) = Sa) (I : Inv X pl σ H s) (z : Slp Own Sa ys s s') :
    ∃ pl', Own ys pl' ∧ pl'.map (·.1) = Sa ∧ Inv X pl' σ H s' := by
  obtain ⟨z1, z2, z3, pl', z4, z5, z6⟩ := z
  have mem : ∀ b ∈ Sa, ∃ o, (b, o) ∈ pl := fun b hb => by
    rw [← hpl] at hb
    obtain ⟨p, hp, e⟩ := List.mem_map.mp hb
    exact ⟨p.2, by rw [← e]; exact hp⟩
  have at_ : ∀ b ∈ Sa, H b = none ∧ b ≠ X.env.locals ∧ b ∉ X.fs := fun b hb => by
    obtain ⟨o, hm⟩ := mem b hb
    obtain ⟨_, h2, h3, h4, _⟩ := I.pin (b, o) (List.mem_append_right _ hm)
    exact ⟨h2, h3, h4⟩
  have nt : ∀ b u, H b = some u → b ∉ Sa := fun b u q hb => by rw [(at_ b hb).1] at q; cases q
  have I0 : Inv X [] σ H s := I.pins_of fun p hp => absurd hp (by simp)
  obtain ⟨hh, g, d, t, o⟩ := s'
  have ho : o = s.os := z1
  subst ho
  have J : Inv X [] σ H { s with heap := hh, gens := g, drawn := d, toks := t } := by
    refine I0.step (g' := g) (t' := t) (d' := d) (ch := Sa) (fun b hb => ?_)
      (fun b ob _ _ hc q _ => z3 b ob hc q) (fun b ob _ _ hc q _ => ⟨ob.slots, z3 b ob hc q⟩) (fun _ _ _ _ n => n) (fun b ob hc q => ⟨ob, z3 b ob hc q⟩)
      (fun _ _ q => q) (fun _ _ _ q => q) (fun b ps q => ⟨#[], by rw [q]; simp⟩) (fun m hm => ?_) (fun b u q => ?_) z2
    · refine ⟨.inr (hA b hb).1, (hA b hb).2.1, (hA b hb).2.2, fun p hp => ?_⟩
      rcases List.mem_append.mp hp with hp | hp
      · exact hpn b hb p hp
      · exact absurd hp (by simp)
    · obtain ⟨ob, es, ep, ho, r⟩ := hm
      exact ⟨ob, es, ep, z3 _ ob (fun hb => (at_ _ hb).2.1 rfl) ho, r⟩
    · refine (I0.hok b u q).stay (fun c v hc y => z3 c v ?_ y) (fun _ y => y) fun _ _ y => y
      rcases hc with y | y
      · rw [y]; exact nt b u q
      · exact nt c _ y
  refine ⟨pl', z4, z5, J.pins_of fun p hp => ?_⟩
  have hb : p.1 ∈ Sa := by rw [← z5]; exact List.mem_map.mpr ⟨p, hp, rfl⟩
  obtain ⟨h1, h2, h3⟩ := at_ p.1 hb
  exact ⟨(z6 p hp).1, h1, h2, h3, (z6 p hp).2⟩

/-- a consumer: what its objects are behind ys, whether it goes on -/
structure Con where
  Sa : List Addr
  Own : List V → List (Addr × Obj) → Prop
  Yl : List V → Hp → Prop
  Go : List V → Prop
  Dn : List V → Hp → Prop

def CY (X : Cx) (C : Con) (a : Addr) (g : Nat) : Protocol := fun n s₀ v s kap =>
  ∃ ys x pl σ H, 1 ≤ n ∧ n + 1 + ys.length = sizeLine ∧ RelV x v ∧ (∀ p ∈ pl, s₀.heap.get? p.1 = some p.2) ∧ C.Own ys pl ∧ pl.map (·.1) = C.Sa ∧ Inv X pl σ H s ∧ s.heap.IsGen a g ∧ C.Yl (ys ++ [x]) H ∧ (C.Go (ys ++ [x]) → ∀ s', Slp C.Own C.Sa (ys ++ [x]) s s' → kap (.send .none) s')
def CF (X : Cx) (C : Con) (n : Nat) (s₀ s : Shared) : Prop := ∃ ys pl σ H, n + ys.length = sizeLine ∧ (∀ p ∈ pl, s₀.heap.get? p.1 = some p.2) ∧ C.Own ys pl ∧ pl.map (·.1) = C.Sa ∧ Inv X pl σ H s ∧ C.Dn ys H
def CR (X : Cx) (C : Con) : GenEnd := fun n s₀ r s => ((r = .ok (.ret .none) ∨ r = .ok .next) ∧ CF X C n s₀ s) ∨ ∃ e, r = .error e ∧ (fun (_ : Value) (_ : Shared) => False) e s

/-- the reading of a generator's turns -/
def tGenL (C : Con) (J : It) (g : TG) (tt : TT) (te : TE) (vs : List Nat) (σw : L2.St) (W : Nat → Nat → List V → Hp → Prop) : Prop :=
  ∀ i m ys H, W i m ys H → (J.stop i H ∧ C.Dn ys H) ∨ (J.go i H ∧ ∃ Nx : List V → Hp → Prop, (∀ ys' H', Nx ys' H' → ∃ m', m' < m ∧ W (i + 1) m' ys' H') ∧
    ∀ x H', J.yld i H x H' → g x σw H' fun σ2 H2 => wipe σ2 vs = σw ∧ tt σ2 H2 fun b H3 =>
      if b = true then te σ2 H3 fun y H4 => ys.length + 1 < sizeLine ∧ C.Yl (ys ++ [y]) H4 ∧ (C.Go (ys ++ [y]) → Nx (ys ++ [y]) H4) else Nx ys H3)

theorem gen_over {A : Around} {elt tg iter : Expr} {ifs : List Expr} {scope : Scope} {pos : Pos} {it acc : Value} {env : Env} :
    A.over (.compLoop (.GeneratorExp elt [⟨tg, iter, ifs, 0⟩] scope pos) 0 it acc env) [] = A.deeper env := by
  first
    | rfl
    | (obtain ⟨hd, d, fr, gs, u⟩ := A; simp [Around.over, Around.deeper, marksOver, frameCount, unitsOf, envsOf, guardsOf, pushEnvs, pushGuards, Code.envs, Code.env?, Code.isFrame, Code.guards, Code.isGuard, Code.weight, Code.frames, Code.isCreation, Code.isCaller, Code.cUnits])
theorem gen_over0 {A : Around} {elt tg iter : Expr} {ifs : List Expr} {scope : Scope} {pos : Pos} {it acc : Value} {env : Env} :
    A.over (.compStart (.GeneratorExp elt [⟨tg, iter, ifs, 0⟩] scope pos) 0 it acc env) [] = A.deeper env := by
  first
    | rfl
    | (obtain ⟨hd, d, fr, gs, u⟩ := A; simp [Around.over, Around.deeper, marksOver, frameCount, unitsOf, envsOf, guardsOf, pushEnvs, pushGuards, Code.envs, Code.env?, Code.isFrame, Code.guards, Code.isGuard, Code.weight, Code.frames, Code.isCreation, Code.isCaller, Code.cUnits])

section
variable {X : Cx} {C : Con} {a : Addr} {gn : Nat} {A : Around} {elt tg iter : Expr} {ifs : List Expr} {scope : Scope} {pos : Pos} {it : Addr} {fp : List Addr} {tn : Nat → Heap → Prop} {J : It} {g : TG} {tt : TT} {te : TE} {vs : List Nat} {σw : L2.St}

theorem seg_loop (hc : X.calm = true) (T : Turn X.prog X.w X.K tg J fp it tn) (pg : PG X tg g) (pt : PTs X ifs tt) (pe : PE X elt te) (hco : X.env.scope.isCoroutine = false)
    (hxe : X.xe = fun _ _ => False) (hex : X.ex = fp) (hA : A.deeper X.env = X.A) (hag : ∃ go, (a, go) ∈ X.pn ∧ (∀ h : Heap, h.get? a = some go → h.IsGen a gn))
    (hSa : ∀ b ∈ C.Sa, Apart X b ∧ (∀ p ∈ X.pn, p.1 ≠ b) ∧ b ∉ fp) (hpf : ∀ p ∈ X.pn, p.1 ∉ fp) {W : Nat → Nat → List V → Hp → Prop} (turn : tGenL C J g tt te vs σw W) (hvs : wipe σw vs = σw) :
    ∀ (m i n : Nat) (ys : List V) (s₀ s : Shared) (H : Hp) (pl : List (Addr × Obj)), n + ys.length = sizeLine → W i m ys H → (∀ p ∈ pl, s₀.heap.get? p.1 = some p.2) → C.Own ys pl → pl.map (·.1) = C.Sa → Inv X pl σw H s → tn i s.heap → (∀ b ∈ fp, H b = none) →
      Seg (model X.prog X.w) A (CR X C) (CY X C a gn) n s₀ (.compLoop (.GeneratorExp elt [⟨tg, iter, ifs, 0⟩] scope pos) 0 (.ref it) .none X.env)
        ((model X.prog X.w).den (.compLoop (.GeneratorExp elt [⟨tg, iter, ifs, 0⟩] scope pos) 0 (.ref it) .none X.env)) [] s := by
  have stat : ∀ {pl : List (Addr × Obj)} {σ' : L2.St} {H' : Hp} {s' : Shared}, pl.map (·.1) = C.Sa → Inv X pl σ' H' s' → (∀ b ∈ fp, H' b = none) → ∀ b ∈ fp, FpOk X pl H' b := fun {pl σ' H' s'} hpl I' hn b hb => by
    have hb' : b ∈ X.ex := by rw [hex]; exact hb
    refine ⟨hn b hb, (I'.ok.exf b hb').1, I'.ok.exfs b hb', .inl hb', fun x c e => (I'.ok.exf b hb').2 x c e, fun p hp e => ?_⟩
    rcases List.mem_append.mp hp with hp | hp
    · exact hpf p hp (by rw [e]; exact hb)
    · exact (hSa p.1 (by rw [← hpl]; exact List.mem_map.mpr ⟨p, hp, rfl⟩)).2.2 (by rw [e]; exact hb)
  intro m
  induction m using Nat.strongRecOn with
  | ind m ih =>
    intro i n ys s₀ s H pl hn hw h0 hown hpl I st hfp
    show Seg _ A _ _ _ s₀ _ ((compTurn (.GeneratorExp elt [⟨tg, iter, ifs, 0⟩] scope pos) 0 (.ref it) .none X.env).onRaise (leaving X.env)) [] s
    rw [compTurn_gen, Sem.onRaise_eq_wrap]
    refine seg_bind_wrap (wpAny_standAt ?_)
    rcases turn i m ys H hw with ⟨stop, dn⟩ | ⟨go, Nx, hNx, step⟩
    · have td := T.done X rfl rfl rfl hc i pl s σw H (fun _ _ => False) I (stat hpl I hfp) st stop
      refine seg_bind_wrap ?_
      rw [gen_over, hA]
      refine thnF td fun r s1 ⟨hr, I1⟩ => ?_
      subst hr
      exact seg_end (.ok .next) (.inl ⟨.inr rfl, ys, pl, σw, H, hn, h0, hown, hpl, I1, dn⟩)
    · have ti := T.item X rfl rfl rfl hc i pl s σw H (fun _ _ => False) I (stat hpl I hfp) st go
      refine seg_bind_wrap ?_
      rw [gen_over, hA]
      refine thnF ti fun r s1 ⟨u, hr, h1⟩ => ?_
      subst hr
      refine seg_bind_wrap ?_
      rw [gen_over, hA]
      refine thnF h1 fun _ s2 ⟨x, H2, I2, r2, y2, st2, n2⟩ => ?_
      have I2' := I2.pinned (stat hpl I2 n2) (T.obj _ _ st2)
      refine seg_bind_wrap ?_
      rw [gen_over, hA]
      have hrun := pg.run _ s2 _ H2 x u _ I2' r2 (step x H2 y2)
      rw [hxe] at hrun
      refine thnF hrun fun _ s3 ⟨σ3, H3, I3, hw3, q3⟩ => ?_
      refine seg_bind_wrap ?_
      rw [gen_over, hA]
      have hrun2 := pt.run _ s3 σ3 H3 _ I3 q3
      rw [hxe] at hrun2
      refine thnF hrun2 fun b s4 ⟨H4, I4, q4⟩ => ?_
      -- the turn's end
      have hl3 : σw.length = σ3.length := by rw [← hw3, wipe_length]
      have back : ∀ {pl' : List (Addr × Obj)} {s' : Shared} {H' : Hp}, Inv X pl' σ3 H' s' → Inv X pl' σw H' s' := fun {pl' s' H'} I' => I'.weak hl3 fun j v e => by
        rw [← hw3] at e
        exact (wipe_some e).1
      have pin' : ∀ {s' : Shared} {H' : Hp}, Inv X (pl ++ pinsAt fp s2.heap) σ3 H' s' → ∀ b ∈ fp, ∀ o, s2.heap.get? b = some o → s'.heap.get? b = some o ∧ H' b = none := fun {s' H'} I' b hb o e =>
        let z := I'.pin (b, o) (List.mem_append_right _ (List.mem_append_right _ (mem_pinsAt hb e)))
        ⟨z.1, z.2.1⟩
      have fpn : ∀ {s' : Shared} {H' : Hp}, Inv X (pl ++ pinsAt fp s2.heap) σ3 H' s' → ∀ b ∈ fp, H' b = none := fun {s' H'} I' b hb => by
        obtain ⟨o, e, _⟩ := T.obj _ _ st2 b hb
        exact (pin' I' b hb o e).2
      cases b with
      | false =>
        simp only [Bool.false_eq_true, if_false] at q4 ⊢
        obtain ⟨m', hm, w'⟩ := hNx ys H4 q4
        exact seg_again rfl (ih m' hm (i + 1) n ys s₀ s4 H4 pl hn w' h0 hown hpl (back I4).unpinned (T.keep _ _ _ st2 fun b hb o e => (pin' I4 b hb o e).1) (fpn I4))
      | true =>
        simp only [if_true] at q4 ⊢
        have hy : ∀ v, yieldOut X.env v = yieldValue v := fun v => by simp only [yieldOut, hco, Bool.false_eq_true, if_false]
        simp only [hy]
        rw [Sem.bind_eq_wrap', Sem.bind_eq_wrap', Sem.wrap_wrap, Sem.wrap_wrap]
        refine seg_wrap ?_
        rw [gen_over, hA]
        have hrun3 := pe.run _ s4 σ3 H4 _ I4 q4
        rw [hxe] at hrun3
        refine thnF hrun3 fun v s5 ⟨y, H5, I5, r5, hlt, yl, cont⟩ => ?_
        obtain ⟨n, rfl⟩ : ∃ k, n = k + 1 := ⟨n - 1, by omega⟩
        have hgen : s5.heap.IsGen a gn := by
          obtain ⟨go, hm, hg⟩ := hag
          exact hg _ (I5.pin (a, go) (List.mem_append_left _ hm)).1
        refine seg_at (seg_yield rfl rfl rfl ⟨ys, y, pl, σ3, H5, by omega, hn, r5, h0, hown, hpl, I5.unpinned, hgen, yl, fun hgo s6 z => ?_⟩)
        obtain ⟨pl', o6, e6, I6⟩ := woken (fun b hb => (hSa b hb).2.1) (fun b hb => (hSa b hb).1) hpl I5.unpinned z
        obtain ⟨m', hm, w'⟩ := hNx (ys ++ [y]) H5 (cont hgo)
        refine seg_again rfl (ih m' hm (i + 1) n (ys ++ [y]) s6 s6 H5 pl' ?_ w' (fun p hp => (I6.pin p (List.mem_append_right _ hp)).1) o6 e6 (back I6) (T.keep _ _ _ st2 fun b hb o e => z.keep b o (fun hz => (hSa b hz).2.2 hb) (pin' I5 b hb o e).1) (fpn I5))
        rw [List.length_append, List.length_singleton]; omega
end
end GX
end

section
set_option Elab.async false
set_option linter.all false
set_option maxRecDepth 100000
set_option maxHeartbeats 4000000
namespace GX
open PySem PySem.Spec PyProof.Rows L2 GenW

abbrev gEnv (scope : Scope) (cells : List (Str × Addr)) (L : Addr) (code : Value) (bi : Addr) (env : Env) : Env :=
  newEnv scope L env.globals cells (env.qual ++ "<genexpr>.") none code none bi

theorem newEnv_gen {M : Model} {A : Around} {E : Value → Shared → Prop} {s : Shared} {scope : Scope} {closure : List (Str × Addr)} {env : Env} {code itv : Value} {bi : Addr} {Q : Env → Shared → Prop}
    (hk : scope.kind = .function) (h0 : scope.names.lookup (".0" : Str) = some NameKind.local)
    (h : ∀ h' tk, (∃ m, h'.Ns s.heap.objs.size m) → Heap.SameBut s.heap.objs.size (pushCells (s.heap.push { cls := .type "frame", data := .dict #[] }) scope.names) h' →
      Q (gEnv scope (cellsFrom (s.heap.objs.size + 1) scope.names closure) s.heap.objs.size code bi env) { s with heap := h', toks := tk }) :
    wpAny M A (newFunctionEnv scope env.globals closure [(".0", itv)] (env.qual ++ "<genexpr>.") none code none bi) Q E s := by
  simp only [newFunctionEnv, Option.isSome_none, Bool.false_eq_true, if_false]
  refine wpAny_bind (wpAny_alloc ?_)
  refine wpAny_bind (wpAny_layCells _ (fun name kind cells => by cases hkc : kind == NameKind.cell <;> simp [hkc]) _ _ _ _ ?_)
  rw [show ({ s with heap := s.heap.push { cls := .type "frame", data := .dict #[] } } : Shared).heap.objs.size = s.heap.objs.size + 1 from Heap.size_push ..]
  rw [List.forIn_cons]
  refine wpAny_bind (wpAny_bind (wpAny_bind (wpAny_storeName_local (m := fun _ => none) h0 ((Heap.Ns.new s.heap (.type "frame")).keeps (pushCells_keeps _ _)) (fun h' hn hs => ?_) (by rw [hk]; rfl))))
  refine wpAny_pure ?_
  simp only [List.forIn_nil]
  refine wpAny_pure (wpAny_pure ?_)
  exact h h' _ ⟨_, hn⟩ hs

/-- the context of a generator's frame -/
abbrev Cxg (X : Cx) (A : Around) (s : Shared) (H : Hp) (scope : Scope) (cenv : Env) (fp : List Addr) (pn : List (Addr × Obj)) : Cx :=
  { X with s_0 := s, H_0 := H, env := cenv, outer := X.stack, stack := cenv :: X.stack, A := A.deeper cenv, ex := fp, fn := fun x => scope.names.lookup x == some .cell, pn := pn, xe := fun _ _ => False }

/-- the names of a generator's scope: its own (with their places), or captured -/
structure GenOk (N : List Str) (sc scope : Scope) (own : List (Str × Nat)) : Prop where
  blk : BlkOk N sc scope own
  co : scope.isCoroutine = false
  dot : scope.names.lookup (".0" : Str) = some NameKind.local

section
variable {X : Cx} {pins : List (Addr × Obj)} {σ : L2.St} {H : Hp} {s : Shared}

theorem gen_start {A : Around} {scope : Scope} {own : List (Str × Nat)} {fp : List Addr} {code : Value} {bi : Addr} {pn pl : List (Addr × Obj)} {s6 : Shared} {h' : Heap}
    (I : Inv X pins σ H s) (ok : GenOk X.N X.env.scope scope own) (hN : X.N.Nodup) (hfp : ∀ b ∈ fp, FpOk X pins H b ∧ b < s.heap.objs.size)
    (hA : A.frames = some X.stack) (hh : A.handled = none) (hbi : bi = builtinsNs)
    (hns : ∃ m, h'.Ns s.heap.objs.size m) (hsb : Heap.SameBut s.heap.objs.size (pushCells (s.heap.push { cls := .type "frame", data := .dict #[] }) scope.names) h')
    (k6 : ∀ b o, h'.get? b = some o → s6.heap.get? b = some o) (os6 : s6.os = s.os) (b6 : AllBare s6.gens)
    (hpin : ∀ p ∈ pn ++ pl, s6.heap.get? p.1 = some p.2 ∧ h'.objs.size ≤ p.1 ∧ ∀ v, p.2.data ≠ .cell v) :
    Inv (Cxg X A s H scope (gEnv scope (cellsFrom (s.heap.objs.size + 1) scope.names (cloFrom X.env.cells scope.names [])) s.heap.objs.size code bi X.env) fp pn) pl (wipe σ (own.map (·.2))) H s6 := by
  have hfree : ∀ y ∈ scope.names, y.2 = .free → ∃ c, X.env.cells.lookup y.1 = some c := fun y hy e => by
    rcases ok.blk.free y hy e with k | k
    · exact I.ok.has _ (.inl k)
    · exact I.ok.has _ (.inr k)
  generalize hcenv : gEnv scope (cellsFrom (s.heap.objs.size + 1) scope.names (cloFrom X.env.cells scope.names [])) s.heap.objs.size code bi X.env = cenv
  have szle : (pushCells (s.heap.push { cls := .type "frame", data := .dict #[] }) scope.names).objs.size = h'.objs.size := hsb.1.symm
  have szs : s.heap.objs.size + 1 ≤ h'.objs.size := by
    rw [← szle, ← Heap.size_push s.heap { cls := .type "frame", data := .dict #[] }]
    exact pushCells_size _ _
  have kp1 : ∀ b o, b ≠ s.heap.objs.size → (pushCells (s.heap.push { cls := .type "frame", data := .dict #[] }) scope.names).get? b = some o → h'.get? b = some o := fun b o hb e => (hsb.2 b hb).trans e
  have kp : ∀ b o, s.heap.get? b = some o → s6.heap.get? b = some o := fun b o e =>
    k6 b o (kp1 b o (Nat.ne_of_lt (Heap.lt_size e)) (pushCells_keeps _ _ _ _ (Heap.get?_push_of_some _ e)))
  have hL : cenv.locals = s.heap.objs.size := by rw [← hcenv]; rfl
  have hcl : cenv.cells = cellsFrom (s.heap.objs.size + 1) scope.names (cloFrom X.env.cells scope.names []) := by rw [← hcenv]; rfl
  have hsc : cenv.scope = scope := by rw [← hcenv]; rfl
  rw [← Heap.size_push s.heap { cls := .type "frame", data := .dict #[] }] at hcl
  have cm : ∀ {y c}, (y, c) ∈ cloFrom X.env.cells scope.names [] → X.env.cells.lookup y = some c ∧ c < s.heap.objs.size := fun {y c} hm => by
    rcases cloFrom_mem hm with hm | ⟨h1, rfl⟩
    · cases hm
    · obtain ⟨c, hc⟩ := hfree _ h1 rfl
      rw [hc]
      obtain ⟨w, z⟩ := I.cell _ _ hc
      exact ⟨rfl, z.lt⟩
  have mem : ∀ {y c}, cenv.cells.lookup y = some c → (X.env.cells.lookup y = some c ∧ c < s.heap.objs.size) ∨ (s.heap.objs.size + 1 ≤ c ∧ CellAt s6.heap c none) := fun {y c} e => by
    rw [hcl] at e
    rcases cells_mem (PySem.mem_of_lookup e) with hm | ⟨_, h2, h3⟩
    · exact .inl (cm hm)
    · rw [Heap.size_push] at h2
      obtain ⟨oc, e1, e2⟩ := h3
      exact .inr ⟨h2, oc, k6 _ _ (kp1 _ _ (Nat.ne_of_gt h2) e1), e2⟩
  have look : ∀ {y}, scope.names.lookup y = some .free → ∃ c, cenv.cells.lookup y = some c ∧ X.env.cells.lookup y = some c := fun {y} hl => by
    have hy : (y, NameKind.free) ∈ scope.names := PySem.mem_of_lookup hl
    obtain ⟨c', e'⟩ := mem_lookup (cells_acc (names := scope.names) (n := (s.heap.push { cls := .type "frame", data := .dict #[] }).objs.size) (cloFrom_has (cells := X.env.cells) (acc := []) hy))
    rw [← hcl] at e'
    refine ⟨c', e', ?_⟩
    rw [hcl] at e'
    rcases cells_mem (PySem.mem_of_lookup e') with hm | ⟨h1, _, _⟩
    · exact (cm hm).1
    · have := ok.blk.uniq _ h1
      rw [hl] at this; cases this
  have okB : (Cxg X A s H scope cenv fp pn).Ok := by
    refine ⟨I.ok.mod, by show cenv.scope.kind = _; rw [hsc]; exact ok.blk.kind, by show cenv.globals = _; rw [← hcenv]; exact I.ok.glob, by show cenv.builtins = _; rw [← hcenv]; exact hbi, by show s.heap.objs.size ≤ cenv.locals; rw [hL]; exact Nat.le_refl _,
      fun y z c e1 e2 => ?_, fun y hy => ?_, fun y c z e => ?_, fun _ => hh, ?_, .inr ⟨rfl, by show cenv.frame = some cenv.locals; rw [← hcenv]; rfl⟩, fun b hb => ⟨?_, fun y c e z => ?_⟩, I.bs, Nat.le_trans I.ok.bsz I.sz, fun b o e hb => ?_, fun b hb z => ?_, I.stack, I.stkFree⟩
    · have e1 : cenv.cells.lookup y = some c := e1
      have e2 : cenv.cells.lookup z = some c := e2
      rw [hcl] at e1 e2
      refine cells_inj (fun p hp => ?_) (fun y z c a b => I.ok.inj y z c (cm a).1 (cm b).1) (PySem.mem_of_lookup e1) (PySem.mem_of_lookup e2)
      rw [Heap.size_push]
      exact Nat.lt_succ_of_lt (cm (y := p.1) (c := p.2) hp).2
    · show ∃ c, cenv.cells.lookup y = some c
      have hy' : scope.names.lookup y = some .cell ∨ scope.names.lookup y = some .free := by
        have hy : cenv.scope.names.lookup y = some .cell ∨ cenv.scope.names.lookup y = some .free := hy
        rw [hsc] at hy; exact hy
      rcases hy' with e | e
      · obtain ⟨c, hm⟩ := cells_has (n := (s.heap.push { cls := .type "frame", data := .dict #[] }).objs.size) (acc := cloFrom X.env.cells scope.names []) (PySem.mem_of_lookup e)
        obtain ⟨c', e'⟩ := mem_lookup hm
        exact ⟨c', by rw [hcl]; exact e'⟩
      · obtain ⟨c, h1, _⟩ := look e
        exact ⟨c, h1⟩
    · have z : (scope.names.lookup y == some NameKind.cell) = true := z
      have z : scope.names.lookup y = some .cell := by simpa using z
      have e : cenv.cells.lookup y = some c := e
      rw [hcl] at e
      rcases cells_mem (PySem.mem_of_lookup e) with hm | ⟨_, h2, _⟩
      · rcases cloFrom_mem hm with hm | ⟨h1, _⟩
        · cases hm
        · have q := ok.blk.uniq _ h1
          rw [z] at q; cases q
      · rw [Heap.size_push] at h2
        exact Nat.le_of_succ_le h2
    · show (A.deeper cenv).frames = some (cenv :: X.stack)
      unfold Around.deeper
      rw [hA]; rfl
    · show b ≠ cenv.locals
      rw [hL]; exact Nat.ne_of_lt (hfp b hb).2
    · have e : cenv.cells.lookup y = some c := e
      rcases mem e with ⟨h1, _⟩ | ⟨h1, _⟩
      · exact (hfp b hb).1.2.2.2.2.1 y c h1 z
      · have h2 : s.heap.objs.size + 1 ≤ b := by rw [← z]; exact h1
        exact absurd (Nat.lt_of_lt_of_le (hfp b hb).2 (Nat.le_of_succ_le h2)) (Nat.lt_irrefl _)
    · rcases (hfp b hb).1.2.2.2.1 with z | z
      · exact I.ok.noex b o e z
      · exact absurd (Nat.lt_of_lt_of_le (Heap.lt_size e) (Nat.le_trans I.ok.bsz z)) (Nat.lt_irrefl _)
    · rcases List.mem_cons.mp (I.stkSub b z) with z | z
      · exact (hfp b hb).1.2.1 z
      · exact (hfp b hb).1.2.2.1 z
  have young : ∀ b, s.heap.objs.size ≤ b → H b = none ∧ b ∉ frs X.stack := fun b hb => by
    refine ⟨I.hok.fresh hb, fun hm => ?_⟩
    obtain ⟨_, o, ho, _⟩ := I.stack.mem hm
    exact absurd (Nat.lt_of_lt_of_le (Heap.lt_size ho) hb) (Nat.lt_irrefl _)
  refine ⟨okB, os6, b6, Un.kept kp, ?_, fun y c e => ?_, ?_, fun y c e => ?_, fun p hp => ?_, I.hok.kept kp, by rw [wipe_length]; exact I.len⟩
  · obtain ⟨m, hm⟩ := hns
    refine ⟨m, ?_, fun i y av e1 e2 e3 => ?_⟩
    · show Heap.Ns _ cenv.locals _
      rw [hL]
      exact hm.keeps k6
    · obtain ⟨e2, hne⟩ := wipe_some e2
      have hfr : scope.names.lookup y = some .free := by
        have e3' : Vis scope y := by
          have e3 : Vis cenv.scope y := e3
          rw [hsc] at e3; exact e3
        have no : ∀ k', scope.names.lookup y = some k' → ¬ (k' = .local ∨ k' = .cell) := fun k' e hh => by
          rcases ok.blk.own _ (PySem.mem_of_lookup e) hh with e' | e'
          · obtain ⟨p, hp, hpy⟩ := List.mem_map.mp e'
            have e3 := ok.blk.ix p hp
            have : p.1 = y := hpy
            rw [this] at e3
            exact hne (List.mem_map.mpr ⟨p, hp, nodup_ix hN e3 e1⟩)
          · exact e' (List.mem_of_getElem? e1)
        rcases e3' with e | e | e
        · exact absurd (.inl rfl) (no _ e)
        · exact absurd (.inr rfl) (no _ e)
        · exact e
      obtain ⟨m, hn, hl⟩ := I.loc
      have hvis : Vis X.env.scope y := (ok.blk.free _ (PySem.mem_of_lookup hfr) rfl).elim (fun k => .inr (.inl k)) (fun k => .inr (.inr k))
      obtain ⟨w, r, q⟩ := hl i y av e1 e2 hvis
      refine ⟨w, r, .inr ⟨.inr (by show cenv.scope.names.lookup y = _; rw [hsc]; exact hfr), ?_⟩⟩
      obtain ⟨c, h1, h2⟩ := look hfr
      rcases q with ⟨k, _⟩ | ⟨_, c', e', z⟩
      · have k : X.env.scope.names.lookup y = some .local := k
        rcases ok.blk.free _ (PySem.mem_of_lookup hfr) rfl with k' | k' <;> rw [show X.env.scope.names.lookup y = _ from k'] at k <;> cases k
      · rw [h2] at e'; cases e'
        exact ⟨c, h1, z.keeps kp⟩
  · have e : cenv.cells.lookup y = some c := e
    rcases mem e with ⟨h1, _⟩ | ⟨_, z⟩
    · obtain ⟨w, z⟩ := I.cell y c h1
      exact ⟨w, z.keeps kp⟩
    · exact ⟨_, z⟩
  · show H cenv.locals = none
    rw [hL]; exact I.hok.fresh (Nat.le_refl _)
  · have e : cenv.cells.lookup y = some c := e
    rcases mem e with ⟨h1, _⟩ | ⟨h1, _⟩
    · exact I.freeC y c h1
    · exact I.hok.fresh (Nat.le_of_succ_le h1)
  · obtain ⟨h1, h2, h3⟩ := hpin p hp
    obtain ⟨y1, y2⟩ := young p.1 (by omega)
    refine ⟨h1, y1, ?_, y2, h3⟩
    show p.1 ≠ cenv.locals
    rw [hL]
    exact fun e => by have h2' : h'.objs.size ≤ s.heap.objs.size := by rw [← e]; exact h2
                      omega
end

section
variable {X : Cx} {C : Con} {a : Addr} {gn : Nat} {A : Around} {elt tg iter : Expr} {ifs : List Expr} {scope : Scope} {pos : Pos} {it : Addr} {fp : List Addr} {tn : Nat → Heap → Prop} {J : It} {g : TG} {tt : TT} {te : TE} {vs : List Nat} {σw : L2.St}
theorem seg_first (hc : X.calm = true) (T : Turn X.prog X.w X.K tg J fp it tn) (pg : PG X tg g) (pt : PTs X ifs tt) (pe : PE X elt te) (hco : X.env.scope.isCoroutine = false)
    (hxe : X.xe = fun _ _ => False) (hex : X.ex = fp) (hA : A.deeper X.env = X.A) (hag : ∃ go, (a, go) ∈ X.pn ∧ (∀ h : Heap, h.get? a = some go → h.IsGen a gn))
    (hSa : ∀ b ∈ C.Sa, Apart X b ∧ (∀ p ∈ X.pn, p.1 ≠ b) ∧ b ∉ fp) (hpf : ∀ p ∈ X.pn, p.1 ∉ fp) {W : Nat → Nat → List V → Hp → Prop} (turn : tGenL C J g tt te vs σw W) (hvs : wipe σw vs = σw)
    {m : Nat} {s : Shared} {H : Hp} {pl : List (Addr × Obj)} (hw : W 0 m [] H) (hown : C.Own [] pl) (hpl : pl.map (·.1) = C.Sa) (I : Inv X pl σw H s) (st : tn 0 s.heap) (hfp : ∀ b ∈ fp, H b = none) :
      Seg (model X.prog X.w) A (CR X C) (CY X C a gn) sizeLine s (.compStart (.GeneratorExp elt [⟨tg, iter, ifs, 0⟩] scope pos) 0 (.ref it) .none X.env)
        ((model X.prog X.w).den (.compStart (.GeneratorExp elt [⟨tg, iter, ifs, 0⟩] scope pos) 0 (.ref it) .none X.env)) [] s := by
  have loop := seg_loop (pos := pos) (scope := scope) (iter := iter) hc T pg pt pe hco hxe hex hA hag hSa hpf turn hvs m 0 sizeLine [] s s H pl (Nat.add_zero _) hw (fun p hp => (I.pin p (List.mem_append_right _ hp)).1) hown hpl I st hfp
  show Seg _ A _ _ _ s _ ((compStart (.GeneratorExp elt [⟨tg, iter, ifs, 0⟩] scope pos) 0 (.ref it) .none X.env).onRaise (leaving X.env)) [] s
  unfold compStart
  rw [Sem.onRaise_eq_wrap]
  show Seg _ A _ _ _ s _ ((ask >>= _).wrap _ _ _ _) [] s
  refine seg_bind_wrap (wpAny_askSetting ?_)
  split
  · exact seg_again rfl loop
  · first
      | exact seg_bind_wrap (wpAny_rule (seg_bind_wrap (wpAny_standAt (seg_bind_wrap (T.self _ 0 s _ _ st (seg_again rfl loop))))))
      | (refine seg_bind_wrap (wpAny_rule ?_); show Seg _ A _ _ _ s _ ((standAt iter.pos >>= _).wrap _ _ _ _) [] s; exact seg_bind_wrap (wpAny_standAt (seg_bind_wrap (T.self _ 0 s _ _ st (seg_again rfl loop)))))
end
end GX
end

section
set_option Elab.async false
set_option linter.all false
set_option maxRecDepth 100000
set_option maxHeartbeats 4000000
namespace GX
open PySem PySem.Spec PyProof.Rows L2 GenW

/-- a code object whose table of inner codes is at P -/
def CodeObj (o : Obj) (P : Addr) : Prop :=
  ∃ vs file tf flags tg inF text tt, o.cls = .type "code" ∧ o.data = .fields vs ∧ vs[11]? = some (.ref P) ∧ vs.getD 11 .none = .ref P ∧ vs.getD 18 .none = .str file tf ∧
    vs.getD 7 .none = .int flags tg ∧ vs.getD 9 .none = .bool inF ∧ vs.getD 10 .none = .int text tt
/-- the code that runs: the module's own, or one that was made by the run -/
def CodeAt (base : Heap) (H : Hp) (cv : Value) : Prop :=
  ∃ c P, cv = .ref c ∧ c ≠ P ∧ (∃ ps, H P = some (.tbl ps)) ∧ (PySem.W.CodeHd base c P ∨ ∃ o, H c = some (.ext fun h => h.get? c = some o) ∧ CodeObj o P)
/-- every table that is tracked is a good one -/
def TabAll (H : Hp) : Prop := ∀ P ps, H P = some (.tbl ps) → TriplesOk ps.toList ∧ ∀ pos cv, codeAmong pos ps.toList = some cv →
  ∃ c P' o, cv = .ref c ∧ c ≠ P' ∧ H c = some (.ext fun h => h.get? c = some o) ∧ CodeObj o P' ∧ ∃ ps', H P' = some (.tbl ps')
/-- what was tracked stays, but what stands at al, and tables that grow -/
def Grow (al : List Addr) (H H' : Hp) : Prop := ∀ b o, H b = some o → b ∈ al ∨ H' b = some o ∨ ((∃ ps, o = .tbl ps) ∧ ∃ ps', H' b = some (.tbl ps'))
theorem Grow.refl {al : List Addr} (H : Hp) : Grow al H H := fun _ _ e => .inr (.inl e)
theorem Grow.trans {al : List Addr} {H H1 H2 : Hp} (a : Grow al H H1) (b : Grow al H1 H2) : Grow al H H2 := fun c o e => by
  rcases a c o e with h | h | ⟨h, ps', h'⟩
  · exact .inl h
  · exact b c o h
  · rcases b c _ h' with h2 | h2 | ⟨_, h2⟩
    · exact .inl h2
    · exact .inr (.inr ⟨h, ps', h2⟩)
    · exact .inr (.inr ⟨h, h2⟩)
theorem Grow.mono {al al' : List Addr} {H H1 : Hp} (a : Grow al H H1) (h : ∀ b ∈ al, b ∈ al') : Grow al' H H1 := fun c o e => by
  rcases a c o e with h1 | h1 | h1
  · exact .inl (h _ h1)
  · exact .inr (.inl h1)
  · exact .inr (.inr h1)
theorem CodeAt.grow {base : Heap} {H H' : Hp} {cv : Value} {al : List Addr} (x : CodeAt base H cv) (g : Grow al H H') (na : ∀ b ∈ al, ∃ xs, H b = some (.lst xs)) : CodeAt base H' cv := by
  obtain ⟨c, P, e, hne, ⟨ps, hP⟩, h⟩ := x
  have key : ∀ b o, H b = some o → (∀ xs, o ≠ .lst xs) → H' b = some o ∨ ((∃ ps, o = .tbl ps) ∧ ∃ ps', H' b = some (.tbl ps')) := fun b o hb hn => by
    rcases g b o hb with h1 | h1 | h1
    · obtain ⟨xs, h2⟩ := na b h1
      rw [hb] at h2; cases h2
      exact absurd rfl (hn xs)
    · exact .inl h1
    · exact .inr h1
  refine ⟨c, P, e, hne, ?_, ?_⟩
  · rcases key P _ hP (fun xs z => by cases z) with h1 | ⟨_, h1⟩
    · exact ⟨ps, h1⟩
    · exact h1
  · rcases h with h | ⟨o, ho, hc⟩
    · exact .inl h
    · rcases key c _ ho (fun xs z => by cases z) with h1 | ⟨⟨ps', h1⟩, _⟩
      · exact .inr ⟨o, h1, hc⟩
      · cases h1

/-- the module's builtins -/
def BmAt (base : Heap) (mg : Str → Option Value) : Prop := ∃ (bm : Addr) (ob : Obj), mg "__builtins__" = some (.ref bm) ∧ bm ≠ builtinsNs ∧ base.get? bm = some ob ∧ ob.cls = .type "module" ∧ ob.dict = some builtinsNs ∧ ob.data = .plain

section
variable {X : Cx} {pins : List (Addr × Obj)} {σ : L2.St} {H : Hp} {s : Shared}
theorem CodeAt.hd {cv : Value} {H : Hp} (x : CodeAt X.base H cv) (I : Inv X pins σ H s) : ∃ c P ps, cv = .ref c ∧ H P = some (.tbl ps) ∧ PySem.W.CodeHd s.heap c P := by
  obtain ⟨c, P, e, hne, ⟨ps, hP⟩, h⟩ := x
  refine ⟨c, P, ps, e, hP, ?_⟩
  rcases h with h | ⟨o, ho, vs, file, tf, flags, tg, inF, text, tt, h1, h2, h3, h4, h5, h6, h7, h8⟩
  · exact h.keeps I.bk
  · have q := (I.hok c _ ho).1
    exact ⟨o, vs, file, tf, flags, tg, inF, text, tt, q, h1, h2, h3, h4, h5, h6, h7, h8, hne⟩

/-- a new code has come into the table at P -/
theorem Inv.coded {P c' P' : Addr} {ps : Array Value} {l col : Value} {o' : Obj} {h' : Heap} {tk : Nat} (I : Inv X pins σ H s) (hP : H P = some (.tbl ps)) (hx : Heap.ExtBut P s.heap h')
    (hc : s.heap.objs.size ≤ c') (hP' : s.heap.objs.size ≤ P') (hne : c' ≠ P') (ho : h'.get? c' = some o') (ht : h'.get? P' = some { cls := .none, data := .fields #[] })
    (hT : h'.get? P = some { cls := .none, data := .fields (ps ++ #[l, col, .ref c']) }) :
    Inv X pins σ (upd (upd (upd H P (.tbl (ps ++ #[l, col, .ref c']))) c' (.ext fun h => h.get? c' = some o')) P' (.tbl #[])) { s with heap := h', toks := tk } := by
  have lt : ∀ b u, H b = some u → b < s.heap.objs.size := fun b u e => I.hok.lt e
  have hPlt := lt P _ hP
  have n1 : ∀ {b : Addr}, b < s.heap.objs.size → b ≠ c' := fun h => Nat.ne_of_lt (Nat.lt_of_lt_of_le h hc)
  have n2 : ∀ {b : Addr}, b < s.heap.objs.size → b ≠ P' := fun h => Nat.ne_of_lt (Nat.lt_of_lt_of_le h hP')
  have old : ∀ {b : Addr}, b < s.heap.objs.size → b ≠ P → upd (upd (upd H P (.tbl (ps ++ #[l, col, .ref c']))) c' (.ext fun h => h.get? c' = some o')) P' (.tbl #[]) b = H b := fun hb hn => by
    rw [upd_ne (n2 hb), upd_ne (n1 hb), upd_ne hn]
  have nP : ∀ {b u}, H b = some u → (∀ q, u ≠ .tbl q) → b ≠ P := fun e q z => by
    rw [z, hP] at e; exact q _ (Option.some.inj e).symm
  have nN : ∀ {b}, H b = none → b ≠ P := fun e z => by rw [z, hP] at e; cases e
  refine I.un (t' := tk) ⟨fun b o e n _ _ => hx b o (nN n) e, fun b o e n _ _ => ⟨o.slots, hx b o (nN n) e⟩, fun b o e n _ => by rw [old (Heap.lt_size e) (nN n)]; exact n, fun b o e _ => ?_,
    fun b xs e => by rw [old (lt b _ e) (nP e fun q z => by cases z)]; exact e, fun b o u e => by rw [old (lt b _ e) (nP e fun q z => by cases z)]; exact e, fun b qs e => ?_⟩ (fun b u e => ?_)
  · by_cases hb : b = P
    · rw [hb]; exact ⟨_, hT⟩
    · exact ⟨o, hx b o hb e⟩
  · by_cases hb : b = P
    · rw [hb, hP] at e; cases e
      rw [hb, upd_ne (n2 hPlt), upd_ne (n1 hPlt), upd_same]
      exact ⟨_, rfl⟩
    · rw [old (lt b _ e) hb, e]
      exact ⟨#[], by simp⟩
  · by_cases h1 : b = P'
    · subst h1
      rw [upd_same] at e; cases e
      exact ht
    · rw [upd_ne h1] at e
      by_cases h2 : b = c'
      · subst h2
        rw [upd_same] at e; cases e
        exact ⟨ho, ⟨_, ho⟩, fun h1 h2 q k => k _ q⟩
      · rw [upd_ne h2] at e
        by_cases h3 : b = P
        · subst h3
          rw [upd_same] at e; cases e
          exact hT
        · rw [upd_ne h3] at e
          refine (I.hok b u e).stay (fun d v hd q => hx d v ?_ q) (fun d q => by rw [old (lt d _ q) (nP q fun q z => by cases z)]; exact q) fun d xs q => by rw [old (lt d _ q) (nP q fun q z => by cases z)]; exact q
          rcases hd with z | z
          · rw [z]; exact h3
          · exact nP z fun q z => by cases z

/-- the generator stands, not begun -/
structure MadeAt (X : Cx) (pins : List (Addr × Obj)) (σ : L2.St) (H : Hp) (J : It) (elt tg iter : Expr) (ifs : List Expr) (scope : Scope) (own : List (Str × Nat)) (pos : Pos) (a : Addr) (gn : Nat) (s5 : Shared) : Prop where
  inv : Inv X pins σ H s5
  isgen : s5.heap.IsGen a gn
  lt : a < s5.heap.objs.size
  run : ∃ (s4 : Shared) (cl : List (Str × Addr)) (L : Addr) (cv : Value) (it : Addr) (fp : List Addr) (tn : Nat → Heap → Prop) (go : Obj),
    s5.gens[gn]? = some (.fresh (.compStart (.GeneratorExp elt [⟨tg, iter, ifs, 0⟩] scope pos) 0 (.ref it) .none (gEnv scope cl L cv builtinsNs X.env))) ∧ CodeAt X.base H cv ∧
    ∀ (C : Con) (Ac : Around) (s6 : Shared) (pl : List (Addr × Obj)) (g : TG) (tt : TT) (te : TE) (W : Nat → Nat → List V → Hp → Prop) (m : Nat), Ac.handled = none → Ac.frames = some X.stack →
      (∀ b o, s5.heap.get? b = some o → s6.heap.get? b = some o) → s6.os = s5.os → AllBare s6.gens → C.Own [] pl → pl.map (·.1) = C.Sa →
      (∀ p ∈ pl, s6.heap.get? p.1 = some p.2 ∧ s5.heap.objs.size ≤ p.1 ∧ ∀ v, p.2.data ≠ .cell v) →
      PG (Cxg X Ac s4 H scope (gEnv scope cl L cv builtinsNs X.env) fp [(a, go)]) tg g → PTs (Cxg X Ac s4 H scope (gEnv scope cl L cv builtinsNs X.env) fp [(a, go)]) ifs tt → PE (Cxg X Ac s4 H scope (gEnv scope cl L cv builtinsNs X.env) fp [(a, go)]) elt te →
      tGenL C J g tt te (own.map (·.2)) (wipe σ (own.map (·.2))) W → W 0 m [] H →
      Seg (model X.prog X.w) Ac (CR (Cxg X Ac s4 H scope (gEnv scope cl L cv builtinsNs X.env) fp [(a, go)]) C) (CY (Cxg X Ac s4 H scope (gEnv scope cl L cv builtinsNs X.env) fp [(a, go)]) C a gn) sizeLine s6
        (.compStart (.GeneratorExp elt [⟨tg, iter, ifs, 0⟩] scope pos) 0 (.ref it) .none (gEnv scope cl L cv builtinsNs X.env))
        ((model X.prog X.w).den (.compStart (.GeneratorExp elt [⟨tg, iter, ifs, 0⟩] scope pos) 0 (.ref it) .none (gEnv scope cl L cv builtinsNs X.env))) [] s6 ∧
      ∀ {pl' : List (Addr × Obj)} {σ' : L2.St} {H' : Hp} {s' : Shared}, Inv (Cxg X Ac s4 H scope (gEnv scope cl L cv builtinsNs X.env) fp [(a, go)]) pl' σ' H' s' → Inv X pins σ H' s'

theorem wipe_wipe (σ : L2.St) (vs : List Nat) : wipe (wipe σ vs) vs = wipe σ vs := by
  have key : ∀ (ws : List Nat), (∀ v ∈ ws, v ∈ vs) → wipe (wipe σ vs) ws = wipe σ vs := by
    intro ws
    induction ws with
    | nil => intro _; rfl
    | cons v r ih =>
      intro h
      show (wipe (wipe σ vs) r).set v none = wipe σ vs
      rw [ih fun x hx => h x (List.mem_cons_of_mem _ hx)]
      refine List.ext_getElem? fun i => ?_
      by_cases hi : v = i
      · subst hi
        by_cases hv : v < (wipe σ vs).length
        · rw [List.getElem?_set_self hv]
          cases e : (wipe σ vs)[v]? with
          | none => rw [List.getElem?_eq_none_iff] at e; omega
          | some q =>
            cases q with
            | none => rfl
            | some q => exact absurd (h v List.mem_cons_self) (wipe_some e).2
        · rw [List.getElem?_eq_none (by simpa using hv), List.getElem?_eq_none (Nat.le_of_not_lt hv)]
      · rw [List.getElem?_set_ne hi]
  exact key vs fun _ h => h
end
end GX
end

section
set_option Elab.async false
set_option linter.all false
set_option maxRecDepth 100000
set_option maxHeartbeats 4000000
namespace GX
open PySem PySem.Spec PyProof.Rows L2 GenW

section
variable {X : Cx} {pins : List (Addr × Obj)} {σ : L2.St} {H : Hp} {s : Shared}
theorem gen_made {k : Nat} {elt tg iter : Expr} {ifs : List Expr} {scope : Scope} {own : List (Str × Nat)} {pos : Pos} {wi : TI} {R : It → Hp → Prop} {Q' : Value → Shared → Prop}
    (hN : X.N.Nodup) (hr : Room k X.A) (bm : BmAt X.base X.mg) (ok : GenOk X.N X.env.scope scope own) (hcalm : X.calm = true) (hi : PI X tg iter wi) (hs : ∀ x, genFold iter X.env x = pure x)
    (I : Inv X pins σ H s) (h : wi σ H fun J H1 => CodeAt X.base H1 X.env.code ∧ TabAll H1 ∧ R J H1)
    (hQ : ∀ J H1 H2 a gn s5, R J H1 → Grow [] H1 H2 → TabAll H2 → MadeAt X pins σ H2 J elt tg iter ifs scope own pos a gn s5 → Q' (.ref a) s5) :
    wpAny (model X.prog X.w) X.A (eval (.GeneratorExp elt [⟨tg, iter, ifs, 0⟩] scope pos) X.env) Q' X.xe s := by
  have hfree : ∀ y ∈ scope.names, y.2 = .free → ∃ c, X.env.cells.lookup y.1 = some c := fun y hy e => by
    rcases ok.blk.free y hy e with k | k
    · exact I.ok.has _ (.inl k)
    · exact I.ok.has _ (.inr k)
  rw [eval_GeneratorExp1 _ _ _ _ _ _ _ ok.co, closure_ok hfree]
  refine wpAny_bind (thn (hi.run pins s σ H _ I h) fun xv s1 hx => ?_)
  refine wpAny_bind (wpAny_standAt ?_)
  refine wpAny_bind (wpAny_of_eq (hs xv) ?_)
  refine wpAny_bind (wpAny_holding (thn hx fun itv s2 h2 => ?_))
  obtain ⟨it, fp, tn, J, H1, e, I2, T, st2, f2, hcode, htab, hR⟩ := h2
  subst e
  refine wpAny_bind (wpAny_enterFrame I2.nolimit hr.depth ?_)
  refine wpAny_bind (wpAny_pure ?_)
  have sz : ∀ b ∈ fp, b < s2.heap.objs.size := fun b hb => by
    obtain ⟨o, e, _⟩ := T.obj _ _ st2 b hb
    exact Heap.lt_size e
  have key : ∀ (cv : Value) (s3 : Shared) (H2 : Hp), Inv X pins σ H2 s3 → Grow [] H1 H2 → TabAll H2 → CodeAt X.base H2 cv → tn 0 s3.heap → (∀ b ∈ fp, FpOk X pins H2 b ∧ b < s3.heap.objs.size) →
      wpAny (model X.prog X.w) X.A (builtinsFor X.env.globals X.env.builtins >>= fun bi => newFunctionEnv scope X.env.globals (cloFrom X.env.cells scope.names []) [(".0", .ref it)] (X.env.qual ++ "<genexpr>.") none cv none bi >>= fun cenv =>
        newGenerator (.compStart (.GeneratorExp elt [⟨tg, iter, ifs, 0⟩] scope pos) 0 (.ref it) .none cenv) "<genexpr>" (X.env.qual ++ "<genexpr>")) Q' X.xe s3 := by
    intro cv s3 H2 I3 hg ht hcv st3 f3
    obtain ⟨bmA, ob, e1, e2, e3, e4, e5, e6⟩ := bm
    refine wpAny_bind (wpAny_builtinsFor (m := X.mg) (by rw [I3.ok.glob]; exact I3.mod.glob.keeps I3.bk) e1 e2 (I3.bk _ _ e3) e4 e5 e6 ?_)
    refine wpAny_bind (newEnv_gen ok.blk.kind ok.dot fun h' tk hns hsb => ?_)
    simp only [newGenerator, newFields]
    refine wpAny_bind (wpAny_newGen (wpAny_bind (wpAny_mkText (wpAny_bind (wpAny_mkText (wpAny_newObj_type ?_ (by size_fits)))))))
    have szle : (pushCells (s3.heap.push { cls := .type "frame", data := .dict #[] }) scope.names).objs.size = h'.objs.size := hsb.1.symm
    have szs : s3.heap.objs.size + 1 ≤ h'.objs.size := by
      rw [← szle, ← Heap.size_push s3.heap { cls := .type "frame", data := .dict #[] }]
      exact pushCells_size _ _
    have kp1 : ∀ b o, s3.heap.get? b = some o → h'.get? b = some o := fun b o e => (hsb.2 b (Nat.ne_of_lt (Heap.lt_size e))).trans (pushCells_keeps _ _ _ _ (Heap.get?_push_of_some _ e))
    generalize hgo : ({ cls := .type "generator", data := .fields _ } : Obj) = go
    have hgen : ∀ hh : Heap, hh.get? h'.objs.size = some go → hh.IsGen h'.objs.size s3.gens.size := fun hh e => ⟨go, _, _, e, by rw [← hgo], by rw [← hgo]; rfl, by rw [← hgo]⟩
    have hgc : ∀ v, go.data ≠ .cell v := fun v q => by rw [← hgo] at q; cases q
    have hpush : (h'.push go).get? h'.objs.size = some go := Heap.get?_push_size _ (by rw [← hgo]; rfl)
    have kp2 : ∀ b o, s3.heap.get? b = some o → (h'.push go).get? b = some o := fun b o e => Heap.get?_push_of_some _ (kp1 b o e)
    refine hQ J H1 H2 h'.objs.size s3.gens.size _ hR hg ht ⟨?_, hgen _ hpush, by show h'.objs.size < (h'.push go).objs.size; rw [Heap.size_push]; exact Nat.lt_succ_self _, ?_⟩
    · exact I3.call' (ch := []) rfl (Un.kept kp2) (I3.hok.kept kp2) (AllBare.push I3.bare rfl) fun b z => by simp at z
    · refine ⟨s3, _, _, cv, it, fp, tn, go, Array.getElem?_push_size .., hcv, fun C Ac s6 pl g tt te W m hh hfr k6 os6 b6 hown hpl hp pg pt pe turn hw => ?_⟩
      have I6 := gen_start (A := Ac) (fp := fp) (code := cv) (bi := builtinsNs) (pn := [(h'.objs.size, go)]) (pl := pl) (s6 := s6) I3 ok hN f3 hfr hh rfl hns hsb (fun b o e => k6 b o (Heap.get?_push_of_some _ e)) os6 b6 (fun p hpm => by
        rcases List.mem_append.mp hpm with z | z
        · rw [List.mem_singleton.mp z]
          exact ⟨k6 _ _ hpush, Nat.le_refl _, hgc⟩
        · obtain ⟨z1, z2, z3⟩ := hp p z
          have z2' : (h'.push go).objs.size ≤ p.1 := z2
          rw [Heap.size_push] at z2'
          exact ⟨z1, Nat.le_of_succ_le z2', z3⟩)
      have szb : ∀ b ∈ C.Sa, h'.objs.size + 1 ≤ b ∧ ∃ o, s6.heap.get? b = some o ∧ ∀ v, o.data ≠ .cell v := fun b hb => by
        rw [← hpl] at hb
        obtain ⟨p, hpm, e⟩ := List.mem_map.mp hb
        obtain ⟨z1, z2, z3⟩ := hp p hpm
        have z2' : (h'.push go).objs.size ≤ p.1 := z2
        rw [Heap.size_push] at z2'
        rw [← e]
        exact ⟨z2', p.2, z1, z3⟩
      refine ⟨seg_first (X := Cxg X Ac s3 H2 scope (gEnv scope (cellsFrom (s3.heap.objs.size + 1) scope.names (cloFrom X.env.cells scope.names [])) s3.heap.objs.size cv builtinsNs X.env) fp [(h'.objs.size, go)]) hcalm T pg pt pe ok.co rfl rfl rfl ⟨go, List.mem_singleton.mpr rfl, fun hh e => hgen hh e⟩ (fun b hb => ?_) (fun p hpm hf => ?_) turn (wipe_wipe _ _) hw hown hpl I6 (T.keep _ _ _ st3 fun b _ o e => k6 b o (kp2 b o e)) fun b hb => (f3 b hb).1.1, fun {pl' σ' H' s'} I' => ?_⟩
      · obtain ⟨z1, o, z2, z3⟩ := szb b hb
        refine ⟨⟨Nat.le_of_succ_le (Nat.le_trans szs (Nat.le_of_succ_le z1)), ?_, fun x c e q => ?_⟩, fun p hpm => ?_, fun hf => ?_⟩
        · exact Nat.ne_of_gt (Nat.lt_of_succ_le (Nat.le_trans szs (Nat.le_of_succ_le z1)))
        · obtain ⟨v, oc, e1, e2⟩ := I6.cell x c e
          rw [q, z2] at e1; cases e1
          exact z3 _ e2
        · rw [List.mem_singleton.mp hpm]
          exact Nat.ne_of_lt (Nat.lt_of_succ_le z1)
        · exact absurd (Nat.lt_of_lt_of_le (f3 b hf).2 (Nat.le_of_succ_le (Nat.le_trans szs (Nat.le_of_succ_le z1)))) (Nat.lt_irrefl _)
      · rw [List.mem_singleton.mp hpm] at hf
        exact absurd (Nat.lt_of_lt_of_le (f3 _ hf).2 (Nat.le_of_succ_le szs)) (Nat.lt_irrefl _)
      · exact I3.call' (ch := fp) I'.os I'.base I'.hok I'.bare fun b hb => ⟨(f3 b hb).1.2.2.2.1, (f3 b hb).1.2.1, (f3 b hb).1.2.2.2.2.1, (f3 b hb).1.2.2.2.2.2⟩
  obtain ⟨c, P, ps, hcv, hP, hd⟩ := hcode.hd I2
  have hPs : s2.heap.get? P = some { cls := .none, data := .fields ps } := I2.hok P _ hP
  obtain ⟨ht1, ht2⟩ := htab P ps hP
  cases hf : codeAmong pos ps.toList with
  | some cv =>
    refine wpAny_bind (wpAny_genexprCode_hit hcv (hd.code hPs ht1) hf ?_)
    obtain ⟨c', P', o', q1, q2, q3, q4, q5⟩ := ht2 pos cv hf
    exact key cv s2 H1 I2 (.refl _) htab ⟨c', P', q1, q2, q5, .inr ⟨o', q3, q4⟩⟩ st2 fun b hb => ⟨f2 b hb, sz b hb⟩
  | none =>
    refine wpAny_bind (wpAny_genexprCodeX hcv (hd.code hPs ht1) (hd.tab hPs) hf fun c' h' tk hx hge hlt hco' _ htab' hnew => ?_)
    obtain ⟨P', hP', hc1, ht1'⟩ := hnew
    obtain ⟨o', vs, file, tf, flags, tg', inF, text, tt, z1, z2, z3, z4, z5, z6, z7, z8, z9, zne⟩ := PySem.W.CodeHd.of hc1 ht1'
    have htr : TriplesOk (ps ++ #[rawInt pos.line, rawInt pos.col, .ref c']).toList := by
      obtain ⟨_, _, _, _, _, _, _, _, _, _, _, _, _, _, _, _, _, _, _, htr, _⟩ := hco'
      exact htr
    have I3 := Inv.coded (tk := tk) I2 hP hx hge hP' zne z1 ht1'.2 htab'.2
    have lt : ∀ b u, H1 b = some u → b < s2.heap.objs.size := fun b u e => I2.hok.lt e
    have n1 : ∀ {b : Addr}, b < s2.heap.objs.size → b ≠ c' := fun h => Nat.ne_of_lt (Nat.lt_of_lt_of_le h hge)
    have n2 : ∀ {b : Addr}, b < s2.heap.objs.size → b ≠ P' := fun h => Nat.ne_of_lt (Nat.lt_of_lt_of_le h hP')
    have hPlt := lt P _ hP
    generalize hH2 : upd (upd (upd H1 P (.tbl (ps ++ #[rawInt pos.line, rawInt pos.col, .ref c']))) c' (.ext fun h => h.get? c' = some o')) P' (.tbl #[]) = H2 at I3
    have old : ∀ {b : Addr}, b < s2.heap.objs.size → b ≠ P → H2 b = H1 b := fun hb hn => by
      rw [← hH2, upd_ne (n2 hb), upd_ne (n1 hb), upd_ne hn]
    have atP : H2 P = some (.tbl (ps ++ #[rawInt pos.line, rawInt pos.col, .ref c'])) := by rw [← hH2, upd_ne (n2 hPlt), upd_ne (n1 hPlt), upd_same]
    have atP' : H2 P' = some (.tbl #[]) := by rw [← hH2, upd_same]
    have atc : H2 c' = some (.ext fun h => h.get? c' = some o') := by rw [← hH2, upd_ne zne, upd_same]
    have grow : Grow [] H1 H2 := fun b o e => by
      by_cases hb : b = P
      · rw [hb, hP] at e; cases e
        exact .inr (.inr ⟨⟨ps, rfl⟩, _, by rw [hb]; exact atP⟩)
      · exact .inr (.inl (by rw [old (lt b _ e) hb]; exact e))
    have cobj : CodeObj o' P' := ⟨vs, file, tf, flags, tg', inF, text, tt, z2, z3, z4, z5, z6, z7, z8, z9⟩
    have tabs : TabAll H2 := fun Pa qs e => by
      by_cases h1 : Pa = P'
      · rw [h1, atP'] at e; cases e
        exact ⟨trivial, fun pos cv z => by cases z⟩
      · by_cases h2 : Pa = P
        · rw [h2, atP] at e; cases e
          refine ⟨htr, fun pos' cv z => ?_⟩
          have hl : (ps ++ #[rawInt pos.line, rawInt pos.col, Value.ref c']).toList = ps.toList ++ [rawInt pos.line, rawInt pos.col, .ref c'] := by simp
          rw [hl] at z
          have split : ∀ (l : List Value), TriplesOk l → codeAmong pos' (l ++ [rawInt pos.line, rawInt pos.col, .ref c']) = some cv → codeAmong pos' l = some cv ∨ cv = .ref c' := by
            intro l
            fun_induction TriplesOk l with
            | case1 =>
              intro _ z
              simp only [List.nil_append, codeAmong, rawInt] at z
              split at z
              · cases z; exact .inr rfl
              · cases z
            | case2 a t b u x rest ih =>
              intro hl z
              simp only [List.cons_append, codeAmong] at z ⊢
              split at z
              · rename_i hc; rw [if_pos hc]; exact .inl z
              · rename_i hc; rw [if_neg hc]; exact ih hl z
            | case3 l h1 h2 => intro hl; exact hl.elim
          rcases split _ ht1 z with z | z
          · obtain ⟨c2, P2, o2, q1, q2, q3, q4, ps2, q5⟩ := ht2 pos' cv z
            refine ⟨c2, P2, o2, q1, q2, ?_, q4, ?_⟩
            · rw [old (lt c2 _ q3) (fun z => by rw [z, hP] at q3; cases q3)]; exact q3
            · by_cases hb : P2 = P
              · exact ⟨_, by rw [hb]; exact atP⟩
              · exact ⟨ps2, by rw [old (lt P2 _ q5) hb]; exact q5⟩
          · exact ⟨c', P', o', z, zne, atc, cobj, _, atP'⟩
        · have hPa : Pa ≠ c' := fun z => by rw [z, atc] at e; cases e
          have e' : H1 Pa = some (.tbl qs) := by
            rw [← hH2, upd_ne h1, upd_ne hPa, upd_ne h2] at e; exact e
          obtain ⟨k1, k2⟩ := htab Pa qs e'
          refine ⟨k1, fun pos' cv z => ?_⟩
          obtain ⟨c2, P2, o2, q1, q2, q3, q4, ps2, q5⟩ := k2 pos' cv z
          refine ⟨c2, P2, o2, q1, q2, ?_, q4, ?_⟩
          · rw [old (lt c2 _ q3) (fun z => by rw [z, hP] at q3; cases q3)]; exact q3
          · by_cases hb : P2 = P
            · exact ⟨_, by rw [hb]; exact atP⟩
            · exact ⟨ps2, by rw [old (lt P2 _ q5) hb]; exact q5⟩
    refine key (.ref c') { s2 with heap := h', toks := tk } H2 I3 grow tabs ⟨c', P', rfl, zne, ⟨_, atP'⟩, .inr ⟨o', atc, cobj⟩⟩ (T.keep _ _ _ st2 fun b hb o e => hx b o (fun z => ?_) e) fun b hb => ⟨⟨?_, (f2 b hb).2⟩, ?_⟩
    · have := (f2 b hb).1
      rw [z, hP] at this; cases this
    · rw [old (sz b hb) (fun z => by have := (f2 b hb).1; rw [z, hP] at this; cases this)]
      exact (f2 b hb).1
    · obtain ⟨o, e, _⟩ := T.obj _ _ st2 b hb
      exact Heap.lt_size (hx b o (fun z => by have := (f2 b hb).1; rw [z, hP] at this; cases this) e)
end
end GX
end

section
set_option Elab.async false
set_option linter.all false
set_option maxRecDepth 100000
set_option maxHeartbeats 4000000
namespace GX
open PySem PySem.Spec PyProof.Rows L2 GenW

/-- the generator a sleeps (or has not begun), n more items at most -/
def GAt (X : Cx) (C : Con) (a : Addr) (gn : Nat) (Ac : Around) (n : Nat) (s : Shared) : Prop :=
  s.heap.IsGen a gn ∧ s.heap.NoLimit ∧ ∃ gs, s.gens[gn]? = some gs ∧ gs.Goes (model X.prog X.w) Ac (CR X C) (CY X C a gn) n (.send .none) (s.setGen gn .running)

def NextQ (X : Cx) (C : Con) (a : Addr) (gn : Nat) (Ac : Around) (n : Nat) (s : Shared) (r : Option Value) (s' : Shared) : Prop :=
  (r = none ∧ ∃ ys pl σ H, n + ys.length = sizeLine ∧ (∀ p ∈ pl, s.heap.get? p.1 = some p.2) ∧ C.Own ys pl ∧ pl.map (·.1) = C.Sa ∧ Inv X pl σ H s' ∧ C.Dn ys H) ∨
  ∃ v m ys x pl σ H, r = some v ∧ n = m + 1 ∧ 1 ≤ m ∧ m + 1 + ys.length = sizeLine ∧ RelV x v ∧ (∀ p ∈ pl, s.heap.get? p.1 = some p.2) ∧ C.Own ys pl ∧ pl.map (·.1) = C.Sa ∧ Inv X pl σ H s' ∧ C.Yl (ys ++ [x]) H ∧
    (C.Go (ys ++ [x]) → ∀ s'', Slp C.Own C.Sa (ys ++ [x]) s' s'' → s''.gens = s'.gens → GAt X C a gn Ac m s'')

theorem Inv.regen {X : Cx} {pl : List (Addr × Obj)} {σ : L2.St} {H : Hp} {s : Shared} {g : Nat} {gs : GenState} {h' : Heap} (I : Inv X pl σ H s) (hb : gs.bare = true) (k : ∀ b o, s.heap.get? b = some o → h'.get? b = some o) : Inv X pl σ H { s.setGen g gs with heap := h' } :=
  I.call' (ch := []) rfl (Un.kept k) (I.hok.kept k) (allBare_setGen I.bare hb) fun b z => by simp at z

theorem next_step {X : Cx} {C : Con} {a : Addr} {gn : Nat} {A : Around} {n : Nat} {s : Shared} {E : Value → Shared → Prop} (hh : A.handled = none) (hd : A.depth < recursionLimit) (haS : a ∉ C.Sa) (hcS : cStatics ∉ C.Sa)
    (h : GAt X C a gn A.in1 n s) : wpAny (model X.prog X.w) A (pyNext (.ref a)) (NextQ X C a gn A.in1 n s) E s := by
  obtain ⟨hg, hl, gs, hgs, hgo⟩ := h
  have hgl : gn < s.gens.size := (Array.getElem?_eq_some_iff.mp hgs).1
  refine wpAny_gsz (n := gn + 1) hgl (next_genG (F := CF X C) (Er := fun _ _ => False) hh hl hd hg hgs hgo (fun v s₁ gs' hb hv => ?_) (fun s₁ hp h' hk => ?_) fun e s₁ he => he.elim)
  · intro hsz
    obtain ⟨ys, x, pl, σ, H, h1, h2, h3, h0, h4, h5, h6, h7, h8, h9⟩ := hv
    obtain ⟨m, rfl⟩ : ∃ m, n = m + 1 := ⟨n - 1, by omega⟩
    have hsz1 : gn < s₁.gens.size := by
      have q : (s₁.setGen gn gs').gens.size = s₁.gens.size := setGen_size _ _ _
      have hsz' : gn + 1 ≤ (s₁.setGen gn gs').gens.size := hsz
      omega
    refine .inr ⟨v, m, ys, x, pl, σ, H, rfl, rfl, h1, h2, h3, h0, h4, h5, Inv.regen (h' := s₁.heap) h6 hb fun _ _ e => e, h8, fun go s'' z hge => ?_⟩
    obtain ⟨z1, z2, z3, z4⟩ := z
    refine ⟨?_, ?_, gs', by rw [hge]; exact setGen_at hsz1, h9 go _ ⟨z1, allBare_setGen z2 rfl, z3, z4⟩⟩
    · obtain ⟨o, nm, qn, ho, r⟩ := h7
      exact ⟨o, nm, qn, z3 a o haS ho, r⟩
    · obtain ⟨mc, hns, hnn⟩ := h6.nolimit
      exact ⟨mc, hns.at' fun o e => z3 _ o hcS e, hnn⟩
  · intro _
    obtain ⟨ys, pl, σ, H, h1, h0, h2, h3, h4, h5⟩ := hp
    exact .inl ⟨rfl, ys, pl, σ, H, h1, h0, h2, h3, Inv.regen h4 rfl hk, h5⟩

/-- truth, in any around: nothing but the tokens moves -/
theorem truthy_at {X : Cx} {pins : List (Addr × Obj)} {σ : L2.St} {H : Hp} {s : Shared} {A : Around} {E : Value → Shared → Prop} {x : V} {v : Value} {k : Bool} {Q : Bool → Shared → Prop} (I : Inv X pins σ H s) (rx : RelV x v) (e : TruV X.K x H k)
    (h : ∀ tk, Q k { s with toks := tk }) : wpAny (model X.prog X.w) A (truthy v) Q E s := by
  have hl := line63
  have hs : sizeLine = 16777216 := sizeLine_eq
  cases x with
  | non =>
    cases rx
    obtain rfl : k = false := e
    exact truthy_none (h s.toks)
  | bl b =>
    cases rx
    obtain rfl : k = b := e
    exact wpAny_truthy_bool (h s.toks)
  | int i =>
    obtain ⟨t, rfl⟩ := rx
    obtain rfl : k = (i != 0) := e
    exact PySem.P.truthy_int (h s.toks)
  | str y =>
    obtain ⟨t, rfl⟩ := rx
    obtain ⟨hy, rfl⟩ : y.length ≤ sizeLine ∧ k = ((y.length : Int) != 0) := e
    exact PySem.P.truthy_str (by omega) (h _)
  | byt y =>
    obtain ⟨t, rfl⟩ := rx
    obtain ⟨hy, rfl⟩ : y.size ≤ sizeLine ∧ k = ((y.size : Int) != 0) := e
    exact PySem.W.truthy_bytes (by omega) (h _)
  | ref p =>
    cases rx
    have e' : (∃ xs, SqL X.K H p xs ∧ k = !xs.isEmpty) ∨ (∃ xs, SqT X.K H p xs ∧ k = !xs.isEmpty) ∨ ∃ kvs, H p = some (.dK kvs) ∧ k = !kvs.isEmpty := e
    rcases e' with ⟨xs, hx, rfl⟩ | ⟨xs, hx, rfl⟩ | ⟨kvs, hx, rfl⟩
    · obtain ⟨its, r, pl, hz⟩ := I.list hx
      have hlen := r.length
      exact wpAny_truthy_list pl.isList (by simp only [List.size_toArray]; omega) (by rw [isEmpty_of r]; exact h _)
    · obtain ⟨its, r, pl, hz⟩ := I.tuple hx
      have hlen := r.length
      exact truthy_tuple pl (by simp only [List.size_toArray]; omega) (by rw [isEmpty_of r]; exact h _)
    · obtain ⟨hz, hS, vs, r, m⟩ : kvs.length ≤ sizeLine ∧ (p == sysModules) = false ∧ ∃ vs, KV kvs vs ∧ s.heap.DictOf (mixKind X.prog X.w) p vs := I.hok p _ hx
      have hlen : kvs.length = vs.length := Paired.length r
      exact wpAny_truthy_dict hS m (by omega) (by rw [isEmpty_kv r]; exact h _)
  | _ => exact (show False from e).elim

/-! ### all, any -/
/-- st: the truth that ends it -/
def cTest (K : PySem.W.Frag) (st : Bool) (Go : List V → Prop) (Qf : Bool → Hp → Prop) : Con where
  Sa := []
  Own := fun _ pl => pl = []
  Yl := fun zs H => ∃ x b, zs.getLast? = some x ∧ TruV K x H b ∧ ((b = (!st) ∧ Go zs) ∨ (b = st ∧ Qf st H))
  Go := Go
  Dn := fun _ H => Qf (!st) H

section
variable {X : Cx} {a : Addr} {gn : Nat} {A : Around} {Go : List V → Prop} {Qf : Bool → Hp → Prop} {R : Result → Shared → Prop}
theorem all_loop (hh : A.handled = none) (hd : A.depth < recursionLimit) (hR : ∀ b pl σ H s', Inv X pl σ H s' → Qf b H → R (.ok (.ret (.bool b))) s') :
    ∀ (n : Nat) (s : Shared), GAt X (cTest X.K false Go Qf) a gn A.in1.in1 n s → codeAny (model X.prog X.w) A (.builtin "all.loop" ⟨[.ref a], []⟩) R s := by
  intro n
  induction n using Nat.strongRecOn with
  | ind n ih =>
    intro s hg
    refine codeAny_builtin F.entry_all_loop ?_
    rw [Around.under_plainId F.plain_all_loop _]
    show wpAny _ A.in1 (pyNext (.ref a) >>= _) _ _ s
    refine wpAny_bind (wpAny_mono (next_step (A := A.in1) hh hd (by simp [cTest]) (by simp [cTest]) hg (E := fun _ _ => False)) (fun r s' h => ?_) fun _ _ z => z.elim)
    rcases h with ⟨rfl, ys, pl, σ, H, h1, _, h2, h3, h4, h5⟩ | ⟨v, m, ys, x, pl, σ, H, rfl, rfl, h1, h2, h3, _, h4, h5, h6, ⟨y, b, e1, e2, e3⟩, h8⟩
    · exact wpAny_bind (wpAny_rule (wpAny_pure (hR true pl σ H s' h4 h5)))
    · have ey : y = x := by
        rw [List.getLast?_append] at e1
        simpa using e1.symm
      subst ey
      refine wpAny_bind (wpAny_holding (truthy_at h6 h3 e2 fun tk => ?_))
      refine wpAny_bind (wpAny_letGo ?_)
      rcases e3 with ⟨rfl, go⟩ | ⟨rfl, q⟩
      · simp only [Bool.not_false, if_true]
        exact wpAny_pure ⟨plainId_quiet F.plain_all_loop _, ih m (Nat.lt_succ_self _) _ (h8 go _ ⟨rfl, h6.bare, fun b o _ e => e, [], rfl, rfl, fun p hp => absurd hp (by simp)⟩ rfl)⟩
      · simp only [Bool.false_eq_true, if_false]
        exact wpAny_bind (wpAny_rule (wpAny_pure (hR false pl σ H _ (h6.tok tk) q)))
theorem any_loop (hh : A.handled = none) (hd : A.depth < recursionLimit) (hR : ∀ b pl σ H s', Inv X pl σ H s' → Qf b H → R (.ok (.ret (.bool b))) s') :
    ∀ (n : Nat) (s : Shared), GAt X (cTest X.K true Go Qf) a gn A.in1.in1 n s → codeAny (model X.prog X.w) A (.builtin "any.loop" ⟨[.ref a], []⟩) R s := by
  intro n
  induction n using Nat.strongRecOn with
  | ind n ih =>
    intro s hg
    refine codeAny_builtin F.entry_any_loop ?_
    rw [Around.under_plainId F.plain_any_loop _]
    show wpAny _ A.in1 (pyNext (.ref a) >>= _) _ _ s
    refine wpAny_bind (wpAny_mono (next_step (A := A.in1) hh hd (by simp [cTest]) (by simp [cTest]) hg (E := fun _ _ => False)) (fun r s' h => ?_) fun _ _ z => z.elim)
    rcases h with ⟨rfl, ys, pl, σ, H, h1, _, h2, h3, h4, h5⟩ | ⟨v, m, ys, x, pl, σ, H, rfl, rfl, h1, h2, h3, _, h4, h5, h6, ⟨y, b, e1, e2, e3⟩, h8⟩
    · exact wpAny_bind (wpAny_rule (wpAny_pure (hR false pl σ H s' h4 h5)))
    · have ey : y = x := by
        rw [List.getLast?_append] at e1
        simpa using e1.symm
      subst ey
      refine wpAny_bind (wpAny_holding (truthy_at h6 h3 e2 fun tk => ?_))
      refine wpAny_bind (wpAny_letGo ?_)
      rcases e3 with ⟨rfl, go⟩ | ⟨rfl, q⟩
      · simp only [Bool.not_true, Bool.false_eq_true, if_false]
        exact wpAny_pure ⟨plainId_quiet F.plain_any_loop _, ih m (Nat.lt_succ_self _) _ (h8 go _ ⟨rfl, h6.bare, fun b o _ e => e, [], rfl, rfl, fun p hp => absurd hp (by simp)⟩ rfl)⟩
      · simp only [if_true]
        exact wpAny_bind (wpAny_rule (wpAny_pure (hR true pl σ H _ (h6.tok tk) q)))
end

/-! ### tuple -/
def cTup (S : Addr) (Qt : List V → Hp → Prop) : Con where
  Sa := [S]
  Own := fun ys pl => ∃ (acc : Array Value) (c : Nat), pl = [(S, lstObj acc c)] ∧ Vals ys acc.toList
  Yl := fun _ _ => True
  Go := fun _ => True
  Dn := Qt

section
variable {X : Cx} {a : Addr} {gn : Nat} {A : Around} {S : Addr} {Qt : List V → Hp → Prop} {R : Result → Shared → Prop} {res : Value}
theorem extend_loop (hh : A.handled = none) (hd : A.depth < recursionLimit) (hSa : a ≠ S) (hSc : cStatics ≠ S)
    (hR : ∀ ys acc c pl σ H s', Inv X pl σ H s' → s'.heap.get? S = some (lstObj acc c) → Vals ys acc.toList → ys.length ≤ sizeLine → Qt ys H → H S = none → R (.ok (.ret res)) s') :
    ∀ (n : Nat) (s : Shared), GAt X (cTup S Qt) a gn A.in1.in1 n s → codeAny (model X.prog X.w) A (.builtin "list.extend.loop" ⟨[.ref S, .ref a, res], []⟩) R s := by
  intro n
  induction n using Nat.strongRecOn with
  | ind n ih =>
    intro s hg
    refine codeAny_builtin F.entry_extend_loop ?_
    rw [Around.under_plainId F.plain_extend_loop _]
    show wpAny _ A.in1 (pyNext (.ref a) >>= _) _ _ s
    refine wpAny_bind (wpAny_mono (next_step (A := A.in1) hh hd (by simpa [cTup] using hSa) (by simpa [cTup] using hSc) hg (E := fun _ _ => False)) (fun r s' h => ?_) fun _ _ z => z.elim)
    rcases h with ⟨rfl, ys, pl, σ, H, h1, _, ⟨acc, c, rfl, hv⟩, h3, h4, h5⟩ | ⟨v, m, ys, x, pl, σ, H, rfl, rfl, h1, h2, h3, _, ⟨acc, c, rfl, hv⟩, h5, h6, _, h8⟩
    · have hp := h4.pin (S, lstObj acc c) (List.mem_append_right _ List.mem_cons_self)
      exact wpAny_pure (hR ys acc c _ σ H s' h4 hp.1 hv (by omega) h5 hp.2.1)
    · have hp := h6.pin (S, lstObj acc c) (List.mem_append_right _ List.mem_cons_self)
      have hasz : acc.size = ys.length := by
        have e1 := hv.length
        have e2 : acc.toList.length = acc.size := by simp
        omega
      show wpAny _ A.in1 (updateSeq S (·.push v) >>= _) _ _ _
      refine wpAny_bind ?_
      refine wpAny_updateSeq hp.1 rfl (wpAny_pure ⟨plainId_quiet F.plain_extend_loop _, ?_⟩) (by omega) (by show (acc.push v).size ≤ sizeLine + 1; rw [Array.size_push]; omega)
      refine ih m (Nat.lt_succ_self _) _ (h8 trivial _ ⟨rfl, h6.bare, fun b o hb e => (Heap.get?_update_other _ _ (fun z => hb (by rw [← z]; exact List.mem_cons_self))).trans e, ?_⟩ rfl)
      obtain ⟨c', hS2⟩ : ∃ c', (s'.heap.update S (Obj.mapSeq (·.push v))).get? S = some (lstObj (acc.push v) c') := ⟨_, Heap.get?_update_self _ hp.1 rfl⟩
      refine ⟨[(S, lstObj (acc.push v) c')], ⟨acc.push v, c', rfl, ?_⟩, rfl, fun p hpm => ?_⟩
      · rw [Array.toList_push]
        exact hv.append (.cons h3 .nil)
      · rw [List.mem_singleton.mp hpm]
        exact ⟨hS2, fun v q => by cases q⟩
end
end GX
end

section
set_option Elab.async false
set_option linter.all false
set_option maxRecDepth 100000
set_option maxHeartbeats 4000000
namespace GX
open PySem PySem.Spec PyProof.Rows L2 GenW

/-! ### sum -/
def vint : V → Int
  | .int i => i
  | _ => 0
def isum (ys : List V) : Int := (ys.map vint).sum
theorem isum_snoc (ys : List V) (i : Int) : isum (ys ++ [.int i]) = isum ys + i := by
  simp [isum, vint]
abbrev sumObj (z : Int) (t : Tok) (c : Nat) : Obj := { cls := .type "list", dict := none, data := .seq #[.int z t] c, slots := #[] }
def cSum (S : Addr) (Qs : Int → Hp → Prop) : Con where
  Sa := [S]
  Own := fun ys pl => ∃ (t : Tok) (c : Nat), pl = [(S, sumObj (isum ys) t c)]
  Yl := fun zs _ => ∃ i, zs.getLast? = some (.int i)
  Go := fun _ => True
  Dn := fun ys H => Qs (isum ys) H

section
variable {X : Cx} {a : Addr} {gn : Nat} {A : Around} {S : Addr} {Qs : Int → Hp → Prop} {R : Result → Shared → Prop}
theorem sum_loop (hh : A.handled = none) (hd : A.depth < recursionLimit) (hSa : a ≠ S) (hSc : cStatics ≠ S)
    (hR : ∀ z t pl σ H s', Inv X pl σ H s' → Qs z H → R (.ok (.ret (.int z t))) s') :
    ∀ (n : Nat) (s : Shared) (z : Int) (t : Tok) (c : Nat) (st : Int), (st = 0 ∨ st = 2) → s.heap.get? S = some (sumObj z t c) → GAt X (cSum S Qs) a gn A.in1.in1 n s → codeAny (model X.prog X.w) A (.builtin "sum.loop" ⟨[.ref a, .ref S, rawInt st, rawInt 0], []⟩) R s := by
  intro n
  induction n using Nat.strongRecOn with
  | ind n ih =>
    intro s z t c st hst hS hg
    refine codeAny_builtin F.entry_sum_loop ?_
    rw [Around.under_plainId F.plain_sum_loop _]
    show wpAny _ A.in1 (seqItems? (.ref S) >>= _) _ _ s
    refine wpAny_bind (wpAny_seqItems hS rfl ?_)
    show wpAny _ A.in1 (tryCatch (pyNext (.ref a)) _ >>= _) _ _ s
    refine wpAny_bind (wpAny_tryCatch (wpAny_mono (next_step (A := A.in1) hh hd (by simpa [cSum] using hSa) (by simpa [cSum] using hSc) hg) (fun r s' h => ?_) fun _ _ z => z))
    rcases h with ⟨rfl, ys, pl, σ, H, h1, h0, ⟨t', c', rfl⟩, h3, h4, h5⟩ | ⟨v, m, ys, x, pl, σ, H, rfl, rfl, h1, h2, h3, h0, ⟨t', c', rfl⟩, h5, h6, ⟨i, e1⟩, h8⟩
    · have e0 := h0 (S, sumObj (isum ys) t' c') List.mem_cons_self
      rw [show s.heap.get? (S, sumObj (isum ys) t' c').1 = some (sumObj z t c) from hS] at e0
      cases e0
      exact wpAny_pure (hR _ t _ σ H s' h4 h5)
    · have e0 := h0 (S, sumObj (isum ys) t' c') List.mem_cons_self
      rw [show s.heap.get? (S, sumObj (isum ys) t' c').1 = some (sumObj z t c) from hS] at e0
      cases e0
      have ex : x = .int i := by
        rw [List.getLast?_append] at e1
        simpa using e1
      subst ex
      obtain ⟨ti, rfl⟩ := h3
      have hp := h6.pin (S, sumObj (isum ys) t c) (List.mem_append_right _ List.mem_cons_self)
      have hS' : s'.heap.get? S = some (sumObj (isum ys) t c) := hp.1
      have fin : ∀ (h' : Heap) (tk : Nat) (t'' : Tok) (c'' : Nat), (∀ b o, b ≠ S → s'.heap.get? b = some o → h'.get? b = some o) → h'.get? S = some (sumObj (isum ys + i) t'' c'') →
          GAt X (cSum S Qs) a gn A.in1.in1 m { s' with heap := h', toks := tk } := fun h' tk t'' c'' k e => by
        refine h8 trivial _ ⟨rfl, h6.bare, fun b o hb q => k b o (fun z => hb (by rw [z]; exact List.mem_cons_self)) q, [(S, sumObj (isum ys + i) t'' c'')], ⟨t'', c'', by rw [isum_snoc]⟩, rfl, fun p hpm => ?_⟩ rfl
        rw [List.mem_singleton.mp hpm]
        exact ⟨e, fun v q => by cases q⟩
      have up : ∀ (h : Heap) (f : Obj → Obj) (b : Addr) (o : Obj), b ≠ S → h.get? b = some o → (h.update S f).get? b = some o := fun h f b o hb e => (Heap.get?_update_other _ _ (Ne.symm hb)).trans e
      -- the long road: a sum of any size
      have far : ∀ st', (st' = 2) → wpAny (model X.prog X.w) A.in1 (updateSeq S (fun _ => #[Value.int (isum ys + i) s'.toks]) >>= fun _ => letGo [Value.int (isum ys) t, Value.int i ti] >>= fun _ => updateSeq S (fun _ => #[Value.int (isum ys + i) s'.toks]) >>= fun _ =>
          again (.builtin "sum.loop" ⟨[.ref a, .ref S, rawInt st', rawInt 0], []⟩)) (fun x s'' => match x with
            | .done f => R (.ok f) s''
            | .again c => c.quiet = true ∧ codeAny (model X.prog X.w) A c R s'') (fun e s'' => R (.error e) s'') { s' with toks := s'.toks + 1 } := by
        rintro st' rfl
        refine wpAny_bind (wpAny_updateSeq hS' rfl ?_)
        have hS₂ := Heap.get?_update_self (Obj.mapSeq fun _ => #[Value.int (isum ys + i) s'.toks]) hS' rfl
        refine wpAny_bind (wpAny_letGo ?_)
        refine wpAny_bind (wpAny_updateSeq hS₂ rfl (wpAny_pure ⟨plainId_quiet F.plain_sum_loop _, ?_⟩))
        have hS₃ := Heap.get?_update_self (Obj.mapSeq fun _ => #[Value.int (isum ys + i) s'.toks]) hS₂ rfl
        exact ih m (Nat.lt_succ_self _) _ _ _ _ 2 (.inr rfl) hS₃ (fin _ _ _ _ (fun b o hb e => up _ _ b o hb (up _ _ b o hb e)) hS₃)
      rcases hst with rfl | rfl
      · show wpAny _ A.in1 (if (_ : Bool) = true then (mkInt (isum ys + i) >>= _) else _) _ _ _
        split
        · refine wpAny_bind (wpAny_mkInt ?_)
          show wpAny _ A.in1 (updateSeq S (fun _ => #[.int (isum ys + i) s'.toks]) >>= _) _ _ _
          refine wpAny_bind (wpAny_updateSeq hS' rfl (wpAny_pure ⟨plainId_quiet F.plain_sum_loop _, ?_⟩))
          have hS₂ := Heap.get?_update_self (Obj.mapSeq fun _ => #[Value.int (isum ys + i) s'.toks]) hS' rfl
          exact ih m (Nat.lt_succ_self _) _ _ _ _ 0 (.inl rfl) hS₂ (fin _ _ _ _ (fun b o hb e => up _ _ b o hb e) hS₂)
        · refine wpAny_bind (wpAny_rule ?_)
          refine wpAny_bind (wpAny_attempt (wpAny_holding (wpAny_add_int ?_)))
          exact far 2 rfl
      · show wpAny _ A.in1 ((holding [Value.int i ti] (binaryOp .Add (.int (isum ys) t) (.int i ti))).attempt >>= _) _ _ _
        refine wpAny_bind (wpAny_attempt (wpAny_holding (wpAny_add_int ?_)))
        exact far 2 rfl
end
end GX
end

section
set_option Elab.async false
set_option linter.all false
set_option maxRecDepth 100000
set_option maxHeartbeats 4000000
namespace GX
open PySem PySem.Spec PyProof.Rows L2 GenW

/-- Xg is the context of a generator's frame that X has made, woken within Ac -/
def IsG (X Xg : Cx) (Ac : Around) (H : Hp) (scope : Scope) : Prop :=
  ∃ s4 cl L cv fp pn, Xg = Cxg X Ac s4 H scope (gEnv scope cl L cv builtinsNs X.env) fp pn ∧ CodeAt X.base H cv
/-- how the generator's turns are read by the consumer -/
def Reads (X : Cx) (C : Con) (Ac : Around) (H : Hp) (J : It) (elt tg : Expr) (ifs : List Expr) (scope : Scope) (own : List (Str × Nat)) (σ : L2.St) : Prop :=
  ∀ Xg, IsG X Xg Ac H scope → ∃ g tt te W m, PG Xg tg g ∧ PTs Xg ifs tt ∧ PE Xg elt te ∧ tGenL C J g tt te (own.map (·.2)) (wipe σ (own.map (·.2))) W ∧ W 0 m [] H

section
variable {X : Cx} {pins : List (Addr × Obj)} {σ : L2.St} {H : Hp} {J : It} {elt tg iter : Expr} {ifs : List Expr} {scope : Scope} {own : List (Str × Nat)} {pos : Pos} {a : Addr} {gn : Nat} {s5 s6 : Shared} {C : Con} {Ac : Around}
theorem MadeAt.gat (M : MadeAt X pins σ H J elt tg iter ifs scope own pos a gn s5) (hh : Ac.handled = none) (hf : Ac.frames = some X.stack) (k6 : ∀ b o, s5.heap.get? b = some o → s6.heap.get? b = some o) (os6 : s6.os = s5.os) (g6 : s6.gens = s5.gens)
    {pl : List (Addr × Obj)} (hown : C.Own [] pl) (hpl : pl.map (·.1) = C.Sa) (hp : ∀ p ∈ pl, s6.heap.get? p.1 = some p.2 ∧ s5.heap.objs.size ≤ p.1 ∧ ∀ v, p.2.data ≠ .cell v)
    (rd : Reads X C Ac H J elt tg ifs scope own σ) :
    ∃ Xg, IsG X Xg Ac H scope ∧ GAt Xg C a gn Ac sizeLine s6 ∧ ∀ {pl' : List (Addr × Obj)} {σ' : L2.St} {H' : Hp} {s' : Shared}, Inv Xg pl' σ' H' s' → Inv X pins σ H' s' := by
  obtain ⟨hI, hgen, _, s4, cl, L, cv, it, fp, tn, go, e1, e2, run⟩ := M
  have hisg : IsG X (Cxg X Ac s4 H scope (gEnv scope cl L cv builtinsNs X.env) fp [(a, go)]) Ac H scope := ⟨s4, cl, L, cv, fp, _, rfl, e2⟩
  obtain ⟨g, tt, te, W, m, q1, q2, q3, q4, q5⟩ := rd _ hisg
  have b5 : AllBare s6.gens := by rw [g6]; exact hI.bare
  obtain ⟨r1, r2⟩ := run C Ac (s6.setGen gn .running) pl g tt te W m hh hf k6 os6 (allBare_setGen b5 rfl) hown hpl hp q1 q2 q3 q4 q5
  have e1' := e1
  rw [← g6] at e1'
  exact ⟨_, hisg, ⟨hgen.keeps k6, hI.nolimit.keeps k6, _, e1', rfl, r1⟩, r2⟩
theorem MadeAt.anew (M : MadeAt X pins σ H J elt tg iter ifs scope own pos a gn s5) : a < s5.heap.objs.size := M.lt

theorem call_all_g {E : Value → Shared → Prop} {Q : VK} {Go : List V → Prop} {k : Nat} (hr : Room k X.A) (M : MadeAt X pins σ H J elt tg iter ifs scope own pos a gn s5)
    (rd : Reads X (cTest X.K false Go fun b H' => Q (.bl b) H') X.A.in1.in1 H J elt tg ifs scope own σ) : wpAny (model X.prog X.w) X.A (call (.builtin "all") [.ref a]) (EP X pins σ Q) E s5 := by
  refine call_function_tree F.kind_all F.plain_all F.entry_all (F.args_all1 _) ?_
  unfold Builtin.«all»
  refine wpAny_bind (m := oneArg "all" _) (wpAny_pure ?_)
  refine wpAny_bind (wpAny_pyIter_gen M.isgen ?_)
  obtain ⟨Xg, hg, hat, back⟩ := M.gat (s6 := s5) (Ac := X.A.in1.in1) hr.hd M.inv.ok.frames (fun _ _ e => e) rfl rfl (pl := []) rfl rfl (fun p hp => absurd hp (by simp)) rd
  obtain ⟨s4, cl, L, cv, fp, pn, rfl, hcv⟩ := hg
  exact wpAny_pure ⟨plainId_quiet F.plain_all_loop _, all_loop (X := Cxg X X.A.in1.in1 s4 H scope (gEnv scope cl L cv builtinsNs X.env) fp pn) (A := X.A) hr.hd hr.depth (fun b pl σ' H' s' I' q => ⟨.bl b, H', back I', rfl, q⟩) sizeLine s5 hat⟩
theorem call_any_g {E : Value → Shared → Prop} {Q : VK} {Go : List V → Prop} {k : Nat} (hr : Room k X.A) (M : MadeAt X pins σ H J elt tg iter ifs scope own pos a gn s5)
    (rd : Reads X (cTest X.K true Go fun b H' => Q (.bl b) H') X.A.in1.in1 H J elt tg ifs scope own σ) : wpAny (model X.prog X.w) X.A (call (.builtin "any") [.ref a]) (EP X pins σ Q) E s5 := by
  refine call_function_tree F.kind_any F.plain_any F.entry_any (F.args_any1 _) ?_
  unfold Builtin.«any»
  refine wpAny_bind (m := oneArg "any" _) (wpAny_pure ?_)
  refine wpAny_bind (wpAny_pyIter_gen M.isgen ?_)
  obtain ⟨Xg, hg, hat, back⟩ := M.gat (s6 := s5) (Ac := X.A.in1.in1) hr.hd M.inv.ok.frames (fun _ _ e => e) rfl rfl (pl := []) rfl rfl (fun p hp => absurd hp (by simp)) rd
  obtain ⟨s4, cl, L, cv, fp, pn, rfl, hcv⟩ := hg
  exact wpAny_pure ⟨plainId_quiet F.plain_any_loop _, any_loop (X := Cxg X X.A.in1.in1 s4 H scope (gEnv scope cl L cv builtinsNs X.env) fp pn) (A := X.A) hr.hd hr.depth (fun b pl σ' H' s' I' q => ⟨.bl b, H', back I', rfl, q⟩) sizeLine s5 hat⟩

theorem call_sum_g {E : Value → Shared → Prop} {Q : VK} {k : Nat} (hr : Room k X.A) (M : MadeAt X pins σ H J elt tg iter ifs scope own pos a gn s5)
    (rd : ∀ S, Reads X (cSum S fun z H' => Q (.int z) H') X.A.in1.in1 H J elt tg ifs scope own σ) : wpAny (model X.prog X.w) X.A (call (.builtin "sum") [.ref a]) (EP X pins σ Q) E s5 := by
  refine call_function_tree F.kind_sum F.plain_sum F.entry_sum (F.args_sum1 _) ?_
  unfold Builtin.«sum»
  simp only [List.length_cons, List.length_nil]
  rw [if_neg (by decide)]
  refine wpAny_bind (wpAny_of_eq (show Builtin.Builtins.bindParams "sum" ["start"] 0 { } = pure [none] from rfl) ?_)
  refine wpAny_bind (wpAny_pyIter_gen M.isgen ?_)
  refine wpAny_bind (wpAny_mkInt ?_)
  refine wpAny_bind (wpAny_pure ?_)
  simp only [List.forIn_cons, List.forIn_nil]
  refine wpAny_bind (wpAny_bind (wpAny_bind (wpAny_isInstance (T := "int") (b := false) (typeIs_int _ _ _) F.sub_int_str ?_)))
  simp only [Bool.false_eq_true, if_false]
  refine wpAny_pure (wpAny_bind (wpAny_bind (wpAny_isInstance (T := "int") (b := false) (typeIs_int _ _ _) F.sub_int_bytes ?_)))
  simp only [Bool.false_eq_true, if_false]
  refine wpAny_pure (wpAny_bind (wpAny_bind (wpAny_isInstance (T := "int") (b := false) (typeIs_int _ _ _) F.sub_int_bytearray ?_)))
  simp only [Bool.false_eq_true, if_false]
  refine wpAny_pure (wpAny_pure ?_)
  refine wpAny_bind (wpAny_newObj_type ?_)
  have hcl : cStatics < s5.heap.objs.size := let ⟨_, hn, _⟩ := M.inv.nolimit; hn.lt
  generalize hs6 : ({ s5 with heap := s5.heap.push { cls := .type "list", data := .seq [Value.int 0 s5.toks].toArray }, toks := s5.toks + 1 } : Shared) = s6
  have hS : s6.heap.get? s5.heap.objs.size = some (sumObj 0 s5.toks 0) := by rw [← hs6]; exact Heap.get?_push_size _ rfl
  obtain ⟨Xg, hg, hat, back⟩ := M.gat (s6 := s6) (Ac := X.A.in1.in1) hr.hd M.inv.ok.frames (fun b o e => by rw [← hs6]; exact Heap.get?_push_of_some _ e) (by rw [← hs6]) (by rw [← hs6]) (C := cSum s5.heap.objs.size fun z H' => Q (.int z) H') (pl := [(s5.heap.objs.size, sumObj 0 s5.toks 0)]) ⟨s5.toks, 0, rfl⟩ rfl (fun p hp => by
    rw [List.mem_singleton.mp hp]
    exact ⟨hS, Nat.le_refl _, fun v q => by cases q⟩) (rd s5.heap.objs.size)
  obtain ⟨s4, cl, L, cv, fp, pn, rfl, hcv⟩ := hg
  refine wpAny_pure ⟨plainId_quiet F.plain_sum_loop _, ?_⟩
  exact sum_loop (X := Cxg X X.A.in1.in1 s4 H scope (gEnv scope cl L cv builtinsNs X.env) fp pn) (A := X.A) hr.hd hr.depth (Nat.ne_of_lt M.lt) (Nat.ne_of_lt hcl) (fun z t pl σ' H' s' I' q => ⟨.int z, H', back I', ⟨t, rfl⟩, q⟩) sizeLine s6 0 s5.toks 0 0 (.inl rfl) hS hat

/-- collect(g), the way of tuple(g): A is that of the collecting -/
theorem collect_g {A : Around} {E : Value → Shared → Prop} {Q : List Value → Shared → Prop} {Qt : List V → Hp → Prop} (hh : A.handled = none) (hd : A.depth < recursionLimit) (hf : A.frames = some X.stack) (M : MadeAt X pins σ H J elt tg iter ifs scope own pos a gn s5)
    (rd : ∀ S, Reads X (cTup S Qt) A.in1.in1 H J elt tg ifs scope own σ) (hQ : ∀ acc ys H' s', Inv X pins σ H' s' → Vals ys acc → ys.length ≤ sizeLine → Qt ys H' → Q acc s') :
    wpAny (model X.prog X.w) A (collect (.ref a)) Q E s5 := by
  have hSI : s5.heap.objs.size ≠ a := Nat.ne_of_gt M.lt
  have hcl : cStatics < s5.heap.objs.size := let ⟨_, hn, _⟩ := M.inv.nolimit; hn.lt
  unfold collect
  refine wpAny_bind (wpAny_runValue (codeAny_builtin F.entry_proto_collect ?_))
  rw [Around.under_plainId F.plain_proto_collect _]
  show wpAny _ A.in1 (newList [] >>= fun l => again (.builtin "list.__iadd__" ⟨[l, .ref a], []⟩)) _ _ s5
  refine wpAny_bind (wpAny_newObj_type ?_)
  refine wpAny_pure ⟨plainId_quiet F.plain_list_iadd _, codeAny_builtin F.entry_list_iadd ?_⟩
  rw [Around.under_plainId F.plain_list_iadd _]
  generalize hs6 : ({ s5 with heap := s5.heap.push { cls := .type "list", data := .seq ([] : List Value).toArray } } : Shared) = s6
  have k6 : ∀ b o, s5.heap.get? b = some o → s6.heap.get? b = some o := fun b o e => by rw [← hs6]; exact Heap.get?_push_of_some _ e
  show wpAny _ A.in1 (Builtin.List.listExtendWith (.ref s5.heap.objs.size) (.ref a) (.ref s5.heap.objs.size)) _ _ _
  unfold Builtin.List.listExtendWith
  refine wpAny_bind (wpAny_typeOf (Heap.IsGen.typeIs (M.isgen.keeps k6)) ?_)
  have h1 : Builtin.List.listSameRef (.ref s5.heap.objs.size) (.ref a) = false := by simp [Builtin.List.listSameRef, hSI]
  have h2 : (Value.type "generator" == Value.type "list") = false := by decide
  have h3 : (Value.type "generator" == Value.type "tuple") = false := by decide
  simp only [h1, h2, h3, Bool.or_false, Bool.false_eq_true, if_false]
  refine wpAny_bind (wpAny_pyIter_gen (M.isgen.keeps k6) ?_)
  refine wpAny_bind (wpAny_holding ?_)
  unfold Builtin.List.listLengthHint
  refine wpAny_bind (wpAny_specialOf (Heap.IsGen.typeIs (M.isgen.keeps k6)) F.gen_no_len ?_)
  show wpAny _ A.in1 (specialOf (Value.ref a) (Str.ofString "__length_hint__") >>= _) _ _ _
  refine wpAny_bind (wpAny_specialOf (Heap.IsGen.typeIs (M.isgen.keeps k6)) F.gen_no_hint ?_)
  refine wpAny_pure ?_
  show wpAny _ A.in1 (rule "list.extend.makes-room" >>= fun _ => Builtin.List.listTouch (.ref s5.heap.objs.size) >>= fun _ =>
    again (.builtin "list.extend.loop" ⟨[.ref s5.heap.objs.size, .ref a, .ref s5.heap.objs.size], []⟩)) _ _ _
  refine wpAny_bind (wpAny_rule ?_)
  have hS₁ : s6.heap.get? s5.heap.objs.size = some { cls := .type "list", data := .seq ([] : List Value).toArray } := by rw [← hs6]; exact Heap.get?_push_size _ rfl
  refine wpAny_bind ?_
  show wpAny _ A.in1 (updateSeq s5.heap.objs.size (·.push .none) >>= fun _ => updateSeq s5.heap.objs.size (·.pop)) _ _ _
  refine wpAny_bind (wpAny_updateSeq hS₁ rfl ?_)
  have hS₂ := Heap.get?_update_self (Obj.mapSeq (·.push Value.none)) hS₁ rfl
  refine wpAny_updateSeq hS₂ rfl ?_
  have hS₃ := Heap.get?_update_self (Obj.mapSeq (·.pop)) hS₂ rfl
  generalize hs7 : ({ s6 with heap := (s6.heap.update s5.heap.objs.size (Obj.mapSeq (·.push Value.none))).update s5.heap.objs.size (Obj.mapSeq (·.pop)) } : Shared) = s7
  obtain ⟨c7, hS7⟩ : ∃ c, s7.heap.get? s5.heap.objs.size = some (lstObj #[] c) := ⟨_, by rw [← hs7]; exact hS₃⟩
  have k7 : ∀ b o, s5.heap.get? b = some o → s7.heap.get? b = some o := fun b o e => by
    have hb := Ne.symm (Nat.ne_of_lt (Heap.lt_size e))
    rw [← hs7]
    exact (Heap.get?_update_other _ _ hb).trans ((Heap.get?_update_other _ _ hb).trans (k6 b o e))
  obtain ⟨Xg, hg, hat, back⟩ := M.gat (s6 := s7) (Ac := A.in1.in1) hh hf k7 (by rw [← hs7, ← hs6]) (by rw [← hs7, ← hs6]) (C := cTup s5.heap.objs.size Qt) (pl := [(s5.heap.objs.size, lstObj #[] c7)]) ⟨#[], c7, rfl, .nil⟩ rfl (fun p hp => by
    rw [List.mem_singleton.mp hp]
    exact ⟨hS7, Nat.le_refl _, fun v q => by cases q⟩) (rd s5.heap.objs.size)
  obtain ⟨s4, cl, L, cv, fp, pn, rfl, hcv⟩ := hg
  refine wpAny_pure ⟨plainId_quiet F.plain_extend_loop _, ?_⟩
  refine extend_loop (X := Cxg X A.in1.in1 s4 H scope (gEnv scope cl L cv builtinsNs X.env) fp pn) (A := A) hh hd (Nat.ne_of_lt M.lt) (Nat.ne_of_lt hcl) (fun ys acc c pl σ' H' s' I' e' rv hz q _ => ?_) sizeLine s7 hat
  show wpAny _ A (load s5.heap.objs.size >>= _) _ _ s'
  refine wpAny_bind (wpAny_load e' ?_)
  exact wpAny_pure (hQ acc.toList ys H' s' (back I') rv hz q)

theorem call_tuple_g {E : Value → Shared → Prop} {Q : VK} {k : Nat} (hr : Room k X.A) (M : MadeAt X pins σ H J elt tg iter ifs scope own pos a gn s5)
    (rd : ∀ S, Reads X (cTup S fun ys H' => ∀ p, H' p = none → Q (.ref p) (upd H' p (.tup ys))) X.A.in4 H J elt tg ifs scope own σ) :
    wpAny (model X.prog X.w) X.A (call (.type "tuple") [.ref a]) (EP X pins σ Q) E s5 := by
  refine callType_codes (Q₁ := fun obj s₁ => s₁.TypeIs obj "tuple" ∧ EP X pins σ Q obj s₁) F.called_tuple (F.typeCall_tuple_1 _) F.entry_object_init ?_ fun obj s₁ h₁ => ?_
  · refine codeAny_of_tree ?_
    show wpAny _ X.A.in1.in1 (do checkBuiltinCall "tuple.__new__" ⟨[.type "tuple", .ref a], []⟩; again (.builtin "tuple.__new__" ⟨[.type "tuple", .ref a], []⟩)) _ _ s5
    refine wpAny_bind (wpAny_of_eq (F.newCall_tuple_1 _) (wpAny_pure ⟨plainId_quiet F.plain_tuple_new _, codeAny_builtin F.entry_tuple_new ?_⟩))
    rw [Around.under_plainId F.plain_tuple_new _]
    have hsub := sub_tuple_self
    have hinit := init_tuple_lookup
    have hmh := madeHere_tuple
    have hTI := Heap.IsGen.typeIs M.isgen
    wp_walk using wpAny_typeOf hTI, collect_g (A := X.A.in1.in1) (Qt := fun ys H' => ∀ p, H' p = none → Q (.ref p) (upd H' p (.tup ys))) hr.hd hr.depth M.inv.ok.frames M rd
    intro acc ys H' s' I' rv hz q
    show wpAny _ _ (Builtin.Tuple.tupleExact acc.toArray >>= fun v => ret v) _ _ _
    unfold Builtin.Tuple.tupleExact
    have hl := rv.length
    refine wpAny_bind (wpAny_newObj_type ?_ (by show acc.toArray.size ≤ sizeLine; rw [List.size_toArray]; omega))
    refine wpAny_pure ⟨⟨_, Heap.get?_push_size _ rfl, rfl⟩, ?_⟩
    have hn : H' s'.heap.objs.size = none := I'.hok.fresh (Nat.le_refl _)
    exact ⟨.ref s'.heap.objs.size, upd H' s'.heap.objs.size (.tup ys), I'.laid (t' := s'.toks) (fun b o e => Heap.get?_push_of_some _ e) (Nat.le_refl _) ⟨hz, acc, rv, ⟨_, Heap.get?_push_size _ rfl, rfl, _, rfl⟩⟩, rfl, q _ hn⟩
  · exact ⟨h₁.1, F.args_object_init_2 obj _, object_init_meets F.called_tuple.init.lookup F.called_tuple.made (by decide) X.prog X.w X.A.in1 _ s₁ ⟨h₁.1, rfl, h₁.2⟩⟩
end
end GX
end

section
set_option Elab.async false
set_option autoImplicit false
set_option linter.all false
set_option maxRecDepth 100000
set_option maxHeartbeats 4000000
/-! enumerate of a tuple; max and min of a tuple of ints. -/
namespace E1
open PySem PySem.Spec PyProof.Rows L2 GX PySem.W
theorem meets_enum_of {v : Value} {o : Obj} {Hh : Heap → Prop} (B : Begins v o Hh) :
    Meets (Builtin.«enumerate.__new__» ⟨[.type "enumerate", v], []⟩) (fun _ R s => Hh s.heap ∧
      R (.ok (.ret (.ref (s.heap.push o).objs.size))) { s with heap := (s.heap.push o).push { cls := .type "enumerate", data := .fields #[.none, .bool false, .ref s.heap.objs.size, rawInt 0, .none, .none] } }) :=
  .of_wp fun prog w A R s h => by
    obtain ⟨hp, g, d, tk, os⟩ := s
    obtain ⟨h1, h⟩ := h
    have hsub := sub_enumerate
    have it_ : ∀ {A' : Around} {E : Value → Shared → Prop} {Q : Value → Shared → Prop}, Q (.ref hp.objs.size) ⟨hp.push o, g, d, tk, os⟩ → wpAny (model prog w) A' (pyIter v) Q E ⟨hp, g, d, tk, os⟩ :=
      fun q => B.iter prog w _ _ ⟨hp, g, d, tk, os⟩ _ h1 q
    wp_walk using it_
    refine wpAny_stack_any fun st => wpAny_pure ?_
    split
    · rename_i c _ _ _ _ _
      cases (c == Value.type "enumerate") <;> (wp_walk using it_; exact ⟨_, rfl, h⟩)
    · wp_walk using it_
      exact ⟨_, rfl, h⟩
theorem call_enum_tup {prog : Program} {w : World} {A : Around} {E : Value → Shared → Prop} {s : Shared} {l : Addr} {items : Array Value} {Q : Value → Shared → Prop} (hL : s.heap.IsTuple l items)
    (h : ∀ h', IsEnum h' (s.heap.objs.size + 1) s.heap.objs.size 0 .none → h'.IsTupleIter s.heap.objs.size l 0 → (∀ b o, s.heap.get? b = some o → h'.get? b = some o) → Q (.ref (s.heap.objs.size + 1)) { s with heap := h' }) :
    wpAny (model prog w) A (call (.type "enumerate") [.ref l]) Q E s := by
  refine callType_new F.called_enumerate (by decide) (F.typeCall_enumerate_1 _) (F.newCall_enumerate_1 _) (fun obj => F.args_object_init_2 obj _) F.entry_enumerate_new
    (meets_enum_of (begins_tuple l items)) ⟨hL, ?_⟩
  generalize hob : ({ cls := .type "tuple_iterator", data := .fields #[.ref l, .int 0 0] } : Obj) = ob
  have hf : ob.isFreed = false := by rw [← hob]; rfl
  have hz : (s.heap.push ob).objs.size = s.heap.objs.size + 1 := Heap.size_push ..
  show _ ∧ _
  rw [hz]
  have he : IsEnum ((s.heap.push ob).push { cls := .type "enumerate", data := .fields #[.none, .bool false, .ref s.heap.objs.size, rawInt 0, .none, .none] }) (s.heap.objs.size + 1) s.heap.objs.size 0 .none := by
    have := Heap.get?_push_size (s.heap.push ob) (o := { cls := .type "enumerate", data := .fields #[.none, .bool false, .ref s.heap.objs.size, rawInt 0, .none, .none] }) rfl
    rw [hz] at this
    exact this
  refine ⟨⟨_, he, rfl⟩, h _ he ?_ fun b o x => Heap.get?_push_of_some _ (Heap.get?_push_of_some _ x)⟩
  subst hob
  exact ⟨_, Heap.get?_push_of_some _ (Heap.get?_push_size _ rfl), rfl, rfl⟩
/-- the tuple at a, each item in a new pair -/
def IteT (K : PySem.W.Frag) (a : Addr) : It :=
  ⟨fun i H => ∃ (xs : List V) (x : V), SqT K H a xs ∧ xs[i]? = some x, fun i H v H' => ∃ T x, v = .ref T ∧ H T = none ∧ H' = upd H T (.tup [.int (i : Nat), x]) ∧ ∀ xs, SqT K H a xs → xs[i]? = some x, fun i H => ∃ xs : List V, SqT K H a xs ∧ xs.length ≤ i⟩
theorem apart {h : Heap} {a e it : Addr} {c : Int} {old : Value} {i : Nat} {items : Array Value} (he : IsEnum h e it c old) (hi : h.IsTupleIter it a i) (ht : h.IsTuple a items) : e ≠ a ∧ it ≠ a := by
  obtain ⟨o, ho, hc, _⟩ := ht
  constructor
  · intro z
    rw [z] at he
    have he : h.get? a = some _ := he
    rw [ho] at he
    cases he
    exact absurd hc (by simp)
  · intro z
    obtain ⟨o2, h2, c2, _⟩ := hi
    rw [z, ho] at h2
    cases h2
    rw [hc] at c2
    exact absurd c2 (by simp)
theorem turn_enumT {P : Program} {w : World} {K : PySem.W.Frag} {elts : List Expr} {kk : Nat} {tpos : Pos} (a e it : Addr) :
    Turn P w K (.Tuple elts kk tpos) (IteT K a) [e, it] e (fun i h => (∃ old, IsEnum h e it ((i : Nat) : Int) old) ∧ h.IsTupleIter it a i ∧ e ≠ it) where
  mem := by simp
  obj := fun i h st b hb => by
    obtain ⟨⟨old, he⟩, ⟨o, ho, hc, hd⟩, _⟩ := st
    rcases (show b = e ∨ b = it by simpa using hb) with z | z
    · rw [z]; exact ⟨_, he, fun v q => nomatch q⟩
    · rw [z]; exact ⟨o, ho, fun v q => by rw [hd] at q; cases q⟩
  keep := fun i h h' st k => let ⟨⟨old, he⟩, hi, hne⟩ := st; ⟨⟨old, k e (by simp) _ he⟩, hi.at fun o q => k it (by simp) o q, hne⟩
  item := by
    intro X hP hw hK hc i pins s σ H E I hf st hg
    subst hP hw hK
    obtain ⟨⟨old, he⟩, hit, hne⟩ := st
    obtain ⟨xs, x, hq, hx⟩ := hg
    obtain ⟨its, rv, p, hz⟩ := I.tuple hq
    obtain ⟨u, hu, ru⟩ := rv.get hx
    have p' : s.heap.IsTuple a its.toArray := p
    obtain ⟨n1, n2⟩ := apart he hit p'
    have hel : e < s.heap.objs.size := Heap.lt_size he
    have hil : it < s.heap.objs.size := by obtain ⟨_, q, _⟩ := hit; exact Heap.lt_size q
    have hlt : i < its.toArray.size := by
      have := (List.getElem?_eq_some_iff.mp hu).1
      simpa using this
    refine wpAny_pyNext_enum_itemC (Draws.tuple (A := X.A.in1) (I.ok.hd hc) it a (Ne.symm n2) its.toArray) he ⟨hit, p'⟩ hlt hne (by simp [hne, n1]) fun x' h' tk hx' ho hst hT hsz hk => ?_
    have ex : x' = u := by
      have hx' : its.toArray[i]? = some x' := hx'
      have : its[i]? = some x' := by simpa using hx'
      rw [hu] at this; exact (Option.some.inj this).symm
    subst ex
    refine ⟨_, rfl, wpAny_letOwnedTupleGo_enum (s := { s with heap := h', toks := tk + 1 }) ho fun h'' he' sb => ?_⟩
    have hT2 : h''.get? s.heap.objs.size = some { cls := .type "tuple", data := .seq #[.int i tk, x'] } := (sb.2 _ (Nat.ne_of_gt hel)).trans hT
    have new : ObjOk X.prog X.w (upd H s.heap.objs.size (.tup [.int (i : Nat), x])) h'' s.heap.objs.size (.tup [.int (i : Nat), x]) :=
      ⟨by show 2 ≤ sizeLine; decide, [.int i tk, x'], .cons ⟨_, rfl⟩ (.cons ru .nil), ⟨_, hT2, rfl, _, rfl⟩⟩
    have I1 : Inv X pins σ (upd H s.heap.objs.size (.tup [.int (i : Nat), x])) { s with heap := h'', toks := tk + 1 } :=
      I.turnedNew (ch := [e, it]) (fun b ob hb q => (sb.2 b (fun z => hb (by simp [z]))).trans (hk b ob (fun z => hb (by simp [z])) (fun z => hb (by simp [z])) q)) hf (Nat.le_refl _) new
    refine ⟨.ref s.heap.objs.size, _, I1, rfl, ⟨_, x, rfl, I.hok.fresh (Nat.le_refl _), rfl, fun ys hy => ?_⟩, ⟨⟨x', ?_⟩, hst.1.at fun o q => (sb.2 it (Ne.symm hne)).trans q, hne⟩, fun b hb => ?_⟩
    · rw [I.tuple_inj hy hq]; exact hx
    · have e1 : ((i + 1 : Nat) : Int) = (i : Int) + 1 := by omega
      rw [e1]; exact he'
    · have hb' : b < s.heap.objs.size := by
        rcases (show b = e ∨ b = it by simpa using hb) with z | z
        · rw [z]; exact hel
        · rw [z]; exact hil
      rw [upd_ne (Nat.ne_of_lt hb')]
      exact (hf b hb).1
  done := by
    intro X hP hw hK hc i pins s σ H E I hf st hg
    subst hP hw hK
    obtain ⟨⟨old, he⟩, hit, hne⟩ := st
    obtain ⟨xs, hq, hx⟩ := hg
    obtain ⟨its, rv, p, hz⟩ := I.tuple hq
    have p' : s.heap.IsTuple a its.toArray := p
    obtain ⟨n1, n2⟩ := apart he hit p'
    obtain ⟨f0, f1, f2, f3, f4, f5⟩ := hf it (by simp)
    have hl := rv.length
    have hT : s.TypeIs (.ref e) "enumerate" := ⟨_, he, rfl⟩
    unfold pyNext
    refine wpAny_bind (wpAny_attempt (wpAny_callSpecial?_slot (name := Str.ofString "__next__") hT F.slot_enumerate_next
      (wpAny_call_entry F.slot_enumerate_next hT F.entry_enumerate_next ?_ (F.args_enumerate_next_1 _))))
    show wpAny _ _ (field (.ref e) 2 >>= _) _ _ _
    refine wpAny_bind (wpAny_field he rfl (x := .ref it) rfl ?_)
    refine wpAny_bind (wpAny_nextOf_tuple_end (I.ok.hd hc) hit p' (by simp; omega) fun h' x eb hx' => ?_)
    obtain ⟨o, ho, hoc⟩ := hx'
    refine wpAny_bind (wpAny_isInstance (T := "StopIteration") (b := true) ⟨o, ho, hoc⟩ isSubtype_stop ?_)
    exact wpAny_pure ⟨rfl, I.turned (t' := s.toks) (fun b o hb q => eb b o hb q) f0 f1 f3 f4 f5⟩
  self := fun A i s Q E st h => let ⟨⟨_, he⟩, _⟩ := st; wpAny_pyIter_enum he h
def iEnumT (K : PySem.W.Frag) (ta : TA) : TI := fun σ H R => ta σ H fun vs H1 => ∃ a xs, vs = [.ref a] ∧ SqT K H1 a xs ∧ R (IteT K a) H1
theorem pi_enumT {X : Cx} {e : Expr} {ta : TA} {p pos tpos : Pos} {elts : List Expr} {kk : Nat} (hg : Gl X "enumerate") (hm : X.mg "enumerate" = none) (ha : PA X [e] ta) (hs : starEach [e] X.env = [(false, eval e X.env)]) :
    PI X (.Tuple elts kk tpos) (.Call (.Name "enumerate" p) [e] [] pos) (iEnumT X.K ta) := by
  refine ⟨fun pins s σ H R I h => ?_⟩
  refine Call_ (ld_blt I hg hm boot_enumerate (PyProof.Rows.callWith_type1 (thn (ha.run pos pins s σ H _ I h) fun us s1 ⟨vs, H1, I1, r1, q1⟩ => ?_) hs rfl))
  obtain ⟨a, xs, ex, hq, q⟩ := q1
  subst ex
  cases r1 with
  | cons r rr =>
    cases rr
    cases r
    obtain ⟨its, rv, p', hz⟩ := I1.tuple hq
    refine call_enum_tup (items := its.toArray) p' fun h' he hit hk => wpAny_pyIter_enum he ?_
    have I2 : Inv X pins σ H1 { s1 with heap := h' } := I1.kept (t' := s1.toks) hk
    refine ⟨s1.heap.objs.size + 1, [s1.heap.objs.size + 1, s1.heap.objs.size], _, _, H1, rfl, I2, turn_enumT a (s1.heap.objs.size + 1) s1.heap.objs.size, ⟨⟨.none, he⟩, hit, Nat.succ_ne_self _⟩, fun b hb => ?_, q⟩
    have hle : s1.heap.objs.size ≤ b := by
      rcases (show b = s1.heap.objs.size + 1 ∨ b = s1.heap.objs.size by simpa using hb) with z | z
      · rw [z]; exact Nat.le_add_right _ _
      · rw [z]; exact Nat.le_refl _
    exact I1.fpOk hle (I1.hok.fresh hle)
/-! max, min of a tuple of ints -/
def rMaxT (K : PySem.W.Frag) : List V → Hp → VK → Prop := fun vs H Q => ∃ (a : Addr) (ns : List Int), vs = [V.ref a] ∧ SqT K H a (ns.map V.int) ∧ 0 < ns.length ∧ ∀ m, m ∈ ns → (∀ y, y ∈ ns → y ≤ m) → Q (.int m) H
theorem reads_ints {h : Heap} : ∀ {ns : List Int} {us : List Value}, IntsAre us ns → ∃ as, ReadsAll h us (ns.map PyData.int) as
  | [], _, .nil => ⟨_, .nil⟩
  | _ :: _, _, .cons n t r => let ⟨as, q⟩ := reads_ints r; ⟨_, .cons (.int n t) q⟩
theorem depth_ints : ∀ ns : List Int, PyData.depthAll (ns.map PyData.int) = 0
  | [] => rfl
  | n :: ns => by
    show max (PyData.depth (.int n)) (PyData.depthAll (ns.map PyData.int)) = 0
    rw [depth_ints ns]; rfl
theorem alike_ints (ns : List Int) : AlikeAll (ns.map PyData.int) := ⟨fun x hx y hy => by
  obtain ⟨i, _, rfl⟩ := List.mem_map.mp hx
  obtain ⟨j, _, rfl⟩ := List.mem_map.mp hy
  rfl, fun x hx => by
  obtain ⟨i, _, rfl⟩ := List.mem_map.mp hx
  exact fun z => by cases z⟩
theorem foldl_max : ∀ (ns : List Int) (n : Int), ns.foldl max n ∈ n :: ns ∧ ∀ y ∈ n :: ns, y ≤ ns.foldl max n
  | [], n => by simp
  | k :: ns, n => by
    obtain ⟨h1, h2⟩ := foldl_max ns (max n k)
    show ns.foldl max (max n k) ∈ _ ∧ ∀ y ∈ n :: k :: ns, y ≤ ns.foldl max (max n k)
    have h3 := h2 _ List.mem_cons_self
    refine ⟨?_, fun y hy => ?_⟩
    · rcases List.mem_cons.mp h1 with e | e
      · rw [e]
        rcases Int.le_total n k with z | z
        · rw [Int.max_eq_right z]; simp
        · rw [Int.max_eq_left z]; simp
      · exact List.mem_cons_of_mem _ (List.mem_cons_of_mem _ e)
    · rcases List.mem_cons.mp hy with e | hy
      · rw [e]; exact Int.le_trans (Int.le_max_left _ _) h3
      · rcases List.mem_cons.mp hy with e | hy
        · rw [e]; exact Int.le_trans (Int.le_max_right _ _) h3
        · exact h2 y (List.mem_cons_of_mem _ hy)
theorem cr_maxT {X : Cx} (hc : X.calm = true) (hu : X.A.units + 64 < cLine) : CallR X (.builtin "max") (rMaxT X.K) := by
  intro pins s σ H vs us Q I r h
  obtain ⟨a, ns, rfl, hs, hne, q⟩ := h
  obtain ⟨its, rv, hl, _⟩ := I.tuple hs
  rw [Vals.ref1 r]
  cases ns with
  | nil => cases hne
  | cons n ns =>
    obtain ⟨as, hr⟩ := reads_ints (h := s.heap) rv.ints
    refine max_tuple_data (vs := its.toArray) (I.ok.hd hc) hl (by simpa using hr) (alike_ints (n :: ns)) (by have := depth_ints (n :: ns); simp only [List.map_cons] at this; rw [this]; omega) fun i v h' tk bs hv hr' hk => ?_
    rw [maxD_ints] at hr'
    obtain ⟨h1, h2⟩ := foldl_max ns n
    cases hr' with
    | int _ t => exact ⟨.int _, H, I.kept hk, ⟨_, rfl⟩, q _ h1 h2⟩
def rMinT (K : PySem.W.Frag) : List V → Hp → VK → Prop := fun vs H Q => ∃ (a : Addr) (ns : List Int), vs = [V.ref a] ∧ SqT K H a (ns.map V.int) ∧ 0 < ns.length ∧ ∀ m, m ∈ ns → (∀ y, y ∈ ns → m ≤ y) → Q (.int m) H
theorem foldl_min : ∀ (ns : List Int) (n : Int), ns.foldl min n ∈ n :: ns ∧ ∀ y ∈ n :: ns, ns.foldl min n ≤ y
  | [], n => by simp
  | k :: ns, n => by
    obtain ⟨h1, h2⟩ := foldl_min ns (min n k)
    show ns.foldl min (min n k) ∈ _ ∧ ∀ y ∈ n :: k :: ns, ns.foldl min (min n k) ≤ y
    have h3 := h2 _ List.mem_cons_self
    refine ⟨?_, fun y hy => ?_⟩
    · rcases List.mem_cons.mp h1 with e | e
      · rw [e]
        rcases Int.le_total n k with z | z
        · rw [Int.min_eq_left z]; simp
        · rw [Int.min_eq_right z]; simp
      · exact List.mem_cons_of_mem _ (List.mem_cons_of_mem _ e)
    · rcases List.mem_cons.mp hy with e | hy
      · rw [e]; exact Int.le_trans h3 (Int.min_le_left _ _)
      · rcases List.mem_cons.mp hy with e | hy
        · rw [e]; exact Int.le_trans h3 (Int.min_le_right _ _)
        · exact h2 y (List.mem_cons_of_mem _ hy)
theorem cr_minT {X : Cx} (hc : X.calm = true) (hu : X.A.units + 64 < cLine) : CallR X (.builtin "min") (rMinT X.K) := by
  intro pins s σ H vs us Q I r h
  obtain ⟨a, ns, rfl, hs, hne, q⟩ := h
  obtain ⟨its, rv, hl, _⟩ := I.tuple hs
  rw [Vals.ref1 r]
  cases ns with
  | nil => cases hne
  | cons n ns =>
    obtain ⟨as, hr⟩ := reads_ints (h := s.heap) rv.ints
    refine min_tuple_data (vs := its.toArray) (I.ok.hd hc) hl (by simpa using hr) (alike_ints (n :: ns)) (by have := depth_ints (n :: ns); simp only [List.map_cons] at this; rw [this]; omega) fun i v h' tk bs hv hr' hk => ?_
    rw [minD_ints] at hr'
    obtain ⟨h1, h2⟩ := foldl_min ns n
    cases hr' with
    | int _ t => exact ⟨.int _, H, I.kept hk, ⟨_, rfl⟩, q _ h1 h2⟩
/-! sum of a tuple of ints -/
def rSumT (K : PySem.W.Frag) : List V → Hp → VK → Prop := fun vs H Q => ∃ (a : Addr) (ns : List Int), vs = [V.ref a] ∧ SqT K H a (ns.map V.int) ∧ Q (.int ns.sum) H
theorem cr_sumT {X : Cx} (hc : X.calm = true) : CallR X (.builtin "sum") (rSumT X.K) := by
  intro pins s σ H vs us Q I r h
  obtain ⟨a, ns, rfl, hs, q⟩ := h
  obtain ⟨its, rv, hl, _⟩ := I.tuple hs
  rw [Vals.ref1 r]
  have hi := rv.ints
  obtain ⟨xs, e⟩ := hi.allInts.items
  have hn : numsOf (intItems xs).toList = ns := by rw [← e]; exact hi.numsOf
  rw [nums_intItems] at hn
  rw [e] at hl
  refine PySem.W.ktm_sumG (I.ok.hd hc) hl fun h' tk t' hk => ⟨.int _, H, I.kept hk, ⟨t', ?_⟩, q⟩
  rw [preSum_eq, List.take_of_length_le (by simp), hn]
end E1
end

section
set_option Elab.async false
set_option linter.all false
set_option maxRecDepth 100000
/-! list.remove over data of any depth. -/
namespace GX
open PySem PySem.Spec PyProof.Rows L2
section
variable {X : Cx}
def rRemD (K : PySem.W.Frag) : V → List V → Hp → VK → Prop := fun x xs H Q => ∃ (a : Addr) (y : V) (d : PyData) (vs : List V) (ds : List PyData) (j : Nat), x = V.ref a ∧ xs = [y] ∧ H a = some (.lst vs) ∧ DpAll K H vs ds ∧ Dp K H y d ∧
  SeqAt.shaped (.list ds) = true ∧ SeqAt.shaped d = true ∧ (ds.findIdx? fun z => PyData.eqv z d) = some j ∧ Q .non (upd H a (.lst (vs.eraseIdx j)))
theorem mt_removeD (hu : X.A.units + 65 < cLine) : MtR X "list.remove" (rRemD X.K) := by
  intro pins s σ H x xs v us Q I rx rxs h
  obtain ⟨a, y, d, vs, ds, j, rfl, rfl, hH, hl, hy, sl, sd, hj, q⟩ := h
  cases rx
  cases rxs with
  | cons ry rt =>
    rename_i uy ut
    cases rt
    obtain ⟨bs, r1⟩ := Dp.reads I d y uy hy ry
    have hxs : PyData.canLayAll0 ds = true := SeqAt.canLay_of_shaped sl
    have hroom : X.A.units + 1 + min (PyData.depthAll ds) d.depth < cLine := room_in_shaped sd hu
    obtain ⟨z, its, n, rv, hlen, e⟩ := I.lstM hH
    obtain ⟨as, h4⟩ := Dp.readsAll I ds _ its hl rv
    have hn : its.length = ds.length := SeqAt.ReadsAll.length ds its as h4
    have hmap : its.map (SeqAt.readOf s.heap) = ds := SeqAt.readsAll_map ds its as hxs h4
    have hvl := rv.length
    have hsl := sizeLine_eq
    rw [List.findIdx?_eq_some_iff_getElem] at hj
    obtain ⟨hjd, hjt, hno⟩ := hj
    have hjl : j < its.length := by omega
    have hj' : j < its.toArray.size := by simpa using hjl
    have at_ : ∀ (m : Nat) (hm : m < its.toArray.size) (z' : PyData), ds[m]? = some z' → SeqAt.readOf s.heap its.toArray[m] = z' := by
      intro m hm z' hz'
      have hml : m < its.length := by simpa using hm
      rw [← hmap, List.getElem?_map, List.getElem?_eq_getElem hml] at hz'
      have e1 : SeqAt.readOf s.heap its[m] = z' := Option.some.inj (show some (SeqAt.readOf s.heap its[m]) = some z' from hz')
      simpa using e1
    refine call_meets PySem.F.slot_list_remove ⟨_, e, rfl⟩ PySem.F.entry_list_remove (PySem.F.args_list_remove_2 _ _)
      (SeqAt.list_removeAt a its.toArray n _ _ uy (fun u => PyData.eqv (SeqAt.readOf s.heap u) d) j hj' ?_ ?_ (by rw [List.size_toArray]; omega)) ⟨e, SeqAt.items_eqAt (vs := its.toArray) (show ReadsAll s.heap its.toArray.toList ds as from h4) r1 hxs (SeqAt.canLay_of_shaped sd) hroom, ?_⟩
    · show PyData.eqv (SeqAt.readOf s.heap its.toArray[j]) d = true
      rw [at_ j hj' _ (List.getElem?_eq_getElem hjd)]
      exact hjt
    · intro m hm hmj
      have hmd : m < ds.length := by omega
      show PyData.eqv (SeqAt.readOf s.heap its.toArray[m]) d = false
      rw [at_ m hm _ (List.getElem?_eq_getElem hmd)]
      have := hno m hmj
      simpa using this
    · refine ⟨.non, _, I.lset (its' := its.eraseIdx j) hH e ?_ (rv.eraseIdx j) ?_, rfl, q⟩
      · show its.toArray.eraseIdxIfInBounds j = (its.eraseIdx j).toArray
        rw [List.eraseIdxIfInBounds_toArray]
      · have := len_erase vs j
        omega
end
end GX
end

section
set_option Elab.async false
set_option linter.all false
set_option maxRecDepth 100000
set_option maxHeartbeats 4000000
/-! tuple * int: once, never, of nothing. -/
namespace GX
open PySem PySem.Spec PyProof.Rows L2
theorem tuple_mul_same (l : Addr) (items : Array Value) (n : Nat) (dd : Option Addr) (sl : Array (Option Value)) (x : Int) (u : Tok) (c0 : (decide (x < -(2 ^ 63)) || decide (x ≥ 2 ^ 63)) = false) (c1 : (items.isEmpty || x == 1) = true) :
    Meets (Builtin.«tuple.__mul__» ⟨[.ref l, .int x u], []⟩) (fun _ R s => s.heap.get? l = some { cls := .type "tuple", dict := dd, data := .seq items n, slots := sl } ∧
      R (.ok (.ret (Value.ref l))) s) :=
  .of_wp fun prog w A R s h => by
    obtain ⟨hp, g, d, tk, os⟩ := s
    obtain ⟨hl, h⟩ := h
    have f1 := AutoSeq1.idx_int
    wp_walk using wpAny_loadPart' hl
    repeat (first
      | (refine wpAny_ite_false (decide_eq_false (by rw [c0]; exact Bool.false_ne_true)) ?_; wp_walk using wpAny_loadPart' hl)
      | (refine wpAny_ite_true (decide_eq_true (by rw [c1])) ?_; wp_walk using wpAny_loadPart' hl))
    exact ⟨_, rfl, h⟩
theorem tuple_mul_none (l : Addr) (items : Array Value) (n : Nat) (dd : Option Addr) (sl : Array (Option Value)) (x : Int) (u : Tok) (c0 : (decide (x < -(2 ^ 63)) || decide (x ≥ 2 ^ 63)) = false) (c1 : (items.isEmpty || x == 1) = false) (c2 : (decide (x ≤ 0) || items.isEmpty) = true) :
    Meets (Builtin.«tuple.__mul__» ⟨[.ref l, .int x u], []⟩) (fun _ R s => s.heap.get? l = some { cls := .type "tuple", dict := dd, data := .seq items n, slots := sl } ∧
      R (.ok (.ret (Value.ref s.heap.objs.size))) { s with heap := s.heap.push { cls := Value.type "tuple", data := Data.seq #[] }, toks := s.toks }) :=
  .of_wp fun prog w A R s h => by
    obtain ⟨hp, g, d, tk, os⟩ := s
    obtain ⟨hl, h⟩ := h
    have f1 := AutoSeq1.idx_int
    wp_walk using wpAny_loadPart' hl
    repeat (first
      | (refine wpAny_ite_false (decide_eq_false (by rw [c0]; exact Bool.false_ne_true)) ?_; wp_walk using wpAny_loadPart' hl)
      | (refine wpAny_ite_false (decide_eq_false (by rw [c1]; exact Bool.false_ne_true)) ?_; wp_walk using wpAny_loadPart' hl)
      | (refine wpAny_ite_true (decide_eq_true (by rw [c2])) ?_; wp_walk using wpAny_loadPart' hl))
    exact ⟨_, rfl, h⟩
section
variable {X : Cx}
def rRepS (K : PySem.W.Frag) : R2 := fun x y H Q => ∃ l k xs, x = .ref l ∧ y = .int k ∧ SqT K H l xs ∧ (xs = [] ∨ k = 1) ∧ -(2 ^ 63) ≤ k ∧ k < 2 ^ 63 ∧ Q (.ref l) H
theorem op_repS : OpR X (binaryOp .Mult) (rRepS X.K) := by
  intro pins s σ H x y v u Q I rx ry h
  obtain ⟨l, k, xs, rfl, rfl, hT, hne, h1, h2, q⟩ := h
  cases rx
  obtain ⟨t, rfl⟩ := ry
  obtain ⟨its, r, ⟨⟨cls, dd, data, sl⟩, ho, hc, n, hd⟩, hs⟩ := I.tuple hT
  simp only at hc hd
  subst hc hd
  have hle : its.length = xs.length := r.length.symm
  have c0 : (decide (k < -(2 ^ 63)) || decide (k ≥ 2 ^ 63)) = false := by
    rw [decide_eq_false (by omega), decide_eq_false (by omega)] <;> rfl
  have c1 : (its.toArray.isEmpty || k == 1) = true := by
    rcases hne with e | e
    · subst e
      have : its = [] := List.eq_nil_of_length_eq_zero (by simpa using hle)
      subst this; rfl
    · subst e; simp
  refine wpAny_binaryOp_repeat_ref (T := "tuple") (U := "int") (by decide) ⟨_, ho, rfl⟩ (fun s' => typeIs_int s' k t) noFill_tuple_mul F.fills_int_mul F.slot_int_rmul repeat_tuple F.slot_int_index.lookup
    (call_meets F.slot_int_rmul (typeIs_int s k t) F.entry_int_rmul (F.args_int_rmul_2 _ _) (int_rmul_tuple k t l its.toArray n dd sl)
      ⟨ho, rfl, ⟨_, ho, rfl⟩, call_meets F.slot_tuple_mul ⟨_, ho, rfl⟩ F.entry_tuple_mul (F.args_tuple_mul_2 _ _) (tuple_mul_same l its.toArray n dd sl k t c0 c1) ⟨ho, ?_⟩⟩)
  exact ⟨.ref l, H, I, rfl, q⟩
def rRep0 (K : PySem.W.Frag) : R2 := fun x y H Q => ∃ l k xs, x = .ref l ∧ y = .int k ∧ SqT K H l xs ∧ xs ≠ [] ∧ -(2 ^ 63) ≤ k ∧ k ≤ 0 ∧ ∀ p, H p = none → Q (.ref p) (upd H p (.tup []))
theorem op_rep0 : OpR X (binaryOp .Mult) (rRep0 X.K) := by
  intro pins s σ H x y v u Q I rx ry h
  obtain ⟨l, k, xs, rfl, rfl, hT, hne, h1, h2, q⟩ := h
  cases rx
  obtain ⟨t, rfl⟩ := ry
  obtain ⟨its, r, ⟨⟨cls, dd, data, sl⟩, ho, hc, n, hd⟩, hs⟩ := I.tuple hT
  simp only at hc hd
  subst hc hd
  have hle : its.length = xs.length := r.length.symm
  have hn : its ≠ [] := fun e => hne (by
    rw [e] at hle
    exact List.eq_nil_of_length_eq_zero hle.symm)
  have hi : its.toArray.isEmpty = false := by
    cases its with
    | nil => exact absurd rfl hn
    | cons a b => rfl
  have c0 : (decide (k < -(2 ^ 63)) || decide (k ≥ 2 ^ 63)) = false := by
    rw [decide_eq_false (by omega), decide_eq_false (by omega)] <;> rfl
  have c1 : (its.toArray.isEmpty || k == 1) = false := by
    rw [hi, Bool.false_or]
    exact beq_eq_false_iff_ne.mpr (by omega)
  have c2 : (decide (k ≤ 0) || its.toArray.isEmpty) = true := by
    rw [hi, Bool.or_false]
    exact decide_eq_true (by omega)
  refine wpAny_binaryOp_repeat_ref (T := "tuple") (U := "int") (by decide) ⟨_, ho, rfl⟩ (fun s' => typeIs_int s' k t) noFill_tuple_mul F.fills_int_mul F.slot_int_rmul repeat_tuple F.slot_int_index.lookup
    (call_meets F.slot_int_rmul (typeIs_int s k t) F.entry_int_rmul (F.args_int_rmul_2 _ _) (int_rmul_tuple k t l its.toArray n dd sl)
      ⟨ho, rfl, ⟨_, ho, rfl⟩, call_meets F.slot_tuple_mul ⟨_, ho, rfl⟩ F.entry_tuple_mul (F.args_tuple_mul_2 _ _) (tuple_mul_none l its.toArray n dd sl k t c0 c1 c2) ⟨ho, ?_⟩⟩)
  refine ⟨.ref s.heap.objs.size, _, I.laid (t' := s.toks) (o := .tup []) (fun b ob q => Heap.get?_push_of_some _ q) (Nat.le_refl _) ?_, rfl, q _ (I.hok.fresh (Nat.le_refl _))⟩
  exact ⟨Nat.zero_le _, _, .nil, IsTup.new _ _⟩
end
end GX
end

section
set_option linter.all false
set_option maxRecDepth 100000
/-! My own small language: values, statements, and what they do. -/
namespace IX
open PySem

/-- plain data -/
inductive P where
  | non | bl (b : Bool) | int (i : Int) | str (s : Str) | tup (l : List P) | ref (i : Nat)
  deriving Inhabited
mutual
def P.dec : (a b : P) → Decidable (a = b)
  | .non, .non => .isTrue rfl
  | .bl a, .bl b => if h : a = b then .isTrue (by rw [h]) else .isFalse fun e => h (P.bl.inj e)
  | .int a, .int b => if h : a = b then .isTrue (by rw [h]) else .isFalse fun e => h (P.int.inj e)
  | .str a, .str b => if h : a = b then .isTrue (by rw [h]) else .isFalse fun e => h (P.str.inj e)
  | .ref a, .ref b => if h : a = b then .isTrue (by rw [h]) else .isFalse fun e => h (P.ref.inj e)
  | .tup a, .tup b => match P.decs a b with
    | .isTrue h => .isTrue (by rw [h])
    | .isFalse h => .isFalse fun e => h (P.tup.inj e)
  | .non, .bl _ | .non, .int _ | .non, .str _ | .non, .tup _ | .non, .ref _ => .isFalse fun e => nomatch e
  | .bl _, .non | .bl _, .int _ | .bl _, .str _ | .bl _, .tup _ | .bl _, .ref _ => .isFalse fun e => nomatch e
  | .int _, .non | .int _, .bl _ | .int _, .str _ | .int _, .tup _ | .int _, .ref _ => .isFalse fun e => nomatch e
  | .str _, .non | .str _, .bl _ | .str _, .int _ | .str _, .tup _ | .str _, .ref _ => .isFalse fun e => nomatch e
  | .tup _, .non | .tup _, .bl _ | .tup _, .int _ | .tup _, .str _ | .tup _, .ref _ => .isFalse fun e => nomatch e
  | .ref _, .non | .ref _, .bl _ | .ref _, .int _ | .ref _, .str _ | .ref _, .tup _ => .isFalse fun e => nomatch e
def P.decs : (a b : List P) → Decidable (a = b)
  | [], [] => .isTrue rfl
  | x :: xs, y :: ys => match P.dec x y, P.decs xs ys with
    | .isTrue h, .isTrue h' => .isTrue (by rw [h, h'])
    | .isFalse h, _ => .isFalse fun e => h (List.cons.inj e).1
    | _, .isFalse h => .isFalse fun e => h (List.cons.inj e).2
  | [], _ :: _ => .isFalse fun e => nomatch e
  | _ :: _, [] => .isFalse fun e => nomatch e
end
instance : DecidableEq P := P.dec

mutual
def P.toD : P → PyData
  | .non => .none
  | .bl b => .bool b
  | .int i => .int i
  | .str s => .str s
  | .tup l => .tuple (P.toDs l)
  | .ref _ => .none
def P.toDs : List P → List PyData
  | [] => []
  | x :: xs => P.toD x :: P.toDs xs
end
/-- == of Python -/
def P.eqv (a b : P) : Bool := PyData.eqv a.toD b.toD
mutual
/-- the depth is small, texts are plain -/
def P.fit : Nat → P → Bool
  | _, .non | _, .bl _ | _, .int _ => true
  | _, .str x => PyData.strOk x
  | _, .ref _ => false
  | 0, .tup _ => false
  | k + 1, .tup l => P.fits k l
def P.fits : Nat → List P → Bool
  | _, [] => true
  | k, x :: xs => P.fit k x && P.fits k xs
end

/-- a value of a frame: data (with list numbers), the script -/
inductive D where
  | p (x : P) | scr (xs : List P)
  deriving Inhabited
abbrev Env := List (Option D)
/-- the lists -/
abbrev Mem := List (List P)

inductive BO | add | sub | mul | fdiv | mod | pow deriving DecidableEq, Repr
inductive CO | eq | ne | lt | le | gt | ge | is | isnot | isin | notin deriving DecidableEq, Repr
inductive BI | len | abs | int | isint | isbool | istup | isstr | islist | max | min | sum | tuple | list | all | any | bool | str | sorted | rv deriving DecidableEq, Repr
inductive IK | rng | seq | enm | zip deriving DecidableEq, Repr
inductive GK | tuple | sum | all | any deriving DecidableEq, Repr
inductive MT | append | pop | popi | insert | index | count | extend | reverse | remove deriving DecidableEq, Repr
inductive T | nm (i : Nat) | tp (l : List T)
  deriving Inhabited

inductive E where
  | v (i : Nat) | c (x : P) | g (n : Str)
  | bin (o : BO) (a b : E) | neg (a : E) | not (a : E)
  | cmp (o : CO) (a b : E) | cmp2 (o o' : CO) (a b c : E)
  | and (l : List E) | or (l : List E)
  | ife (t a b : E)
  | tup (l : List E) | lst (l : List E)
  | idx (a i : E) | slc (a : E) (lo hi : Option E)
  | call (f : Nat) (l : List E) (ix : List Nat)
  | bi (b : BI) (l : List E)
  | mt (m : MT) (o : E) (l : List E)
  | tru (a : E)
  | lc (vs : List Nat) (elt : E) (t : T) (k : IK) (src ifs : List E)
  | lc2 (vs : List Nat) (elt : E) (t : T) (k : IK) (src ifs : List E) (vs1 : List Nat) (t1 : T) (k1 : IK) (src1 ifs1 : List E)
  | gen (gk : GK) (vs : List Nat) (elt : E) (t : T) (k : IK) (src ifs : List E)
  deriving Inhabited
inductive S where
  | set (t : T) (e : E) | par (is : List Nat) (es : List E) | seti (o i e : E) | aug (i : Nat) (o : BO) (e : E) | augi (a i : E) (o : BO) (e : E)
  | ife (t : E) (a b : List S) | loop (t : T) (k : IK) (src : List E) (body : List S) | whl (t : E) (body : List S)
  | ret (e : E) | retn | ex (e : E) | brk | cnt | pas | stk
  deriving Inhabited
structure Fn where
  np : Nat
  ns : Nat
  body : List S

/-! ### what they do -/
def one (x : P) (M : Mem) : Option (D × Mem) := some (.p x, M)
def newl (xs : List P) (M : Mem) : Option (D × Mem) := if xs.length ≤ sizeLine then some (.p (.ref M.length), M ++ [xs]) else none
def mulOk (i j : Int) : Bool := decide (i.natAbs.log2 + j.natAbs.log2 < 1000000) || (decide (-(2 ^ 64) < i) && decide (i < 2 ^ 64)) || (decide (-(2 ^ 64) < j) && decide (j < 2 ^ 64))
def divOk (j : Int) : Bool := (decide (0 < j) && decide (j.natAbs.log2 < 9000)) || (decide (j ≠ 0) && decide (j.natAbs < 1073741824))
/-- all of them are data -/
def datas : List D → Option (List P)
  | [] => some []
  | .p x :: r => do
    let xs ← datas r
    some (x :: xs)
  | _ => none
/-- a list's items -/
def itemsL (M : Mem) : D → Option (List P)
  | .p (.ref i) => M[i]?
  | .scr xs => some xs
  | _ => none
/-- the items of a list or a tuple -/
def items (M : Mem) : D → Option (List P)
  | .p (.tup l) => some l
  | .p (.ref i) => M[i]?
  | .scr xs => some xs
  | _ => none
def binop : BO → D → D → Mem → Option (D × Mem)
  | .add, .p (.int a), .p (.int b), M => one (.int (a + b)) M
  | .add, .p (.tup a), .p (.tup b), M => if a.length + b.length ≤ sizeLine then one (.tup (a ++ b)) M else none
  | .add, .p (.ref i), .p (.ref j), M => do
    let a ← M[i]?
    let b ← M[j]?
    newl (a ++ b) M
  | .sub, .p (.int a), .p (.int b), M => one (.int (a - b)) M
  | .mul, .p (.int a), .p (.int b), M => if mulOk a b then one (.int (a * b)) M else none
  | .mul, .p (.tup a), .p (.int k), M => if decide (-(2 ^ 63) ≤ k) && decide (k ≤ 1000) && decide (a.length ≤ 1000) then one (.tup (List.replicate k.toNat a).flatten) M else none
  | .mul, .p (.ref i), .p (.int k), M => do
    let a ← M[i]?
    if a.length * k.toNat ≤ sizeLine && decide (-(2 ^ 63) ≤ k) && decide (k < 2 ^ 63) then newl (List.replicate k.toNat a).flatten M else none
  | .fdiv, .p (.int a), .p (.int b), M => if divOk b then one (.int (a.fdiv b)) M else none
  | .mod, .p (.int a), .p (.int b), M => if b ≠ 0 then one (.int (a.fmod b)) M else none
  | .pow, .p (.int a), .p (.int b), M => if decide (0 ≤ b) && decide (b ≤ 1000000) && decide (a.natAbs < 2 ^ 64) then one (.int (a ^ b.toNat)) M else none
  | _, _, _, _ => none
/-- data that == compares -/
def eqd (M : Mem) : D → D → Option Bool
  | .p (.ref i), .p (.ref j) => do
    let a ← M[i]?
    let b ← M[j]?
    if P.fits 63 a && P.fits 63 b then some ((P.tup a).eqv (.tup b)) else none
  | .p a, .p b => if a.fit 64 && b.fit 64 then some (a.eqv b) else none
  | _, _ => none
def flat : P → Bool
  | .tup _ => false
  | .ref _ => false
  | _ => true
def isLst : D → Bool
  | .p (.ref _) => true
  | _ => false
def cmpop : CO → D → D → Mem → Option Bool
  | .eq, a, b, M => eqd M a b
  | .ne, a, b, M => (eqd M a b).map (!·)
  | .lt, .p (.int a), .p (.int b), _ => some (decide (a < b))
  | .le, .p (.int a), .p (.int b), _ => some (decide (a ≤ b))
  | .gt, .p (.int a), .p (.int b), _ => some (decide (b < a))
  | .ge, .p (.int a), .p (.int b), _ => some (decide (b ≤ a))
  | .is, .p a, .p .non, _ => some (decide (a = .non))
  | .isnot, .p a, .p .non, _ => some (!decide (a = .non))
  | .is, .p (.bl a), .p (.bl b), _ => some (a == b)
  | .isnot, .p (.bl a), .p (.bl b), _ => some (!(a == b))
  | .isin, .p a, s, M => do
    let xs ← items M s
    if flat a && xs.all flat || isLst s && (a.fit 63 && P.fits 63 xs) then some (xs.any fun y => y.eqv a) else none
  | .notin, .p a, s, M => do
    let xs ← items M s
    if flat a && xs.all flat || isLst s && (a.fit 63 && P.fits 63 xs) then some (!xs.any fun y => y.eqv a) else none
  | _, _, _, _ => none
def truth (M : Mem) : D → Option Bool
  | .p .non => some false
  | .p (.bl b) => some b
  | .p (.int i) => some (i != 0)
  | .p (.tup l) => some (!l.isEmpty)
  | .p (.ref i) => M[i]?.map fun xs => !xs.isEmpty
  | .scr xs => some (!xs.isEmpty)
  | _ => none
/-- Python's index into n items -/
def pix (n : Nat) (i : Int) : Option Nat := if 0 ≤ i then (if i < n then some i.toNat else none) else if -(n : Int) ≤ i then some (i + n).toNat else none
def atx (xs : List P) (i : Int) : Option P := (pix xs.length i).bind fun j => xs[j]?
def clip (n d : Nat) : Option Int → Nat
  | none => d
  | some v => if v < 0 then (v + (n : Int)).toNat else min v.toNat n
def cutp (xs : List P) (lo hi : Option Int) : List P := (xs.drop (clip xs.length 0 lo)).take (clip xs.length xs.length hi - clip xs.length 0 lo)
def index (a i : D) (M : Mem) : Option P := match i with
  | .p (.int k) => (items M a).bind fun xs => atx xs k
  | _ => none
def slice (a : D) (lo hi : Option Int) (M : Mem) : Option (D × Mem) := match a with
  | .p (.tup l) => one (.tup (cutp l lo hi)) M
  | .p (.ref i) => M[i]?.bind fun xs => newl (cutp xs lo hi) M
  | .scr xs => newl (cutp xs lo hi) M
  | _ => none
def intsP : List P → Option (List Int)
  | [] => some []
  | .int i :: r => (intsP r).map (i :: ·)
  | _ => none
def truths : List P → Option (List Bool)
  | [] => some []
  | x :: r => do
    let b ← truth [] (.p x)
    let bs ← truths r
    some (b :: bs)
def maxI : Int → List Int → Int
  | a, [] => a
  | a, b :: r => maxI (if b > a then b else a) r
def minI : Int → List Int → Int
  | a, [] => a
  | a, b :: r => minI (if b < a then b else a) r
def bfun (b : BI) (xs : List D) (M : Mem) : Option (D × Mem) := match b, xs with
  | .rv, [.p (.tup l)] => one (.tup l.reverse) M
  | .len, [d] => (items M d).bind fun l => one (.int l.length) M
  | .abs, [.p (.int i)] => one (.int (if i < 0 then -i else i)) M
  | .int, [.p (.int i)] => one (.int i) M
  | .int, [.p (.bl b)] => one (.int (if b then 1 else 0)) M
  | .bool, [.p (.bl b)] => one (.bl b) M
  | .bool, [.p (.int i)] => one (.bl (i != 0)) M
  | .isint, [.p x] => one (.bl (match x with | .int _ => true | .bl _ => true | _ => false)) M
  | .isbool, [.p x] => one (.bl (match x with | .bl _ => true | _ => false)) M
  | .istup, [.p x] => one (.bl (match x with | .tup _ => true | _ => false)) M
  | .isstr, [.p x] => one (.bl (match x with | .str _ => true | _ => false)) M
  | .max, [.p (.int a), .p (.int b)] => one (.int (if b > a then b else a)) M
  | .min, [.p (.int a), .p (.int b)] => one (.int (if b < a then b else a)) M
  | .max, [d] => do
    let l ← items M d
    let is ← intsP l
    match is with
    | [] => none
    | a :: r => one (.int (maxI a r)) M
  | .min, [d] => do
    let l ← items M d
    let is ← intsP l
    match is with
    | [] => none
    | a :: r => one (.int (minI a r)) M
  | .sum, [d] => do
    let l ← items M d
    let is ← intsP l
    one (.int is.sum) M
  | .tuple, [d] => (items M d).bind fun l => one (.tup l) M
  | .list, [d] => (items M d).bind fun l => newl l M
  | _, _ => none
/-- xs.m(..): the value, the list behind it -/
def mtf (m : MT) (M : Mem) (xs : List P) (as : List D) : Option (P × List P) := match m, as with
  | .append, [.p x] => if xs.length < sizeLine then some (.non, xs ++ [x]) else none
  | .pop, [] => (xs[xs.length - 1]?).map fun y => (y, xs.dropLast)
  | .popi, [.p (.int i)] => if decide (-(2 ^ 63) ≤ i) && decide (i < 2 ^ 63) then (pix xs.length i).bind fun k => (xs[k]?).map fun y => (y, xs.eraseIdx k) else none
  | .reverse, [] => some (.non, xs.reverse)
  | .extend, [.p (.ref j)] => (M[j]?).bind fun ys => if xs.length + ys.length ≤ sizeLine then some (.non, xs ++ ys) else none
  | .insert, [.p (.int i), .p x] => if decide (xs.length < sizeLine) && decide (0 ≤ i) && decide (i < 2 ^ 63) then some (.non, xs.take i.toNat ++ [x] ++ xs.drop i.toNat) else none
  | .remove, [.p x] => if x.fit 63 && P.fits 63 xs then (xs.findIdx? fun y => y.eqv x).map fun j => (.non, xs.eraseIdx j) else none
  | _, _ => none
def seti (xs : List P) (i : Int) (x : P) : Option (List P) := (pix xs.length i).map fun j => xs.set j x

mutual
/-- the names a target stores -/
def T.slots : T → List Nat
  | .nm i => [i]
  | .tp l => T.slotss l
def T.slotss : List T → List Nat
  | [] => []
  | t :: ts => T.slots t ++ T.slotss ts
end
mutual
def T.put : T → P → Env → Option Env
  | .nm i, x, ρ => if i < ρ.length then some (ρ.set i (some (.p x))) else none
  | .tp ts, .tup l, ρ => T.puts ts l ρ
  | .tp _, _, _ => none
def T.puts : List T → List P → Env → Option Env
  | [], [], ρ => some ρ
  | t :: ts, x :: xs, ρ => (T.put t x ρ).bind fun ρ' => T.puts ts xs ρ'
  | _, _, _ => none
end
def T.putD (t : T) (d : D) (ρ : Env) : Option Env := match t, d with
  | .nm i, d => if i < ρ.length then some (ρ.set i (some d)) else none
  | t, .p x => t.put x ρ
  | _, _ => none
def wipeE (ρ : Env) : List Nat → Env
  | [] => ρ
  | v :: vs => (wipeE ρ vs).set v none

def noScr (ρ : Env) : Bool := ρ.all fun
  | some (.scr _) => false
  | _ => true
/-- what a loop walks: the items, and the lists that must stay as they are -/
structure Src where
  xs : List P
  ls : List (Nat × List P)
  fr : Bool := true
def Src.ok (s : Src) (M : Mem) : Bool := s.ls.all fun q => decide (M[q.1]? = some q.2)
def asSrc (M : Mem) : D → Option Src
  | .p (.tup l) => some ⟨l, [], true⟩
  | .p (.ref i) => M[i]?.map fun xs => ⟨xs, [(i, xs)], true⟩
  | .scr xs => some ⟨xs, [], false⟩
  | _ => none
def small (i : Int) : Bool := decide (-(2 ^ 62) ≤ i) && decide (i < 2 ^ 62)
def rangeP : Int → Nat → List P
  | _, 0 => []
  | lo, n + 1 => .int lo :: rangeP (lo + 1) n
theorem rangeP_eq : ∀ (n : Nat) (lo : Int), rangeP lo n = (List.range n).map fun (k : Nat) => P.int (lo + (k : Int))
  | 0, _ => rfl
  | n + 1, lo => by
    rw [rangeP, rangeP_eq n, List.range_succ_eq_map, List.map_cons, List.map_map]
    congr 1
    · simp
    · apply List.map_congr_left
      intro k _
      simp only [Function.comp]
      congr 1
      have : ((Nat.succ k : Nat) : Int) = (k : Int) + 1 := rfl
      omega
def enumP : Nat → List P → List P
  | _, [] => []
  | k, x :: r => .tup [.int k, x] :: enumP (k + 1) r
def zipP : List P → List P → List P
  | x :: xs, y :: ys => .tup [x, y] :: zipP xs ys
  | _, _ => []
def isTup : D → Bool
  | .p (.tup _) => true
  | _ => false
def src (k : IK) (ds : List D) (M : Mem) : Option Src := match k, ds with
  | .rng, [.p (.int n)] => if small n then some ⟨rangeP 0 n.toNat, [], true⟩ else none
  | .rng, [.p (.int a), .p (.int b)] => if small a && small b then some ⟨rangeP a (b - a).toNat, [], true⟩ else none
  | .seq, [d] => asSrc M d
  | .enm, [.p (.tup l)] => some ⟨enumP 0 l, [], true⟩
  | .enm, [d] => (asSrc M d).map fun s => ⟨enumP 0 s.xs, s.ls, s.fr⟩
  | .zip, [.p (.tup xs), .p (.tup ys)] => some ⟨zipP xs ys, [], true⟩
  | .zip, [a, b] => if isTup a || isTup b then none else do
    let s ← asSrc M a
    let t ← asSrc M b
    some ⟨zipP s.xs t.xs, s.ls ++ t.ls, s.fr && t.fr⟩
  | _, _ => none

def getAll {α : Type} (xs : List α) : List Nat → Option (List α)
  | [] => some []
  | i :: r => do
    let x ← xs[i]?
    let rs ← getAll xs r
    some (x :: rs)
mutual
/-- no list number from n on -/
def P.und (n : Nat) : P → Bool
  | .ref i => decide (i < n)
  | .tup l => P.unds n l
  | _ => true
def P.unds (n : Nat) : List P → Bool
  | [] => true
  | x :: xs => P.und n x && P.unds n xs
end
def D.und (n : Nat) : D → Bool
  | .p x => x.und n
  | .scr xs => P.unds n xs
/-- behind a call: lists out of reach are dropped -/
def back (M : Mem) (d : D) (M' : Mem) : D × Mem :=
  if d.und M.length && (List.range M.length).all fun i => decide (M'[i]? = M[i]?) || ((M'[i]?).getD []).all (P.und M.length) then (d, M'.take M.length) else (d, M')
def turns (s : Src) (f : P → Mem → Option (List P × Mem)) : List P → Mem → Option (List P × Mem)
  | [], M => some ([], M)
  | x :: r, M => do
    let (o, M) ← f x M
    if s.ok M then do
      let (ys, M) ← turns s f r M
      some (o ++ ys, M)
    else none
def gturns (f : P → Option (Option P)) : List P → Option (List P)
  | [] => some []
  | x :: r => do
    let o ← f x
    let ys ← gturns f r
    some (o.toList ++ ys)
def gtest (stop : Bool) (f : P → Option (Option P)) : List P → Option Bool
  | [] => some (!stop)
  | x :: r => do
    let o ← f x
    match o with
    | none => gtest stop f r
    | some y => do
      let b ← truth [] (.p y)
      if b = stop then some stop else gtest stop f r
/-- what the consumer makes of it -/
def genEnd (gk : GK) (s : Src) (F : P → Option (Option P)) (M : Mem) : Option (D × Mem) := match gk with
  | .tuple => (gturns F s.xs).bind fun ys => if ys.length + 1 < sizeLine then some (.p (.tup ys), M) else none
  | .sum => (gturns F s.xs).bind fun ys => (intsP ys).bind fun is => if ys.length + 1 < sizeLine then some (.p (.int is.sum), M) else none
  | .all => if s.xs.length + 1 < sizeLine then (gtest false F s.xs).map fun b => (.p (.bl b), M) else none
  | .any => if s.xs.length + 1 < sizeLine then (gtest true F s.xs).map fun b => (.p (.bl b), M) else none
inductive Out where
  | nx (ρ : Env) (M : Mem) | rt (d : D) (M : Mem) | bk (ρ : Env) (M : Mem) | ct (ρ : Env) (M : Mem)

/-- a world of defs: what f gives for arguments and their lists -/
abbrev Wd := Nat → List D → Mem → Option (D × Mem)

section
variable (W : Wd) (G : Str → Option P) (N : Nat)
mutual
def evE : E → Env → Mem → Option (D × Mem)
  | .v i, ρ, M => match ρ[i]? with
    | some (some d) => some (d, M)
    | _ => none
  | .c x, _, M => some (.p x, M)
  | .g n, _, M => (G n).map fun x => (.p x, M)
  | .bin o a b, ρ, M => do
    let (x, M) ← evE a ρ M
    let (y, M) ← evE b ρ M
    binop o x y M
  | .neg a, ρ, M => do
    let (x, M) ← evE a ρ M
    match x with
    | .p (.int i) => some (.p (.int (-i)), M)
    | _ => none
  | .not a, ρ, M => do
    let (x, M) ← evE a ρ M
    let b ← truth M x
    some (.p (.bl (!b)), M)
  | .cmp o a b, ρ, M => do
    let (x, M) ← evE a ρ M
    let (y, M) ← evE b ρ M
    let r ← cmpop o x y M
    some (.p (.bl r), M)
  | .cmp2 o o' a b c, ρ, M => do
    let (x, M) ← evE a ρ M
    let (y, M) ← evE b ρ M
    let r ← cmpop o x y M
    if r then do
      let (z, M) ← evE c ρ M
      let r' ← cmpop o' y z M
      some (.p (.bl r'), M)
    else some (.p (.bl false), M)
  | .and l, ρ, M => evAnd l ρ M
  | .or l, ρ, M => evOr l ρ M
  | .ife t a b, ρ, M => do
    let (c, M) ← evT t ρ M
    if c then evE a ρ M else evE b ρ M
  | .tup l, ρ, M => do
    let (ds, M) ← evEs l ρ M
    let ps ← datas ds
    if ps.length ≤ sizeLine then some (.p (.tup ps), M) else none
  | .lst l, ρ, M => do
    let (ds, M) ← evEs l ρ M
    let ps ← datas ds
    newl ps M
  | .idx a i, ρ, M => do
    let (x, M) ← evE a ρ M
    let (y, M) ← evE i ρ M
    let r ← index x y M
    some (.p r, M)
  | .slc a lo hi, ρ, M => do
    let (x, M) ← evE a ρ M
    let (l, M) ← evO lo ρ M
    let (h, M) ← evO hi ρ M
    slice x l h M
  | .call f l ix, ρ, M => do
    let (ds, M) ← evEs l ρ M
    let as ← getAll ds ix
    let (d, M') ← W f as M
    some (back M d M')
  | .bi b l, ρ, M => do
    let (ds, M) ← evEs l ρ M
    bfun b ds M
  | .mt m o l, ρ, M => do
    let (x, M) ← evE o ρ M
    let (ds, M) ← evEs l ρ M
    match x with
    | .p (.ref i) => do
      let xs ← M[i]?
      let (r, ys) ← mtf m M xs ds
      some (.p r, M.set i ys)
    | _ => none
  | .tru _, _, _ => none
  | .lc vs elt t k sr ifs, ρ, M => do
    let (ds, M) ← evEs sr ρ M
    let s ← src k ds M
    let (ys, M) ← turns s (fun x M => do
      let ρ' ← t.put x (wipeE ρ vs)
      let (b, M) ← evIfs ifs ρ' M
      if b then do
        let (y, M) ← evE elt ρ' M
        match y with
        | .p r => some ([r], M)
        | _ => none
      else some ([], M)) s.xs M
    newl ys M
  | .lc2 vs elt t k sr ifs vs1 t1 k1 sr1 ifs1, ρ, M => do
    let (ds, M) ← evEs sr ρ M
    let s ← src k ds M
    let (ys, M) ← turns s (fun x M => do
      let ρ' ← t.put x (wipeE ρ vs)
      let (b, M) ← evIfs ifs ρ' M
      if b then do
        let (ds1, M) ← evEs sr1 ρ' M
        let s1 ← src k1 ds1 M
        if noScr ρ' && s1.fr then
          turns s1 (fun x M => do
            let ρ2 ← t1.put x (wipeE ρ' vs1)
            let (b, M) ← evIfs ifs1 ρ2 M
            if b then do
              let (y, M) ← evE elt ρ2 M
              match y with
              | .p r => some ([r], M)
              | _ => none
            else some ([], M)) s1.xs M
        else none
      else some ([], M)) s.xs M
    newl ys M
  | .gen gk vs elt t k sr ifs, ρ, M => do
    let (ds, M) ← evEs sr ρ M
    let s ← src k ds M
    genEnd gk s (fun x => do
      let ρ' ← t.put x (wipeE ρ vs)
      let (b, M') ← evIfs ifs ρ' M
      if b then do
        let (y, M'') ← evE elt ρ' M'
        match y with
        | .p r => if M'' = M then some (some r) else none
        | _ => none
      else if M' = M then some none else none) M
def evEs : List E → Env → Mem → Option (List D × Mem)
  | [], _, M => some ([], M)
  | e :: es, ρ, M => do
    let (x, M) ← evE e ρ M
    let (xs, M) ← evEs es ρ M
    some (x :: xs, M)
def evO : Option E → Env → Mem → Option (Option Int × Mem)
  | none, _, M => some (none, M)
  | some e, ρ, M => do
    let (x, M) ← evE e ρ M
    match x with
    | .p (.int i) => some (some i, M)
    | _ => none
/-- an expression as a test -/
def evT : E → Env → Mem → Option (Bool × Mem)
  | .and l, ρ, M => evTAnd l ρ M
  | .or l, ρ, M => evTOr l ρ M
  | .not a, ρ, M => do
    let (b, M) ← evT a ρ M
    some (!b, M)
  | .cmp o a b, ρ, M => do
    let (x, M) ← evE a ρ M
    let (y, M) ← evE b ρ M
    let r ← cmpop o x y M
    some (r, M)
  | .cmp2 o o' a b c, ρ, M => do
    let (x, M) ← evE a ρ M
    let (y, M) ← evE b ρ M
    let r ← cmpop o x y M
    if r then do
      let (z, M) ← evE c ρ M
      let r' ← cmpop o' y z M
      some (r', M)
    else some (false, M)
  | .tru a, ρ, M => do
    let (x, M) ← evE a ρ M
    let r ← truth M x
    some (r, M)
  | _, _, _ => none
def evTAnd : List E → Env → Mem → Option (Bool × Mem)
  | [], _, _ => none
  | [e], ρ, M => evT e ρ M
  | e :: es, ρ, M => do
    let (b, M) ← evT e ρ M
    if b then evTAnd es ρ M else some (false, M)
def evTOr : List E → Env → Mem → Option (Bool × Mem)
  | [], _, _ => none
  | [e], ρ, M => evT e ρ M
  | e :: es, ρ, M => do
    let (b, M) ← evT e ρ M
    if b then some (true, M) else evTOr es ρ M
def evAnd : List E → Env → Mem → Option (D × Mem)
  | [], _, _ => none
  | [e], ρ, M => evE e ρ M
  | e :: es, ρ, M => do
    let (x, M) ← evE e ρ M
    match x with
    | .p (.bl true) => evAnd es ρ M
    | .p (.bl false) => some (.p (.bl false), M)
    | _ => none
def evOr : List E → Env → Mem → Option (D × Mem)
  | [], _, _ => none
  | [e], ρ, M => evE e ρ M
  | e :: es, ρ, M => do
    let (x, M) ← evE e ρ M
    match x with
    | .p (.bl true) => some (.p (.bl true), M)
    | .p (.bl false) => evOr es ρ M
    | _ => none
def evIfs : List E → Env → Mem → Option (Bool × Mem)
  | [], _, M => some (true, M)
  | [c], ρ, M => evT c ρ M
  | _, _, _ => none
end

def forL (s : Src) (f : P → Env → Mem → Option Out) : List P → Env → Mem → Option Out
  | [], ρ, M => some (.nx ρ M)
  | x :: r, ρ, M => do
    match ← f x ρ M with
    | .nx ρ M => if s.ok M then forL s f r ρ M else none
    | .ct ρ M => if s.ok M then forL s f r ρ M else none
    | .bk ρ M => some (.nx ρ M)
    | .rt d M => some (.rt d M)
def whileL (c : Env → Mem → Option (Bool × Mem)) (f : Env → Mem → Option Out) : Nat → Env → Mem → Option Out
  | 0, _, _ => none
  | n + 1, ρ, M => do
    let (b, M) ← c ρ M
    if b then
      match ← f ρ M with
      | .nx ρ M => whileL c f n ρ M
      | .ct ρ M => whileL c f n ρ M
      | .bk ρ M => some (.nx ρ M)
      | .rt d M => some (.rt d M)
    else some (.nx ρ M)
def parE : List Nat → List D → Env → Option Env
  | [], [], ρ => some ρ
  | i :: is, d :: ds, ρ => if i < ρ.length then parE is ds (ρ.set i (some d)) else none
  | _, _, _ => none
/-- x op= y of ints -/
def augop (o : BO) (x y : D) : Option P := match o, x, y with
  | .add, .p (.int a), .p (.int b) => some (.int (a + b))
  | .sub, .p (.int a), .p (.int b) => some (.int (a - b))
  | _, _, _ => none
mutual
def evS : S → Env → Mem → Option Out
  | .set t e, ρ, M => do
    let (d, M) ← evE W G e ρ M
    let ρ' ← t.putD d ρ
    some (.nx ρ' M)
  | .par is es, ρ, M => do
    let (ds, M) ← evEs W G es ρ M
    let ρ' ← parE is ds ρ
    some (.nx ρ' M)
  | .seti o i e, ρ, M => do
    let (d, M) ← evE W G e ρ M
    let (x, M) ← evE W G o ρ M
    let (k, M) ← evE W G i ρ M
    match x, k, d with
    | .p (.ref j), .p (.int k), .p v => do
      let xs ← M[j]?
      let ys ← seti xs k v
      some (.nx ρ (M.set j ys))
    | _, _, _ => none
  | .aug i o e, ρ, M => do
    match ρ[i]? with
    | some (some x) => do
      let (y, M) ← evE W G e ρ M
      let z ← augop o x y
      some (.nx (ρ.set i (some (.p z))) M)
    | _ => none
  | .augi a i o e, ρ, M => do
    let (x, M) ← evE W G a ρ M
    let (k, M) ← evE W G i ρ M
    let old ← index x k M
    let (y, M) ← evE W G e ρ M
    let z ← augop o (.p old) y
    match x, k with
    | .p (.ref j), .p (.int k) => do
      let xs ← M[j]?
      let ys ← seti xs k z
      some (.nx ρ (M.set j ys))
    | _, _ => none
  | .ife t a b, ρ, M => do
    let (c, M) ← evT W G t ρ M
    if c then evSs a ρ M else evSs b ρ M
  | .loop t k sr body, ρ, M => do
    let (ds, M) ← evEs W G sr ρ M
    let s ← src k ds M
    forL s (fun x ρ M => (t.put x ρ).bind fun ρ' => evSs body ρ' M) s.xs ρ M
  | .whl t body, ρ, M => whileL (fun ρ M => evT W G t ρ M) (fun ρ M => evSs body ρ M) N ρ M
  | .ret e, ρ, M => do
    let (d, M) ← evE W G e ρ M
    some (.rt d M)
  | .retn, _, M => some (.rt (.p .non) M)
  | .ex e, ρ, M => do
    let (_, M) ← evE W G e ρ M
    some (.nx ρ M)
  | .brk, ρ, M => some (.bk ρ M)
  | .cnt, ρ, M => some (.ct ρ M)
  | .pas, ρ, M => some (.nx ρ M)
  | .stk, _, _ => none
def evSs : List S → Env → Mem → Option Out
  | [], ρ, M => some (.nx ρ M)
  | s :: r, ρ, M => do
    match ← evS s ρ M with
    | .nx ρ M => evSs r ρ M
    | o => some o
end
end
def entry (fn : Fn) (ds : List D) : Env := ds.map some ++ List.replicate (fn.ns - fn.np) none
def fin : Out → Option (D × Mem)
  | .rt d M => some (d, M)
  | .nx _ M => some (.p .non, M)
  | _ => none
def evF (Φ : Nat → Option Fn) (G : Str → Option P) (N : Nat) : Nat → Wd
  | 0 => fun _ _ _ => none
  | k + 1 => fun f ds M => (Φ f).bind fun fn => if ds.length = fn.np then (evSs (evF Φ G N k) G N fn.body (entry fn ds) M).bind fin else none
end IX
end

section
set_option Elab.async false
set_option linter.all false
set_option maxRecDepth 100000
set_option maxHeartbeats 4000000
/-! How the small language's values lie in the heap. -/
namespace IX
open PySem PySem.Spec PyProof.Rows L2 GX
mutual
def RP (K : PySem.W.Frag) (H : Hp) (α : List Addr) : P → V → Prop
  | .non, v => v = .non
  | .bl b, v => v = .bl b
  | .int i, v => v = .int i
  | .str x, v => v = .str x
  | .tup l, v => ∃ a vs, v = .ref a ∧ SqT K H a vs ∧ RPs K H α l vs
  | .ref i, v => ∃ a, α[i]? = some a ∧ v = .ref a
def RPs (K : PySem.W.Frag) (H : Hp) (α : List Addr) : List P → List V → Prop
  | [], [] => True
  | x :: xs, v :: vs => RP K H α x v ∧ RPs K H α xs vs
  | _, _ => False
end
def RD (K : PySem.W.Frag) (H : Hp) (α : List Addr) : D → V → Prop
  | .p x, v => RP K H α x v
  | .scr xs, v => ∃ a vs, v = .ref a ∧ ((Rd H a (.lst vs) ∧ a ∉ α) ∨ SqL K (fun _ => none) a vs) ∧ RPs K H α xs vs
def RDs (K : PySem.W.Frag) (H : Hp) (α : List Addr) : List D → List V → Prop
  | [], [] => True
  | x :: xs, v :: vs => RD K H α x v ∧ RDs K H α xs vs
  | _, _ => False
structure RM (K : PySem.W.Frag) (H : Hp) (α : List Addr) (M : Mem) : Prop where
  nd : α.Nodup
  len : α.length = M.length
  cell : ∀ (i : Nat) (a : Addr) (xs : List P), α[i]? = some a → M[i]? = some xs → ∃ vs, H a = some (.lst vs) ∧ RPs K H α xs vs
structure REnv (K : PySem.W.Frag) (H : Hp) (α : List Addr) (ρ : Env) (σ : L2.St) : Prop where
  len : ρ.length = σ.length
  cell : ∀ (i : Nat) (d : D), ρ[i]? = some (some d) → ∃ v, σ[i]? = some (some v) ∧ RD K H α d v
/-- from (α, H) to (α', H'): the frame's lists may change, lists may come -/
structure Nx (K : PySem.W.Frag) (α : List Addr) (H : Hp) (α' : List Addr) (H' : Hp) (M' : Mem) : Prop where
  grow : Grow α H H'
  ext : ∃ β, α' = α ++ β ∧ ∀ b ∈ β, H b = none
  mem : RM K H' α' M'
  tab : TabAll H'
/-- the tables of the module's code objects are tracked -/
def Trk (K : PySem.W.Frag) (H : Hp) : Prop := ∀ c P, PySem.W.codeHdIn K c P = true → ∃ ps, H P = some (.tbl ps)
structure RSt (K : PySem.W.Frag) (base : Heap) (code : Value) (σ : L2.St) (H : Hp) (ρ : Env) (M : Mem) (α : List Addr) : Prop where
  env : REnv K H α ρ σ
  mem : RM K H α M
  tab : TabAll H
  code : CodeAt base H code
  trk : Trk K H
abbrev RS (X : Cx) (σ : L2.St) (H : Hp) (ρ : Env) (M : Mem) (α : List Addr) : Prop := RSt X.K X.base X.env.code σ H ρ M α

section
variable {K : PySem.W.Frag} {H H' : Hp} {α α' : List Addr} {M M' : Mem}
theorem RM.lst (m : RM K H α M) {a : Addr} (h : a ∈ α) : ∃ vs, H a = some (.lst vs) := by
  obtain ⟨i, hi, e⟩ := List.mem_iff_getElem.mp h
  have h1 : α[i]? = some a := by rw [← e]; exact List.getElem?_eq_getElem hi
  have h2 : i < M.length := by rw [← m.len]; exact hi
  obtain ⟨vs, q, _⟩ := m.cell i a _ h1 (List.getElem?_eq_getElem h2)
  exact ⟨vs, q⟩
theorem grow_at {b : Addr} {o : HO} (na : ∀ b ∈ α, ∃ xs, H b = some (.lst xs)) (g : Grow α H H') (h : H b = some o) (hn : b ∉ α) (ht : ∀ ps, o ≠ .tbl ps) : H' b = some o := by
  rcases g b o h with q | q | ⟨⟨ps, q⟩, _⟩
  · exact absurd q hn
  · exact q
  · exact absurd q (ht ps)
theorem grow_some {b : Addr} {o : HO} (m : RM K H' α' M') (hs : ∀ b ∈ α, b ∈ α') (g : Grow α H H') (h : H b = some o) : ∃ o', H' b = some o' := by
  rcases g b o h with q | q | ⟨_, ps, q⟩
  · obtain ⟨vs, e⟩ := m.lst (hs b q); exact ⟨_, e⟩
  · exact ⟨_, q⟩
  · exact ⟨_, q⟩
theorem rd_tup {a : Addr} {xs : List V} (na : ∀ b ∈ α, ∃ xs, H b = some (.lst xs)) (g : Grow α H H') (h : Rd H a (.tup xs)) : Rd H' a (.tup xs) := by
  rcases h with h | ⟨o, h⟩
  · refine .inl (grow_at na g h (fun z => ?_) fun ps e => by cases e)
    obtain ⟨ys, e⟩ := na a z
    rw [h] at e; cases e
  · refine .inr ⟨o, grow_at na g h (fun z => ?_) fun ps e => by cases e⟩
    obtain ⟨ys, e⟩ := na a z
    rw [h] at e; cases e
theorem sqt_grow {a : Addr} {xs : List V} (na : ∀ b ∈ α, ∃ xs, H b = some (.lst xs)) (g : Grow α H H') (h : SqT K H a xs) : SqT K H' a xs := by
  rcases h with h | h
  · exact .inl (rd_tup na g h)
  · exact .inr h
def Pre (γ γ' : List Addr) : Prop := ∀ (i : Nat) (a : Addr), γ[i]? = some a → γ'[i]? = some a
theorem Pre.refl (γ : List Addr) : Pre γ γ := fun _ _ h => h
theorem Pre.app (γ β : List Addr) : Pre γ (γ ++ β) := fun i a h => by
  rw [List.getElem?_append_left (List.getElem?_eq_some_iff.mp h).1]; exact h
mutual
theorem RP.grow {γ γ' : List Addr} (na : ∀ b ∈ α, ∃ xs, H b = some (.lst xs)) (g : Grow α H H') (hx : Pre γ γ') : ∀ (x : P) (v : V), RP K H γ x v → RP K H' γ' x v
  | .non, _, h => h
  | .bl _, _, h => h
  | .int _, _, h => h
  | .str _, _, h => h
  | .tup l, v, h => by
    unfold RP at h ⊢
    obtain ⟨a, vs, e, q, r⟩ := h
    exact ⟨a, vs, e, sqt_grow na g q, RPs.grow na g hx l vs r⟩
  | .ref i, v, h => by
    unfold RP at h ⊢
    obtain ⟨a, e, q⟩ := h
    exact ⟨a, hx i a e, q⟩
theorem RPs.grow {γ γ' : List Addr} (na : ∀ b ∈ α, ∃ xs, H b = some (.lst xs)) (g : Grow α H H') (hx : Pre γ γ') : ∀ (xs : List P) (vs : List V), RPs K H γ xs vs → RPs K H' γ' xs vs
  | [], [], _ => by unfold RPs; trivial
  | x :: xs, v :: vs, h => by
    unfold RPs at h ⊢
    exact ⟨RP.grow na g hx x v h.1, RPs.grow na g hx xs vs h.2⟩
  | [], _ :: _, h => by unfold RPs at h; exact h.elim
  | _ :: _, [], h => by unfold RPs at h; exact h.elim
end
theorem sql_none {a : Addr} {vs : List V} (h : SqL K (fun _ => none) a vs) : SqL K H a vs := by
  rcases h with (h | ⟨o, h⟩) | h
  · cases h
  · cases h
  · exact .inr h
theorem rdl_grow {a : Addr} {vs : List V} (na : ∀ b ∈ α, ∃ xs, H b = some (.lst xs)) (g : Grow α H H') (h : Rd H a (.lst vs)) (hn : a ∉ α) : Rd H' a (.lst vs) := by
  rcases h with h | ⟨o, h⟩
  · exact .inl (grow_at na g h hn fun ps e => by cases e)
  · exact .inr ⟨o, grow_at na g h hn fun ps e => by cases e⟩
theorem Nx.rd (n : Nx K α H α' H' M') (m : RM K H α M) : ∀ {d : D} {v : V}, RD K H α d v → RD K H' α' d v := fun {d v} h => by
  have na : ∀ b ∈ α, ∃ xs, H b = some (.lst xs) := fun b hb => m.lst hb
  obtain ⟨β, eβ, fβ⟩ := n.ext
  have hx : Pre α α' := by rw [eβ]; exact Pre.app α β
  cases d with
  | p x => exact RP.grow na n.grow hx x v h
  | scr xs =>
    obtain ⟨a, vs, e, q, r⟩ := h
    refine ⟨a, vs, e, ?_, RPs.grow na n.grow hx _ _ r⟩
    rcases q with ⟨q, hn⟩ | q
    · refine .inl ⟨rdl_grow na n.grow q hn, fun z => ?_⟩
      rw [eβ] at z
      rcases List.mem_append.mp z with z | z
      · exact hn z
      · have := fβ a z
        rcases q with q | ⟨o, q⟩ <;> rw [this] at q <;> cases q
    · exact .inr q
theorem Nx.rds (n : Nx K α H α' H' M') (m : RM K H α M) : ∀ {ds : List D} {vs : List V}, RDs K H α ds vs → RDs K H' α' ds vs
  | [], [], _ => trivial
  | _ :: _, _ :: _, h => ⟨n.rd m h.1, n.rds m h.2⟩
  | [], _ :: _, h => h.elim
  | _ :: _, [], h => h.elim
theorem Nx.env (n : Nx K α H α' H' M') (m : RM K H α M) {ρ : Env} {σ : L2.St} (e : REnv K H α ρ σ) : REnv K H' α' ρ σ := ⟨e.len, fun i d h => by
  obtain ⟨v, q, r⟩ := e.cell i d h
  exact ⟨v, q, n.rd m r⟩⟩
theorem Nx.refl (m : RM K H α M) (t : TabAll H) : Nx K α H α H M := ⟨Grow.refl H, ⟨[], by simp, fun b h => by simp at h⟩, m, t⟩
theorem Nx.trans {α'' : List Addr} {H'' : Hp} {M'' : Mem} (m : RM K H α M) (a : Nx K α H α' H' M') (b : Nx K α' H' α'' H'' M'') : Nx K α H α'' H'' M'' := by
  obtain ⟨β, e1, f1⟩ := a.ext
  obtain ⟨γ, e2, f2⟩ := b.ext
  refine ⟨fun c o h => ?_, ⟨β ++ γ, by rw [e2, e1, List.append_assoc], fun c hc => ?_⟩, b.mem, b.tab⟩
  · have hβ : c ∉ β := fun z => by rw [f1 c z] at h; cases h
    rcases a.grow c o h with q | q | ⟨q, ps, q'⟩
    · exact .inl q
    · rcases b.grow c o q with r | r | r
      · rw [e1] at r
        rcases List.mem_append.mp r with r | r
        · exact .inl r
        · exact absurd r hβ
      · exact .inr (.inl r)
      · exact .inr (.inr r)
    · rcases b.grow c _ q' with r | r | ⟨_, r⟩
      · rw [e1] at r
        rcases List.mem_append.mp r with r | r
        · exact .inl r
        · exact absurd r hβ
      · exact .inr (.inr ⟨q, ps, r⟩)
      · exact .inr (.inr ⟨q, r⟩)
  · rcases List.mem_append.mp hc with z | z
    · exact f1 c z
    · cases e : H c with
      | none => rfl
      | some o =>
        obtain ⟨o', q⟩ := grow_some a.mem (fun b hb => by rw [e1]; exact List.mem_append_left _ hb) a.grow e
        rw [f2 c z] at q; cases q
theorem tabPut {p : Addr} {o : HO} (t : TabAll H) (hp : H p = none ∨ ∃ xs, H p = some (.lst xs)) (ho : ∀ ps, o ≠ .tbl ps) : TabAll (upd H p o) := fun Pa ps e => by
  have key : ∀ b u, H b = some u → (∀ xs, u ≠ .lst xs) → upd H p o b = some u := fun b u q hn => by
    rw [upd_ne]
    · exact q
    · intro z
      rw [z] at q
      rcases hp with w | ⟨xs, w⟩ <;> rw [w] at q <;> cases q
      exact hn xs rfl
  by_cases h : Pa = p
  · rw [h, upd_same] at e
    cases e
    exact absurd rfl (ho ps)
  · rw [upd_ne h] at e
    obtain ⟨k1, k2⟩ := t Pa ps e
    refine ⟨k1, fun pos cv z => ?_⟩
    obtain ⟨c, P', ob, q1, q2, q3, q4, ps', q5⟩ := k2 pos cv z
    exact ⟨c, P', ob, q1, q2, key c _ q3 (fun xs z => by cases z), q4, ps', key P' _ q5 fun xs z => by cases z⟩
/-- a new tuple -/
theorem grow_new {p : Addr} {o : HO} (hp : H p = none) : Grow α H (upd H p o) := fun b u e => .inr (.inl (by
  rw [upd_ne]
  · exact e
  · intro z; rw [z, hp] at e; cases e))
theorem RM.grow0 (m : RM K H α M) (g : Grow [] H H') : RM K H' α M := ⟨m.nd, m.len, fun i a xs e1 e2 => by
  obtain ⟨vs, q, r⟩ := m.cell i a xs e1 e2
  exact ⟨vs, grow_at (α := []) (fun b hb => by simp at hb) g q (by simp) (fun ps z => by cases z), RPs.grow (α := []) (fun b hb => by simp at hb) g (Pre.refl _) _ _ r⟩⟩
theorem Nx.new (m : RM K H α M) (t : TabAll H) {p : Addr} {o : HO} (hp : H p = none) (ho : ∀ ps, o ≠ .tbl ps) : Nx K α H α (upd H p o) M :=
  ⟨grow_new hp, ⟨[], by simp, fun b h => by simp at h⟩, m.grow0 (grow_new hp), tabPut t (.inl hp) ho⟩
theorem RPs.length : ∀ {xs : List P} {vs : List V}, RPs K H α xs vs → xs.length = vs.length
  | [], [], _ => rfl
  | _ :: xs, _ :: vs, h => by
    unfold RPs at h
    rw [List.length_cons, List.length_cons, RPs.length h.2]
  | [], _ :: _, h => by unfold RPs at h; exact h.elim
  | _ :: _, [], h => by unfold RPs at h; exact h.elim
/-- a new list, the frame's -/
theorem Nx.newl (m : RM K H α M) (t : TabAll H) {p : Addr} {xs : List P} {vs : List V} (hp : H p = none) (r : RPs K H α xs vs) : Nx K α H (α ++ [p]) (upd H p (.lst vs)) (M ++ [xs]) := by
  have n := Nx.new m t (o := .lst vs) hp fun ps z => by cases z
  have g0 : Grow [] H (upd H p (.lst vs)) := grow_new hp
  refine ⟨n.grow, ⟨[p], rfl, fun b h => by rw [List.mem_singleton.mp h]; exact hp⟩, ⟨?_, ?_, fun i a ys e1 e2 => ?_⟩, n.tab⟩
  · refine List.nodup_append.mpr ⟨m.nd, by simp, fun a ha b hb => ?_⟩
    rw [List.mem_singleton.mp hb]
    intro z
    obtain ⟨ws, e⟩ := m.lst ha
    rw [z, hp] at e; cases e
  · simp [m.len]
  · by_cases hi : i < α.length
    · rw [List.getElem?_append_left hi] at e1
      rw [List.getElem?_append_left (by rw [← m.len]; exact hi)] at e2
      obtain ⟨ws, q, r⟩ := n.mem.cell i a ys e1 e2
      exact ⟨ws, q, RPs.grow (α := []) (fun b hb => by simp at hb) (Grow.refl _) (Pre.app _ _) _ _ r⟩
    · have hi' : i = α.length := by
        have := (List.getElem?_eq_some_iff.mp e1).1
        simp at this; omega
      subst hi'
      rw [List.getElem?_append_right (Nat.le_refl _)] at e1
      rw [List.getElem?_append_right (by rw [m.len]; exact Nat.le_refl _)] at e2
      simp at e1
      simp [m.len] at e2
      subst e1; subst e2
      exact ⟨vs, upd_same .., RPs.grow (α := []) (fun b hb => by simp at hb) g0 (Pre.app _ _) _ _ r⟩
theorem RPs.append : ∀ {xs ys : List P} {vs ws : List V}, RPs K H α xs vs → RPs K H α ys ws → RPs K H α (xs ++ ys) (vs ++ ws)
  | [], _, [], _, _, h => h
  | _ :: _, _, _ :: _, _, h, h' => by
    unfold RPs at h
    show RPs K H α (_ :: _) (_ :: _)
    unfold RPs
    exact ⟨h.1, RPs.append h.2 h'⟩
  | [], _, _ :: _, _, h, _ => by unfold RPs at h; exact h.elim
  | _ :: _, _, [], _, h, _ => by unfold RPs at h; exact h.elim
theorem RPs.get : ∀ {xs : List P} {vs : List V} {i : Nat} {x : P}, RPs K H α xs vs → xs[i]? = some x → ∃ v, vs[i]? = some v ∧ RP K H α x v
  | [], _, _, _, _, e => by simp at e
  | x :: xs, v :: vs, 0, y, h, e => by
    unfold RPs at h
    simp at e; subst e
    exact ⟨v, rfl, h.1⟩
  | x :: xs, v :: vs, i + 1, y, h, e => by
    unfold RPs at h
    simp at e
    simpa using RPs.get h.2 e
  | _ :: _, [], _, _, h, _ => by unfold RPs at h; exact h.elim
theorem RPs.set : ∀ {xs : List P} {vs : List V} {i : Nat} {x : P} {v : V}, RPs K H α xs vs → RP K H α x v → RPs K H α (xs.set i x) (vs.set i v)
  | [], [], _, _, _, _, _ => by simp [RPs]
  | y :: xs, w :: vs, 0, x, v, h, r => by
    unfold RPs at h
    show RPs K H α (_ :: _) (_ :: _)
    unfold RPs
    exact ⟨r, h.2⟩
  | y :: xs, w :: vs, i + 1, x, v, h, r => by
    unfold RPs at h
    show RPs K H α (_ :: _) (_ :: _)
    unfold RPs
    exact ⟨h.1, RPs.set h.2 r⟩
  | [], _ :: _, _, _, _, h, _ => by unfold RPs at h; exact h.elim
  | _ :: _, [], _, _, _, h, _ => by unfold RPs at h; exact h.elim
theorem RPs.drop : ∀ {xs : List P} {vs : List V} (n : Nat), RPs K H α xs vs → RPs K H α (xs.drop n) (vs.drop n)
  | _, _, 0, h => h
  | [], [], _ + 1, _ => by simp [RPs]
  | _ :: _, _ :: _, n + 1, h => by
    unfold RPs at h
    exact RPs.drop n h.2
  | [], _ :: _, _ + 1, h => by unfold RPs at h; exact h.elim
  | _ :: _, [], _ + 1, h => by unfold RPs at h; exact h.elim
theorem RPs.take : ∀ {xs : List P} {vs : List V} (n : Nat), RPs K H α xs vs → RPs K H α (xs.take n) (vs.take n)
  | _, _, 0, h => by simp [RPs]
  | [], [], _ + 1, _ => by simp [RPs]
  | _ :: _, _ :: _, n + 1, h => by
    unfold RPs at h
    show RPs K H α (_ :: _) (_ :: _)
    unfold RPs
    exact ⟨h.1, RPs.take n h.2⟩
  | [], _ :: _, _ + 1, h => by unfold RPs at h; exact h.elim
  | _ :: _, [], _ + 1, h => by unfold RPs at h; exact h.elim
theorem RPs.rep {xs : List P} {vs : List V} (h : RPs K H α xs vs) : ∀ n : Nat, RPs K H α (List.replicate n xs).flatten (List.replicate n vs).flatten
  | 0 => by simp [RPs]
  | n + 1 => by
    rw [List.replicate_succ, List.replicate_succ, List.flatten_cons, List.flatten_cons]
    exact h.append (RPs.rep h n)
/-- the frame's list i is written -/
theorem Nx.write (m : RM K H α M) (t : TabAll H) {i : Nat} {a : Addr} {xs ys : List P} {ws : List V} (ha : α[i]? = some a) (hM : M[i]? = some xs) (r : RPs K H α ys ws) : Nx K α H α (upd H a (.lst ws)) (M.set i ys) := by
  obtain ⟨vs, hv, _⟩ := m.cell i a xs ha hM
  have mem : a ∈ α := List.mem_of_getElem? ha
  have g : Grow α H (upd H a (.lst ws)) := fun b o e => by
    by_cases hb : b = a
    · exact .inl (by rw [hb]; exact mem)
    · exact .inr (.inl (by rw [upd_ne hb]; exact e))
  have na : ∀ b ∈ α, ∃ xs, H b = some (.lst xs) := fun b hb => m.lst hb
  refine ⟨g, ⟨[], by simp, fun b h => by simp at h⟩, ⟨m.nd, by rw [List.length_set]; exact m.len, fun j b zs e1 e2 => ?_⟩, tabPut t (.inr ⟨vs, hv⟩) fun ps z => by cases z⟩
  by_cases hj : i = j
  · subst hj
    rw [ha] at e1; cases e1
    rw [List.getElem?_set_self (List.getElem?_eq_some_iff.mp hM).1] at e2
    cases e2
    exact ⟨ws, upd_same .., RPs.grow na g (Pre.refl _) _ _ r⟩
  · rw [List.getElem?_set_ne hj] at e2
    obtain ⟨us, q, r'⟩ := m.cell j b zs e1 e2
    refine ⟨us, ?_, RPs.grow na g (Pre.refl _) _ _ r'⟩
    rw [upd_ne]
    · exact q
    · intro z
      subst z
      exact hj ((List.getElem?_inj (List.getElem?_eq_some_iff.mp ha).1 m.nd).mp (ha.trans e1.symm))
theorem Trk.grow (x : Trk K H) (g : Grow α H H') (na : ∀ b ∈ α, ∃ xs, H b = some (.lst xs)) : Trk K H' := fun c P h => by
  obtain ⟨ps, e⟩ := x c P h
  rcases g P _ e with q | q | ⟨_, q⟩
  · obtain ⟨xs, e'⟩ := na P q
    rw [e] at e'; cases e'
  · exact ⟨ps, q⟩
  · exact q
theorem RSt.step {base : Heap} {code : Value} {σ : L2.St} {ρ : Env} (s : RSt K base code σ H ρ M α) (n : Nx K α H α' H' M') : RSt K base code σ H' ρ M' α' :=
  ⟨n.env s.mem s.env, n.mem, n.tab, s.code.grow n.grow fun b hb => s.mem.lst hb, s.trk.grow n.grow fun b hb => s.mem.lst hb⟩
theorem RSt.with {base : Heap} {code : Value} {σ σ' : L2.St} {ρ ρ' : Env} (s : RSt K base code σ H ρ M α) (e : REnv K H α ρ' σ') : RSt K base code σ' H ρ' M α := ⟨e, s.mem, s.tab, s.code, s.trk⟩
theorem items_rd {d : D} {v : V} {l : List P} (m : RM K H α M) (h : RD K H α d v) (e : items M d = some l) : ∃ a vs, v = .ref a ∧ (SqL K H a vs ∨ SqT K H a vs) ∧ RPs K H α l vs := by
  cases d with
  | p x =>
    cases x with
    | tup xs =>
      cases e
      have h : RP K H α (.tup l) v := h
      unfold RP at h
      obtain ⟨a, vs, e1, q, r⟩ := h
      exact ⟨a, vs, e1, .inr q, r⟩
    | ref i =>
      have h : RP K H α (.ref i) v := h
      unfold RP at h
      obtain ⟨a, ea, rfl⟩ := h
      obtain ⟨vs, q, r⟩ := m.cell i a l ea e
      exact ⟨a, vs, rfl, .inl (.inl (.inl q)), r⟩
    | _ => cases e
  | scr xs =>
    cases e
    obtain ⟨a, vs, rfl, q, r⟩ := h
    refine ⟨a, vs, rfl, .inl ?_, r⟩
    rcases q with ⟨q, _⟩ | q
    · exact .inl q
    · exact sql_none q
end
end IX
end

section
set_option autoImplicit false
set_option Elab.async false
set_option linter.all false
set_option maxRecDepth 100000
set_option maxHeartbeats 4000000
/-! Expressions without calls of defs and without comprehensions. -/
namespace IX
open PySem PySem.Spec PyProof.Rows L2 GX
def tI (X : Cx) (f : Env → Mem → Option (D × Mem)) : TE := fun σ H Q => ∃ ρ M α d M', RS X σ H ρ M α ∧ f ρ M = some (d, M') ∧
  ∀ v H' α', Nx X.K α H α' H' M' → RD X.K H' α' d v → Q v H'
def tIT (X : Cx) (f : Env → Mem → Option (Bool × Mem)) : TT := fun σ H Q => ∃ ρ M α b M', RS X σ H ρ M α ∧ f ρ M = some (b, M') ∧
  ∀ H' α', Nx X.K α H α' H' M' → Q b H'
def tIA (X : Cx) (f : Env → Mem → Option (List D × Mem)) : TA := fun σ H Q => ∃ ρ M α ds M', RS X σ H ρ M α ∧ f ρ M = some (ds, M') ∧
  ∀ vs H' α', Nx X.K α H α' H' M' → RDs X.K H' α' ds vs → Q vs H'
def tIO (X : Cx) (f : Env → Mem → Option (Option Int × Mem)) : TO := fun σ H Q => ∃ ρ M α o M', RS X σ H ρ M α ∧ f ρ M = some (o, M') ∧
  ∀ H' α', Nx X.K α H α' H' M' → Q o H'
theorem ob {A B : Type} {o : Option A} {k : A → Option B} {r : B} (h : (o >>= k) = some r) : ∃ x, o = some x ∧ k x = some r := by
  cases o with
  | none => cases h
  | some x => exact ⟨x, rfl, h⟩
theorem _root_.L2.PE.weak {X : Cx} {e : Expr} {t t' : TE} (h : PE X e t) (w : ∀ σ H Q, t' σ H Q → t σ H Q) : PE X e t' := ⟨fun pins s σ H Q I q => h.run pins s σ H Q I (w σ H Q q)⟩
theorem _root_.L2.PT.weak {X : Cx} {e : Expr} {t t' : TT} (h : PT X e t) (w : ∀ σ H Q, t' σ H Q → t σ H Q) : PT X e t' := ⟨fun pins s σ H Q I q => h.run pins s σ H Q I (w σ H Q q)⟩
theorem _root_.L2.PW.weak {X : Cx} {e : Expr} {t t' : TT} (h : PW X e t) (w : ∀ σ H Q, t' σ H Q → t σ H Q) : PW X e t' := ⟨fun wh pins s σ H Q I q => h.run wh pins s σ H Q I (w σ H Q q)⟩
theorem _root_.L2.PA.weak {X : Cx} {e : List Expr} {t t' : TA} (h : PA X e t) (w : ∀ σ H Q, t' σ H Q → t σ H Q) : PA X e t' := ⟨fun pos pins s σ H Q I q => h.run pos pins s σ H Q I (w σ H Q q)⟩
theorem _root_.L2.PO.weak {X : Cx} {e : Option Expr} {t t' : TO} (h : PO X e t) (w : ∀ σ H Q, t' σ H Q → t σ H Q) : PO X e t' := ⟨fun pins s σ H Q I q => h.run pins s σ H Q I (w σ H Q q)⟩
theorem _root_.L2.PS.weak {X : Cx} {e : Stmt} {t t' : TS} (h : PS X e t) (w : ∀ D σ H, t' D σ H → t D σ H) : PS X e t' := ⟨fun pins s σ H Q I q => h.run pins s σ H Q I (w Q σ H q)⟩
theorem _root_.L2.PSs.weak {X : Cx} {e : List Stmt} {t t' : TS} (h : PSs X e t) (w : ∀ D σ H, t' D σ H → t D σ H) : PSs X e t' := ⟨fun pins s σ H Q I q => h.run pins s σ H Q I (w Q σ H q)⟩

section
variable {X : Cx} {a b c e : Expr} {es : List Expr} {pos : Pos} {fa fb fc : Env → Mem → Option (D × Mem)} {ta tb tc : Env → Mem → Option (Bool × Mem)} {fs : Env → Mem → Option (List D × Mem)}
theorem tI.use {σ : L2.St} {H : Hp} {ρ : Env} {M M' : Mem} {α : List Addr} {d : D} {Q : VK} {f : Env → Mem → Option (D × Mem)} (r : RS X σ H ρ M α) (h : f ρ M = some (d, M'))
    (q : ∀ v H' α', Nx X.K α H α' H' M' → RD X.K H' α' d v → RS X σ H' ρ M' α' → Q v H') : tI X f σ H Q := ⟨ρ, M, α, d, M', r, h, fun v H' α' n rd => q v H' α' n rd (r.step n)⟩
theorem tIT.use {σ : L2.St} {H : Hp} {ρ : Env} {M M' : Mem} {α : List Addr} {d : Bool} {Q : Bool → Hp → Prop} {f : Env → Mem → Option (Bool × Mem)} (r : RS X σ H ρ M α) (h : f ρ M = some (d, M'))
    (q : ∀ H' α', Nx X.K α H α' H' M' → RS X σ H' ρ M' α' → Q d H') : tIT X f σ H Q := ⟨ρ, M, α, d, M', r, h, fun H' α' n => q H' α' n (r.step n)⟩
theorem tIA.use {σ : L2.St} {H : Hp} {ρ : Env} {M M' : Mem} {α : List Addr} {ds : List D} {Q : List V → Hp → Prop} {f : Env → Mem → Option (List D × Mem)} (r : RS X σ H ρ M α) (h : f ρ M = some (ds, M'))
    (q : ∀ vs H' α', Nx X.K α H α' H' M' → RDs X.K H' α' ds vs → RS X σ H' ρ M' α' → Q vs H') : tIA X f σ H Q := ⟨ρ, M, α, ds, M', r, h, fun v H' α' n rd => q v H' α' n rd (r.step n)⟩
theorem tIO.use {σ : L2.St} {H : Hp} {ρ : Env} {M M' : Mem} {α : List Addr} {d : Option Int} {Q : Option Int → Hp → Prop} {f : Env → Mem → Option (Option Int × Mem)} (r : RS X σ H ρ M α) (h : f ρ M = some (d, M'))
    (q : ∀ H' α', Nx X.K α H α' H' M' → RS X σ H' ρ M' α' → Q d H') : tIO X f σ H Q := ⟨ρ, M, α, d, M', r, h, fun H' α' n => q H' α' n (r.step n)⟩

theorem s_var {i : Nat} {x : Str} (hN : X.N[i]? = some x) (hv : Vis X.env.scope x) (hd : (x == ("__debug__" : Str)) = false) (hcd : (x == ("__classdict__" : Str)) = false) :
    PE X (.Name x pos) (tI X fun ρ M => match ρ[i]? with | some (some d) => some (d, M) | _ => none) := (pe_var hN hv hd hcd).weak fun σ H Q h => by
  obtain ⟨ρ, M, α, d, M', r, e, q⟩ := h
  dsimp only at e
  split at e
  · rename_i d' h'
    cases e
    obtain ⟨v, e1, e2⟩ := r.env.cell i d h'
    exact ⟨v, e1, q v H α (Nx.refl r.mem r.tab) e2⟩
  · cases e
theorem s_const {x : P} {v : V} (h : PE X e (tC v)) (hr : ∀ H α, RP X.K H α x v) : PE X e (tI X fun _ M => some (.p x, M)) := h.weak fun σ H Q h => by
  obtain ⟨ρ, M, α, d, M', r, e, q⟩ := h
  cases e
  exact q v H α (Nx.refl r.mem r.tab) (hr H α)

def OpI (X : Cx) (r : R2) (g : D → D → Mem → Option (D × Mem)) : Prop := ∀ H α M x y v u d M' Q, RM X.K H α M → TabAll H → RD X.K H α x v → RD X.K H α y u → g x y M = some (d, M') →
  (∀ w H' α', Nx X.K α H α' H' M' → RD X.K H' α' d w → Q w H') → r v u H Q
theorem s_op2 {r : R2} {g : D → D → Mem → Option (D × Mem)} (h : PE X e (tOp r (tI X fa) (tI X fb))) (hr : OpI X r g) :
    PE X e (tI X fun ρ M => do
      let (x, M) ← fa ρ M
      let (y, M) ← fb ρ M
      g x y M) := h.weak fun σ H Q h => by
  obtain ⟨ρ, M, α, d, M', r0, e, q⟩ := h
  obtain ⟨⟨x, M1⟩, e1, e⟩ := ob e
  obtain ⟨⟨y, M2⟩, e2, e⟩ := ob e
  refine tI.use r0 e1 fun v H1 α1 n1 d1 r1 => tI.use r1 e2 fun u H2 α2 n2 d2 r2 => ?_
  refine hr H2 α2 M2 x y v u d M' Q r2.mem r2.tab (n2.rd r1.mem d1) d2 e fun w H' α' n3 d3 => ?_
  exact q w H' α' ((n1.trans r0.mem n2).trans r0.mem n3) d3
theorem s_bin {r : R2} {o : Operator} {bo : BO} (ha : PE X a (tI X fa)) (hb : PE X b (tI X fb)) (ho : OpR X (binaryOp o) r) (hr : OpI X r (binop bo)) :
    PE X (.BinOp a o b pos) (tI X fun ρ M => do
      let (x, M) ← fa ρ M
      let (y, M) ← fb ρ M
      binop bo x y M) := s_op2 (pe_op ho ha hb) hr

/-! the operations -/
theorem one_some {x : P} {M M' : Mem} {d : D} (h : one x M = some (d, M')) : d = .p x ∧ M' = M := by cases h; exact ⟨rfl, rfl⟩
theorem newl_some {xs : List P} {M M' : Mem} {d : D} (h : newl xs M = some (d, M')) : xs.length ≤ sizeLine ∧ d = .p (.ref M.length) ∧ M' = M ++ [xs] := by
  unfold newl at h
  split at h
  · rename_i hl; cases h; exact ⟨hl, rfl, rfl⟩
  · cases h
theorem rd_int {K : PySem.W.Frag} {H : Hp} {α : List Addr} {i : Int} {v : V} (h : RD K H α (.p (.int i)) v) : v = .int i := h
theorem rd_tuple {K : PySem.W.Frag} {H : Hp} {α : List Addr} {l : List P} {v : V} (h : RD K H α (.p (.tup l)) v) : ∃ a vs, v = .ref a ∧ SqT K H a vs ∧ RPs K H α l vs := by
  have h : RP K H α (.tup l) v := h
  unfold RP at h; exact h
theorem rd_ref {K : PySem.W.Frag} {H : Hp} {α : List Addr} {i : Nat} {v : V} (h : RD K H α (.p (.ref i)) v) : ∃ a, α[i]? = some a ∧ v = .ref a := by
  have h : RP K H α (.ref i) v := h
  unfold RP at h; exact h
theorem ref_rd {K : PySem.W.Frag} {H : Hp} {α : List Addr} {i : Nat} {v : V} (h : ∃ a, α[i]? = some a ∧ v = .ref a) : RD K H α (.p (.ref i)) v := by
  show RP K H α (.ref i) v
  unfold RP; exact h
theorem rd_list {K : PySem.W.Frag} {H : Hp} {α : List Addr} {M : Mem} {i : Nat} {v : V} {xs : List P} (m : RM K H α M) (h : RD K H α (.p (.ref i)) v) (e : M[i]? = some xs) : ∃ a vs, v = .ref a ∧ α[i]? = some a ∧ H a = some (.lst vs) ∧ RPs K H α xs vs := by
  obtain ⟨a, ea, rfl⟩ := rd_ref h
  obtain ⟨vs, q, r⟩ := m.cell i a xs ea e
  exact ⟨a, vs, rfl, ea, q, r⟩
theorem rps_nil {K : PySem.W.Frag} {H : Hp} {α : List Addr} {vs : List V} (h : RPs K H α [] vs) : vs = [] := by
  cases vs with
  | nil => rfl
  | cons v vs => unfold RPs at h; exact h.elim
theorem rps_nil2 {K : PySem.W.Frag} {H : Hp} {α : List Addr} {xs : List P} (h : RPs K H α xs []) : xs = [] := List.length_eq_zero_iff.mp h.length
theorem rps_ne {K : PySem.W.Frag} {H : Hp} {α : List Addr} {xs : List P} {vs : List V} (h : RPs K H α xs vs) (hn : xs ≠ []) : vs ≠ [] := by
  rintro rfl
  have := h.length
  cases xs with
  | nil => exact hn rfl
  | cons _ _ => simp at this
/-- the new tuple that came -/
theorem new_tup {K : PySem.W.Frag} {H : Hp} {α : List Addr} {M : Mem} {l : List P} {vs : List V} {Q : VK} (m : RM K H α M) (t : TabAll H) (r : RPs K H α l vs) (q : ∀ w H' α', Nx K α H α' H' M → RD K H' α' (.p (.tup l)) w → Q w H') :
    ∀ p, H p = none → Q (.ref p) (upd H p (.tup vs)) := fun p hp => by
  refine q _ _ α (Nx.new m t hp fun ps z => by cases z) ?_
  show RP K _ _ (.tup l) _
  unfold RP
  exact ⟨p, vs, rfl, .inl (.inl (upd_same ..)), RPs.grow (α := []) (fun b hb => by simp at hb) (grow_new hp) (Pre.refl _) _ _ r⟩
theorem new_lst {K : PySem.W.Frag} {H : Hp} {α : List Addr} {M : Mem} {l : List P} {vs : List V} {Q : VK} (m : RM K H α M) (t : TabAll H) (r : RPs K H α l vs) (q : ∀ w H' α', Nx K α H α' H' (M ++ [l]) → RD K H' α' (.p (.ref M.length)) w → Q w H') :
    ∀ p, H p = none → Q (.ref p) (upd H p (.lst vs)) := fun p hp => by
  refine q _ _ _ (Nx.newl m t hp r) (ref_rd ⟨p, ?_, rfl⟩)
  rw [← m.len, List.getElem?_append_right (Nat.le_refl _)]
  simp
/-- nothing happened -/
theorem stay {K : PySem.W.Frag} {H : Hp} {α : List Addr} {M : Mem} {d : D} {Q : VK} {v : V} (m : RM K H α M) (t : TabAll H) (r : RD K H α d v) (q : ∀ w H' α', Nx K α H α' H' M → RD K H' α' d w → Q w H') : Q v H := q v H α (Nx.refl m t) r

theorem oi_add : OpI X (fun x y H Q => rI0 (fun i j => .int (i + j)) x y H Q ∨ rCatA X.K x y H Q ∨ rCat x y H Q) (binop .add) := by
  intro H α M x y v u d M' Q m t rx ry h q
  unfold binop at h
  split at h <;> try contradiction
  · obtain ⟨rfl, rfl⟩ := one_some h
    exact .inl ⟨_, _, rx, ry, stay m t (d := .p _) (by exact rfl) q⟩
  · split at h <;> try contradiction
    rename_i hl
    obtain ⟨rfl, rfl⟩ := one_some h
    obtain ⟨p, vs, rfl, s1, r1⟩ := rd_tuple rx
    obtain ⟨p', us, rfl, s2, r2⟩ := rd_tuple ry
    refine .inr (.inl ⟨p, p', vs, us, rfl, rfl, s1, s2, by rw [← r1.length, ← r2.length]; exact hl, fun e => ?_, fun _ e => ?_, fun _ _ => new_tup m t (r1.append r2) q⟩)
    · subst e
      refine stay m t (d := .p _) ?_ q
      show RP _ _ _ (.tup _) _
      rw [rps_nil2 r1]
      unfold RP
      exact ⟨p', us, rfl, s2, r2⟩
    · subst e
      refine stay m t (d := .p _) ?_ q
      show RP _ _ _ (.tup _) _
      rw [rps_nil2 r2, List.append_nil]
      unfold RP
      exact ⟨p, vs, rfl, s1, r1⟩
  · obtain ⟨xs, e1, h⟩ := ob h
    obtain ⟨ys, e2, h⟩ := ob h
    obtain ⟨hl, rfl, rfl⟩ := newl_some h
    obtain ⟨p, vs, rfl, _, s1, r1⟩ := rd_list m rx e1
    obtain ⟨p', us, rfl, _, s2, r2⟩ := rd_list m ry e2
    refine .inr (.inr ⟨p, p', vs, us, rfl, rfl, s1, s2, ?_, new_lst m t (r1.append r2) q⟩)
    rw [List.length_append, r1.length, r2.length] at hl
    exact hl
theorem or_add : OpR X (binaryOp .Add) (fun x y H Q => rI0 (fun i j => .int (i + j)) x y H Q ∨ rCatA X.K x y H Q ∨ rCat x y H Q) := op_add.or (op_catA.or op_cat)
theorem oi_sub : OpI X (rI0 fun i j => .int (i - j)) (binop .sub) := by
  intro H α M x y v u d M' Q m t rx ry h q
  unfold binop at h
  split at h <;> try contradiction
  obtain ⟨rfl, rfl⟩ := one_some h
  exact ⟨_, _, rx, ry, stay m t (d := .p _) (by exact rfl) q⟩
theorem op_mulO {X : Cx} : OpR X (binaryOp .Mult) (rI IntMulOk fun i j => .int (i * j)) := opI fun _ _ _ _ _ _ _ hc q => mul_int q hc
theorem mulOk_ok {i j : Int} (h : mulOk i j = true) : IntMulOk i j := by
  unfold mulOk at h
  simp only [Bool.or_eq_true, Bool.and_eq_true, decide_eq_true_eq] at h
  rcases h with (h | h) | h
  · exact CMulW.ok h
  · exact CMul.ok (.inl h)
  · exact CMul.ok (.inr h)
theorem oi_mul : OpI X (fun x y H Q => rI IntMulOk (fun i j => .int (i * j)) x y H Q ∨ (rRepT X.K x y H Q ∨ rRepS X.K x y H Q ∨ rRep0 X.K x y H Q) ∨ rRep x y H Q) (binop .mul) := by
  intro H α M x y v u d M' Q m t rx ry h q
  unfold binop at h
  split at h <;> try contradiction
  · split at h <;> try contradiction
    rename_i hm
    obtain ⟨rfl, rfl⟩ := one_some h
    exact .inl ⟨_, _, rx, ry, mulOk_ok hm, stay m t (d := .p _) (by exact rfl) q⟩
  · split at h <;> try contradiction
    rename_i hm
    obtain ⟨rfl, rfl⟩ := one_some h
    simp only [Bool.and_eq_true, decide_eq_true_eq] at hm
    obtain ⟨⟨h1, h3⟩, h4⟩ := hm
    obtain ⟨p, vs, rfl, s1, r1⟩ := rd_tuple rx
    rename_i a k _
    have hi := rd_int ry
    by_cases ha : a = []
    · subst ha
      have hv : vs = [] := List.eq_nil_of_length_eq_zero (by rw [← r1.length]; rfl)
      refine .inr (.inl (.inr (.inl ⟨p, _, vs, rfl, hi, s1, .inl hv, h1, by omega, ?_⟩)))
      refine stay m t ?_ q
      have e : (List.replicate k.toNat ([] : List P)).flatten = [] := by simp
      show RP _ _ _ (.tup _) _
      rw [e]; exact rx
    · by_cases hk : k = 1
      · subst hk
        refine .inr (.inl (.inr (.inl ⟨p, _, vs, rfl, hi, s1, .inr rfl, h1, by omega, ?_⟩)))
        refine stay m t ?_ q
        have e : (List.replicate (1 : Int).toNat a).flatten = a := by simp
        show RP _ _ _ (.tup _) _
        rw [e]; exact rx
      · by_cases hz : k ≤ 0
        · refine .inr (.inl (.inr (.inr ⟨p, _, vs, rfl, hi, s1, rps_ne r1 ha, h1, hz, ?_⟩)))
          have e : (List.replicate k.toNat a).flatten = [] := by
            rw [Int.toNat_of_nonpos hz]; rfl
          rw [e] at q
          exact new_tup m t (by unfold RPs; trivial) q
        · exact .inr (.inl (.inl ⟨p, _, vs, rfl, hi, s1, rps_ne r1 ha, by omega, h3, by rw [← r1.length]; exact h4, new_tup m t (r1.rep _) q⟩))
  · obtain ⟨xs, e1, h⟩ := ob h
    split at h <;> try contradiction
    rename_i hm
    obtain ⟨hl, rfl, rfl⟩ := newl_some h
    simp only [Bool.and_eq_true, decide_eq_true_eq] at hm
    obtain ⟨⟨h1, h2⟩, h3⟩ := hm
    obtain ⟨p, vs, rfl, _, s1, r1⟩ := rd_list m rx e1
    exact .inr (.inr ⟨p, _, vs, rfl, rd_int ry, s1, h2, h3, by rw [← r1.length]; exact h1, new_lst m t (r1.rep _) q⟩)
theorem or_mul : OpR X (binaryOp .Mult) (fun x y H Q => rI IntMulOk (fun i j => .int (i * j)) x y H Q ∨ (rRepT X.K x y H Q ∨ rRepS X.K x y H Q ∨ rRep0 X.K x y H Q) ∨ rRep x y H Q) := op_mulO.or ((op_repT.or (op_repS.or op_rep0)).or op_rep)
theorem oi_div : OpI X (fun x y H Q => rI CDivW (fun i j => .int (i / j)) x y H Q ∨ rI CDivN (fun i j => .int (i.fdiv j)) x y H Q) (binop .fdiv) := by
  intro H α M x y v u d M' Q m t rx ry h q
  unfold binop at h
  split at h <;> try contradiction
  split at h <;> try contradiction
  rename_i hm
  obtain ⟨rfl, rfl⟩ := one_some h
  unfold divOk at hm
  simp only [Bool.or_eq_true, Bool.and_eq_true, decide_eq_true_eq] at hm
  rcases hm with ⟨h1, h2⟩ | hm
  · refine .inl ⟨_, _, rx, ry, ⟨h1, h2⟩, ?_⟩
    show Q (.int (_ / _)) H
    rw [← Int.fdiv_eq_ediv_of_nonneg _ (Int.le_of_lt h1)]
    exact stay m t (d := .p _) (by exact rfl) q
  · exact .inr ⟨_, _, rx, ry, hm, stay m t (d := .p _) (by exact rfl) q⟩
theorem or_div : OpR X (binaryOp .FloorDiv) (fun x y H Q => rI CDivW (fun i j => .int (i / j)) x y H Q ∨ rI CDivN (fun i j => .int (i.fdiv j)) x y H Q) := op_fdivW.or op_fdivN
theorem oi_mod : OpI X (rI (fun _ j => j ≠ 0) fun i j => .int (i.fmod j)) (binop .mod) := by
  intro H α M x y v u d M' Q m t rx ry h q
  unfold binop at h
  split at h <;> try contradiction
  split at h <;> try contradiction
  rename_i hm
  obtain ⟨rfl, rfl⟩ := one_some h
  exact ⟨_, _, rx, ry, hm, stay m t (d := .p _) (by exact rfl) q⟩
theorem oi_pow : OpI X (rI CPow fun i j => .int (i ^ j.toNat)) (binop .pow) := by
  intro H α M x y v u d M' Q m t rx ry h q
  unfold binop at h
  split at h <;> try contradiction
  split at h <;> try contradiction
  rename_i hm
  obtain ⟨rfl, rfl⟩ := one_some h
  simp only [Bool.and_eq_true, decide_eq_true_eq] at hm
  exact ⟨_, _, rx, ry, ⟨hm.1.1, hm.1.2, hm.2⟩, stay m t (d := .p _) (by exact rfl) q⟩
end
end IX
end

section
set_option Elab.async false
set_option autoImplicit false
set_option linter.all false
set_option maxRecDepth 100000
set_option maxHeartbeats 4000000
/-! Comparisons, truth, displays, subscripts. -/
namespace IX
open PySem PySem.Spec PyProof.Rows L2 GX
mutual
theorem fit_ok : ∀ (k : Nat) (x : P), x.fit k = true → x.toD.canLay0 = true ∧ x.toD.depth ≤ k
  | _, .non, _ | _, .bl _, _ | _, .int _, _ => by simp [P.toD, PyData.canLay0, PyData.depth]
  | _, .str x, h => by
    have h : PyData.strOk x = true := by simpa [P.fit] using h
    simp [P.toD, PyData.canLay0, PyData.depth, h]
  | 0, .tup l, h => by simp [P.fit] at h
  | k + 1, .tup l, h => by
    have h : P.fits k l = true := by simpa [P.fit] using h
    have := fits_ok k l h
    simp only [P.toD, PyData.canLay0, PyData.depth]
    exact ⟨this.1, Nat.succ_le_succ this.2⟩
theorem fits_ok : ∀ (k : Nat) (xs : List P), P.fits k xs = true → PyData.canLayAll0 (P.toDs xs) = true ∧ PyData.depthAll (P.toDs xs) ≤ k
  | _, [], _ => by simp [P.toDs, PyData.canLayAll0, PyData.depthAll]
  | k, x :: xs, h => by
    have h : P.fit k x = true ∧ P.fits k xs = true := by simpa [P.fits] using h
    have h1 := fit_ok k x h.1
    have h2 := fits_ok k xs h.2
    simp only [P.toDs, PyData.canLayAll0, PyData.depthAll, h1.1, h2.1, Bool.and_true]
    exact ⟨trivial, Nat.max_le.mpr ⟨h1.2, h2.2⟩⟩
end
mutual
theorem rp_dp {K : PySem.W.Frag} {H : Hp} {α : List Addr} : ∀ (x : P) (k : Nat) (v : V), x.fit k = true → RP K H α x v → Dp K H v x.toD
  | .non, _, v, _, h => by unfold RP at h; subst h; simp only [P.toD]; exact .non
  | .bl b, _, v, _, h => by unfold RP at h; subst h; simp only [P.toD]; exact .bl b
  | .int b, _, v, _, h => by unfold RP at h; subst h; simp only [P.toD]; exact .int b
  | .str b, _, v, _, h => by unfold RP at h; subst h; simp only [P.toD]; exact .str b
  | .tup l, 0, v, f, _ => by unfold P.fit at f; cases f
  | .tup l, k + 1, v, f, h => by
    unfold P.fit at f
    unfold RP at h
    obtain ⟨a, vs, rfl, q, r⟩ := h
    simp only [P.toD]
    exact .tup q (rps_dp l k vs f r)
  | .ref _, _, _, f, _ => by unfold P.fit at f; cases f
theorem rps_dp {K : PySem.W.Frag} {H : Hp} {α : List Addr} : ∀ (xs : List P) (k : Nat) (vs : List V), P.fits k xs = true → RPs K H α xs vs → DpAll K H vs (P.toDs xs)
  | [], _, [], _, _ => by simp only [P.toDs]; exact .nil
  | x :: xs, k, v :: vs, f, h => by
    unfold P.fits at f
    rw [Bool.and_eq_true] at f
    unfold RPs at h
    simp only [P.toDs]
    exact .cons (rp_dp x k v f.1 h.1) (rps_dp xs k vs f.2 h.2)
  | [], _, _ :: _, _, h => by unfold RPs at h; exact h.elim
  | _ :: _, _, [], _, h => by unfold RPs at h; exact h.elim
end
theorem eqd_ok {K : PySem.W.Frag} {H : Hp} {α : List Addr} {M : Mem} {x y : D} {v u : V} {b : Bool} (m : RM K H α M) (rx : RD K H α x v) (ry : RD K H α y u) (h : eqd M x y = some b) :
    ∃ d e, Dp K H v d ∧ Dp K H u e ∧ SeqAt.shaped d = true ∧ SeqAt.shaped e = true ∧ PyData.eqv d e = b := by
  unfold eqd at h
  split at h <;> try contradiction
  · obtain ⟨xs, e1, h⟩ := ob h
    obtain ⟨ys, e2, h⟩ := ob h
    split at h <;> try contradiction
    rename_i hf
    cases h
    rw [Bool.and_eq_true] at hf
    obtain ⟨p, vs, rfl, _, s1, r1⟩ := rd_list m rx e1
    obtain ⟨p', us, rfl, _, s2, r2⟩ := rd_list m ry e2
    have h1 := fits_ok _ _ hf.1
    have h2 := fits_ok _ _ hf.2
    refine ⟨_, _, .lst (.inl (.inl s1)) (rps_dp _ _ _ hf.1 r1), .lst (.inl (.inl s2)) (rps_dp _ _ _ hf.2 r2), ?_, ?_, ?_⟩
    · have := h1.2
      simp [SeqAt.shaped, PyData.canLay0, PyData.depth, h1.1]; exact this
    · have := h2.2
      simp [SeqAt.shaped, PyData.canLay0, PyData.depth, h2.1]; exact this
    · simp only [P.eqv, P.toD, PyData.eqv]
  · rename_i a c _
    split at h <;> try contradiction
    rename_i hf
    cases h
    rw [Bool.and_eq_true] at hf
    have h1 := fit_ok _ _ hf.1
    have h2 := fit_ok _ _ hf.2
    exact ⟨_, _, rp_dp a _ v hf.1 rx, rp_dp c _ u hf.2 ry, by simp [SeqAt.shaped, h1], by simp [SeqAt.shaped, h2], rfl⟩
theorem flat_ok {K : PySem.W.Frag} {H : Hp} {α : List Addr} {x : P} {v : V} (r : RP K H α x v) (h : flat x = true) : flatV v = true := by
  cases x <;> first | (unfold RP at r; subst r; rfl) | cases h
theorem flats_ok {K : PySem.W.Frag} {H : Hp} {α : List Addr} : ∀ {xs : List P} {vs : List V}, RPs K H α xs vs → xs.all flat = true → vs.all flatV = true
  | [], [], _, _ => rfl
  | x :: xs, v :: vs, r, h => by
    unfold RPs at r
    rw [List.all_cons, Bool.and_eq_true] at h
    rw [List.all_cons, flat_ok r.1 h.1, flats_ok r.2 h.2]; rfl
  | [], _ :: _, h, _ => by unfold RPs at h; exact h.elim
  | _ :: _, [], h, _ => by unfold RPs at h; exact h.elim
theorem eqv_ok {K : PySem.W.Frag} {H : Hp} {α : List Addr} {x y : P} {v u : V} (rx : RP K H α x v) (ry : RP K H α y u) (hx : flat x = true) (hy : flat y = true) : eqV u v = y.eqv x := by
  cases x <;> cases y
  all_goals first
    | (simp [flat] at hx; done)
    | (simp [flat] at hy; done)
    | (unfold RP at rx ry; subst rx; subst ry; simp [eqV, P.eqv, P.toD, PyData.eqv])
theorem any_ok {K : PySem.W.Frag} {H : Hp} {α : List Addr} {x : P} {v : V} (rx : RP K H α x v) (hx : flat x = true) : ∀ {xs : List P} {vs : List V}, RPs K H α xs vs → xs.all flat = true → inV v vs = xs.any fun y => y.eqv x
  | [], [], _, _ => rfl
  | y :: xs, u :: vs, r, h => by
    unfold RPs at r
    rw [List.all_cons, Bool.and_eq_true] at h
    have := any_ok rx hx r.2 h.2
    unfold inV at this ⊢
    rw [List.any_cons, List.any_cons, this, eqv_ok rx r.1 hx h.1]
  | [], _ :: _, h, _ => by unfold RPs at h; exact h.elim
  | _ :: _, [], h, _ => by unfold RPs at h; exact h.elim
theorem rp_non {K : PySem.W.Frag} {H : Hp} {α : List Addr} {x : P} {v : V} (r : RP K H α x v) : decide (x = .non) = decide (v = .non) := by
  cases x <;> unfold RP at r
  case tup l => obtain ⟨a, vs, rfl, _⟩ := r; simp
  case ref i => obtain ⟨a, _, rfl⟩ := r; simp
  all_goals (subst r; simp)
/-- what a comparison does, by the kit's reading -/
def rCmp (X : Cx) : CO → R2
  | .eq => rEqD X.K
  | .ne => rNeD X.K
  | .lt => rI0 fun i j => .bl (decide (i < j))
  | .le => rI0 fun i j => .bl (decide (i ≤ j))
  | .gt => rI0 fun i j => .bl (decide (j < i))
  | .ge => rI0 fun i j => .bl (decide (j ≤ i))
  | .is => fun x y H Q => (y = .non ∧ Q (.bl (decide (x = .non))) H) ∨ ∃ a b, x = .bl a ∧ y = .bl b ∧ Q (.bl (a == b)) H
  | .isnot => fun x y H Q => (y = .non ∧ Q (.bl (!decide (x = .non))) H) ∨ ∃ a b, x = .bl a ∧ y = .bl b ∧ Q (.bl (!(a == b))) H
  | .isin => fun x y H Q => rIn X.K false x y H Q ∨ rInD X.K x y H Q
  | .notin => fun x y H Q => rIn X.K true x y H Q ∨ rNotInD X.K x y H Q
def coOp : CO → CmpOp
  | .eq => .Eq | .ne => .NotEq | .lt => .Lt | .le => .LtE | .gt => .Gt | .ge => .GtE | .is => .Is | .isnot => .IsNot | .isin => .In | .notin => .NotIn
theorem or_or {X : Cx} {f : Value → Value → Sem Value} {r r' : R2} (h : OpR X f r) (h' : OpR X f r') : OpR X f (fun x y H Q => r x y H Q ∨ r' x y H Q) := fun pins s σ H x y v u Q I rx ry q => q.elim (h pins s σ H x y v u Q I rx ry) (h' pins s σ H x y v u Q I rx ry)
theorem bool_beq (a b : Bool) : (Value.bool a == Value.bool b) = (a == b) := by cases a <;> cases b <;> rfl
theorem op_isB {X : Cx} : OpR X (compareOp .Is) (fun x y H Q => ∃ a b, x = .bl a ∧ y = .bl b ∧ Q (.bl (a == b)) H) := by
  intro pins s σ H x y v u Q I rx ry h
  obtain ⟨a, b, rfl, rfl, q⟩ := h
  cases rx
  cases ry
  show wpAny _ _ ((isSame (.bool a) (.bool b)) >>= fun z => pure (Value.bool z)) _ _ s
  exact wpAny_bind (wpAny_isSame_plain rfl (by rw [bool_beq]; exact wpAny_pure (fin_bl I q rfl)))
theorem op_notB {X : Cx} : OpR X (compareOp .IsNot) (fun x y H Q => ∃ a b, x = .bl a ∧ y = .bl b ∧ Q (.bl (!(a == b))) H) := by
  intro pins s σ H x y v u Q I rx ry h
  obtain ⟨a, b, rfl, rfl, q⟩ := h
  cases rx
  cases ry
  show wpAny _ _ ((isSame (.bool a) (.bool b)) >>= fun z => pure (Value.bool (!z))) _ _ s
  exact wpAny_bind (wpAny_isSame_plain rfl (by rw [bool_beq]; exact wpAny_pure (fin_bl I q rfl)))
theorem any_map (x : PyData) : ∀ xs : List P, ((P.toDs xs).any fun z => PyData.eqv z x) = xs.any fun y => PyData.eqv y.toD x
  | [] => by simp [P.toDs]
  | y :: ys => by simp [P.toDs, any_map x ys]
theorem in_deep {K : PySem.W.Frag} {H : Hp} {α : List Addr} {M : Mem} {x : P} {y : D} {v u : V} {xs : List P} (m : RM K H α M) (rx : RP K H α x v) (ry : RD K H α y u) (hi : items M y = some xs) (hl : isLst y = true) (h1 : x.fit 63 = true) (h2 : P.fits 63 xs = true) :
    Dp K H v x.toD ∧ Dp K H u (.list (P.toDs xs)) ∧ SeqAt.shaped x.toD = true ∧ SeqAt.shaped (.list (P.toDs xs)) = true := by
  cases y with
  | scr _ => cases hl
  | p y =>
    cases y <;> try (cases hl; done)
    obtain ⟨p, vs, rfl, _, s1, r1⟩ := rd_list m ry hi
    have f1 := fit_ok _ _ h1
    have f2 := fits_ok _ _ h2
    refine ⟨rp_dp x _ v h1 rx, .lst (.inl (.inl s1)) (rps_dp _ _ _ h2 r1), ?_, ?_⟩
    · have := f1.2
      simp [SeqAt.shaped, f1.1]; omega
    · have := f2.2
      simp [SeqAt.shaped, PyData.canLay0, PyData.depth, f2.1]; exact this
theorem or_cmp {X : Cx} (hu : X.A.units + 65 < cLine) (o : CO) : OpR X (compareOp (coOp o)) (rCmp X o) := by
  cases o
  · exact op_eqD (by omega)
  · exact op_neD (by omega)
  · exact op_lt
  · exact op_le
  · exact op_gt
  · exact op_ge
  · exact or_or op_isN op_isB
  · exact or_or op_notN op_notB
  · exact or_or op_in_seq (op_inD hu)
  · exact or_or op_notIn_seq (op_notInD hu)
/-- a comparison: its answer -/
theorem cmp_ok {X : Cx} {o : CO} {H : Hp} {α : List Addr} {M : Mem} {x y : D} {v u : V} {b : Bool} {Q : VK} (m : RM X.K H α M) (rx : RD X.K H α x v) (ry : RD X.K H α y u) (h : cmpop o x y M = some b) (q : Q (.bl b) H) : rCmp X o v u H Q := by
  cases o
  case eq =>
    obtain ⟨d, e, h1, h2, h3, h4, rfl⟩ := eqd_ok m rx ry h
    exact ⟨d, e, h1, h2, h3, h4, q⟩
  case ne =>
    obtain ⟨c, h', rfl⟩ := Option.map_eq_some_iff.mp (show (eqd M x y).map (!·) = some b from h)
    obtain ⟨d, e, h1, h2, h3, h4, rfl⟩ := eqd_ok m rx ry h'
    exact ⟨d, e, h1, h2, h3, h4, q⟩
  case isin =>
    unfold cmpop at h
    split at h <;> try contradiction
    obtain ⟨xs, e1, h⟩ := ob h
    split at h <;> try contradiction
    rename_i hf
    cases h
    rw [Bool.or_eq_true, Bool.and_eq_true, Bool.and_eq_true, Bool.and_eq_true] at hf
    rcases hf with hf | ⟨hl, hf⟩
    · obtain ⟨a, vs, rfl, s, r⟩ := items_rd m ry e1
      refine .inl ⟨a, vs, rfl, s, flat_ok rx hf.1, flats_ok r hf.2, ?_⟩
      rw [any_ok rx hf.1 r hf.2]
      exact q
    · obtain ⟨h1, h2, h3, h4⟩ := in_deep m rx ry e1 hl hf.1 hf.2
      refine .inr ⟨_, _, h1, h2, h3, h4, ?_⟩
      rw [any_map]
      exact q
  case notin =>
    unfold cmpop at h
    split at h <;> try contradiction
    obtain ⟨xs, e1, h⟩ := ob h
    split at h <;> try contradiction
    rename_i hf
    cases h
    rw [Bool.or_eq_true, Bool.and_eq_true, Bool.and_eq_true, Bool.and_eq_true] at hf
    rcases hf with hf | ⟨hl, hf⟩
    · obtain ⟨a, vs, rfl, s, r⟩ := items_rd m ry e1
      refine .inl ⟨a, vs, rfl, s, flat_ok rx hf.1, flats_ok r hf.2, ?_⟩
      rw [any_ok rx hf.1 r hf.2]
      exact q
    · obtain ⟨h1, h2, h3, h4⟩ := in_deep m rx ry e1 hl hf.1 hf.2
      refine .inr ⟨_, _, h1, h2, h3, h4, ?_⟩
      rw [any_map]
      exact q
  case is =>
    unfold cmpop at h
    split at h <;> try contradiction
    · cases h
      rw [rp_non (show RP _ _ _ _ v from rx)] at q
      exact .inl ⟨ry, q⟩
    · cases h
      exact .inr ⟨_, _, rx, ry, q⟩
  case isnot =>
    unfold cmpop at h
    split at h <;> try contradiction
    · cases h
      rw [rp_non (show RP _ _ _ _ v from rx)] at q
      exact .inl ⟨ry, q⟩
    · cases h
      exact .inr ⟨_, _, rx, ry, q⟩
  all_goals
    unfold cmpop at h
    split at h <;> try contradiction
    cases h
    exact ⟨_, _, rx, ry, q⟩
section
variable {X : Cx} {a b c e : Expr} {es : List Expr} {pos : Pos} {fa fb fc : Env → Mem → Option (D × Mem)} {ga gb : Env → Mem → Option (Bool × Mem)} {fs : Env → Mem → Option (List D × Mem)} {o o' : CO}
theorem s_cmp (hu : X.A.units + 65 < cLine) (ha : PE X a (tI X fa)) (hb : PE X b (tI X fb)) (hm : behindInMarks (coOp o) b = false) :
    PE X (.Compare a [coOp o] [b] pos) (tI X fun ρ M => do
      let (x, M) ← fa ρ M
      let (y, M) ← fb ρ M
      let r ← cmpop o x y M
      some (.p (.bl r), M)) := by
  refine s_op2 (g := fun x y M => do
      let r ← cmpop o x y M
      some (.p (.bl r), M)) (pe_cmpR (or_cmp hu o) ha hb hm) fun H α M x y v u d M' Q m t rx ry h q => ?_
  obtain ⟨r, e1, h⟩ := ob h
  cases h
  exact cmp_ok m rx ry e1 (stay m t (d := .p _) (by exact rfl) q)
theorem t_cmp (hu : X.A.units + 65 < cLine) (ha : PE X a (tI X fa)) (hb : PE X b (tI X fb)) (hm : behindInMarks (coOp o) b = false) :
    PT X (.Compare a [coOp o] [b] pos) (tIT X fun ρ M => do
      let (x, M) ← fa ρ M
      let (y, M) ← fb ρ M
      let r ← cmpop o x y M
      some (r, M)) := (pt_cmpR (or_cmp hu o) ha hb hm).weak fun σ H Q h => by
  obtain ⟨ρ, M, α, d, M', r0, e, q⟩ := h
  obtain ⟨⟨x, M1⟩, e1, e⟩ := ob e
  obtain ⟨⟨y, M2⟩, e2, e⟩ := ob e
  obtain ⟨r, e3, e⟩ := ob e
  cases e
  refine tI.use r0 e1 fun v H1 α1 n1 d1 r1 => tI.use r1 e2 fun u H2 α2 n2 d2 r2 => ?_
  exact cmp_ok r2.mem (n2.rd r1.mem d1) d2 e3 ⟨_, rfl, q H2 α2 (n1.trans r0.mem n2)⟩
theorem s_cmp2 (hu : X.A.units + 65 < cLine) (ha : PE X a (tI X fa)) (hb : PE X b (tI X fb)) (hc : PE X c (tI X fc)) (hm : lastMarks [coOp o, coOp o'] [b, c] = false) :
    PE X (.Compare a [coOp o, coOp o'] [b, c] pos) (tI X fun ρ M => do
      let (x, M) ← fa ρ M
      let (y, M) ← fb ρ M
      let r ← cmpop o x y M
      if r then do
        let (z, M) ← fc ρ M
        let r' ← cmpop o' y z M
        some (.p (.bl r'), M)
      else some (.p (.bl false), M)) := (pe_chain (or_cmp hu o) (or_cmp hu o') ha hb hc hm).weak fun σ H Q h => by
  obtain ⟨ρ, M, α, d, M', r0, e, q⟩ := h
  obtain ⟨⟨x, M1⟩, e1, e⟩ := ob e
  obtain ⟨⟨y, M2⟩, e2, e⟩ := ob e
  obtain ⟨r, e3, e⟩ := ob e
  refine tI.use r0 e1 fun v H1 α1 n1 d1 r1 => tI.use r1 e2 fun u H2 α2 n2 d2 r2 => ?_
  refine cmp_ok r2.mem (n2.rd r1.mem d1) d2 e3 ⟨_, rfl, ?_⟩
  cases r with
  | false =>
    cases e
    exact q _ H2 α2 (n1.trans r0.mem n2) rfl
  | true =>
    obtain ⟨⟨z, M3⟩, e4, e⟩ := ob e
    obtain ⟨r', e5, e⟩ := ob e
    cases e
    refine tI.use r2 e4 fun w H3 α3 n3 d3 r3 => ?_
    exact cmp_ok r3.mem (n3.rd r2.mem d2) d3 e5 (q _ H3 α3 ((n1.trans r0.mem n2).trans r0.mem n3) rfl)
theorem t_cmp2 (hu : X.A.units + 65 < cLine) (ha : PE X a (tI X fa)) (hb : PE X b (tI X fb)) (hc : PE X c (tI X fc)) (hm : lastMarks [coOp o, coOp o'] [b, c] = false) :
    PT X (.Compare a [coOp o, coOp o'] [b, c] pos) (tIT X fun ρ M => do
      let (x, M) ← fa ρ M
      let (y, M) ← fb ρ M
      let r ← cmpop o x y M
      if r then do
        let (z, M) ← fc ρ M
        let r' ← cmpop o' y z M
        some (r', M)
      else some (false, M)) := (pt_chain (or_cmp hu o) (or_cmp hu o') ha hb hc hm).weak fun σ H Q h => by
  obtain ⟨ρ, M, α, d, M', r0, e, q⟩ := h
  obtain ⟨⟨x, M1⟩, e1, e⟩ := ob e
  obtain ⟨⟨y, M2⟩, e2, e⟩ := ob e
  obtain ⟨r, e3, e⟩ := ob e
  refine tI.use r0 e1 fun v H1 α1 n1 d1 r1 => tI.use r1 e2 fun u H2 α2 n2 d2 r2 => ?_
  refine cmp_ok r2.mem (n2.rd r1.mem d1) d2 e3 ⟨_, rfl, ?_⟩
  cases r with
  | false =>
    cases e
    exact ⟨_, rfl, q H2 α2 (n1.trans r0.mem n2)⟩
  | true =>
    obtain ⟨⟨z, M3⟩, e4, e⟩ := ob e
    obtain ⟨r', e5, e⟩ := ob e
    cases e
    refine tI.use r2 e4 fun w H3 α3 n3 d3 r3 => ?_
    exact cmp_ok r3.mem (n3.rd r2.mem d2) d3 e5 ⟨_, rfl, q H3 α3 ((n1.trans r0.mem n2).trans r0.mem n3)⟩
theorem emp_ok {K : PySem.W.Frag} {H : Hp} {α : List Addr} {xs : List P} {vs : List V} (q : RPs K H α xs vs) : (!xs.isEmpty) = !vs.isEmpty := by
  cases xs with
  | nil => rw [rps_nil q]; rfl
  | cons x xs =>
    cases vs with
    | nil => exact absurd (rps_nil2 q) (by simp)
    | cons _ _ => rfl
theorem truth_ok {K : PySem.W.Frag} {H : Hp} {α : List Addr} {M : Mem} {d : D} {v : V} {b : Bool} (m : RM K H α M) (r : RD K H α d v) (h : truth M d = some b) : TruV K v H b := by
  unfold truth at h
  split at h <;> try contradiction
  · cases h; rw [show v = .non from r]; rfl
  · cases h; rw [show v = .bl _ from r]; rfl
  · cases h; rw [show v = .int _ from r]; rfl
  · cases h
    obtain ⟨a, vs, rfl, s, q⟩ := rd_tuple r
    exact .inr (.inl ⟨vs, s, emp_ok q⟩)
  · obtain ⟨xs, e1, rfl⟩ := Option.map_eq_some_iff.mp h
    obtain ⟨a, vs, rfl, s, q⟩ := items_rd (l := xs) m r (by exact e1)
    rcases s with s | s
    · exact .inl ⟨vs, s, emp_ok q⟩
    · exact .inr (.inl ⟨vs, s, emp_ok q⟩)
  · cases h
    rename_i xs
    obtain ⟨a, vs, rfl, s, q⟩ := items_rd (l := xs) m r rfl
    rcases s with s | s
    · exact .inl ⟨vs, s, emp_ok q⟩
    · exact .inr (.inl ⟨vs, s, emp_ok q⟩)
theorem t_tru (ha : PE X a (tI X fa)) (he : ∀ whole, isTrue a X.env whole = (do let v ← whole; standAt a.pos; holding [v] (truthy v))) :
    PT X a (tIT X fun ρ M => do
      let (x, M) ← fa ρ M
      let r ← truth M x
      some (r, M)) := (pt_truth ha he).weak fun σ H Q h => by
  obtain ⟨ρ, M, α, d, M', r0, e, q⟩ := h
  obtain ⟨⟨x, M1⟩, e1, e⟩ := ob e
  obtain ⟨r, e3, e⟩ := ob e
  cases e
  exact tI.use r0 e1 fun v H1 α1 n1 d1 r1 => ⟨_, truth_ok r1.mem d1 e3, q H1 α1 n1⟩
theorem t_not (ha : PT X a (tIT X ga)) : PT X (.UnaryOp .Not a pos) (tIT X fun ρ M => do
      let (b, M) ← ga ρ M
      some (!b, M)) := (pt_not ha).weak fun σ H Q h => by
  obtain ⟨ρ, M, α, d, M', r0, e, q⟩ := h
  obtain ⟨⟨x, M1⟩, e1, e⟩ := ob e
  cases e
  exact tIT.use r0 e1 fun H1 α1 n1 r1 => q H1 α1 n1
theorem t_and1 (ha : PT X a (tIT X ga)) : PW X (.BoolOp .And [a] pos) (tIT X ga) := pw_and1 ha
theorem t_or1 (ha : PT X a (tIT X ga)) : PW X (.BoolOp .Or [a] pos) (tIT X ga) := pw_or1 ha
theorem t_and (ha : PT X a (tIT X ga)) (hb : PW X (.BoolOp .And (b :: es) pos) (tIT X gb)) : PW X (.BoolOp .And (a :: b :: es) pos) (tIT X fun ρ M => do
      let (b, M) ← ga ρ M
      if b then gb ρ M else some (false, M)) := (pw_and ha hb).weak fun σ H Q h => by
  obtain ⟨ρ, M, α, d, M', r0, e, q⟩ := h
  obtain ⟨⟨x, M1⟩, e1, e⟩ := ob e
  refine tIT.use r0 e1 fun H1 α1 n1 r1 => ?_
  cases x with
  | false => cases e; exact q H1 α1 n1
  | true => exact tIT.use r1 e fun H2 α2 n2 r2 => q H2 α2 (n1.trans r0.mem n2)
theorem t_or (ha : PT X a (tIT X ga)) (hb : PW X (.BoolOp .Or (b :: es) pos) (tIT X gb)) : PW X (.BoolOp .Or (a :: b :: es) pos) (tIT X fun ρ M => do
      let (b, M) ← ga ρ M
      if b then some (true, M) else gb ρ M) := (pw_or ha hb).weak fun σ H Q h => by
  obtain ⟨ρ, M, α, d, M', r0, e, q⟩ := h
  obtain ⟨⟨x, M1⟩, e1, e⟩ := ob e
  refine tIT.use r0 e1 fun H1 α1 n1 r1 => ?_
  cases x with
  | true => cases e; exact q H1 α1 n1
  | false => exact tIT.use r1 e fun H2 α2 n2 r2 => q H2 α2 (n1.trans r0.mem n2)
theorem s_and1 (ha : PE X a (tI X fa)) : PE X (.BoolOp .And [a] pos) (tI X fa) := pe_one ha
theorem s_or1 (ha : PE X a (tI X fa)) : PE X (.BoolOp .Or [a] pos) (tI X fa) := pe_one ha
def step2 (stop : Bool) (x : D) (k : Option (D × Mem)) (M : Mem) : Option (D × Mem) := match x with
  | .p (.bl b) => if b = stop then some (.p (.bl stop), M) else k
  | _ => none
theorem s_and (ha : PE X a (tI X fa)) (hb : PE X (.BoolOp .And (b :: es) pos) (tI X fb)) : PE X (.BoolOp .And (a :: b :: es) pos) (tI X fun ρ M => do
      let (x, M) ← fa ρ M
      match x with
      | .p (.bl true) => fb ρ M
      | .p (.bl false) => some (.p (.bl false), M)
      | _ => none) := (pe_and ha hb).weak fun σ H Q h => by
  obtain ⟨ρ, M, α, d, M', r0, e, q⟩ := h
  obtain ⟨⟨x, M1⟩, e1, e⟩ := ob e
  refine tI.use r0 e1 fun v H1 α1 n1 d1 r1 => ?_
  dsimp only at e
  split at e <;> try contradiction
  · exact ⟨true, d1, tI.use r1 e fun w H2 α2 n2 d2 r2 => q w H2 α2 (n1.trans r0.mem n2) d2⟩
  · cases e; exact ⟨false, d1, q _ H1 α1 n1 rfl⟩
theorem s_or (ha : PE X a (tI X fa)) (hb : PE X (.BoolOp .Or (b :: es) pos) (tI X fb)) : PE X (.BoolOp .Or (a :: b :: es) pos) (tI X fun ρ M => do
      let (x, M) ← fa ρ M
      match x with
      | .p (.bl true) => some (.p (.bl true), M)
      | .p (.bl false) => fb ρ M
      | _ => none) := (pe_or ha hb).weak fun σ H Q h => by
  obtain ⟨ρ, M, α, d, M', r0, e, q⟩ := h
  obtain ⟨⟨x, M1⟩, e1, e⟩ := ob e
  refine tI.use r0 e1 fun v H1 α1 n1 d1 r1 => ?_
  dsimp only at e
  split at e <;> try contradiction
  · cases e; exact ⟨true, d1, q _ H1 α1 n1 rfl⟩
  · exact ⟨false, d1, tI.use r1 e fun w H2 α2 n2 d2 r2 => q w H2 α2 (n1.trans r0.mem n2) d2⟩
theorem s_ife (hc : PT X c (tIT X ga)) (ha : PE X a (tI X fa)) (hb : PE X b (tI X fb)) : PE X (.IfExp c a b pos) (tI X fun ρ M => do
      let (c, M) ← ga ρ M
      if c then fa ρ M else fb ρ M) := (pe_ifExp hc ha hb).weak fun σ H Q h => by
  obtain ⟨ρ, M, α, d, M', r0, e, q⟩ := h
  obtain ⟨⟨x, M1⟩, e1, e⟩ := ob e
  refine tIT.use r0 e1 fun H1 α1 n1 r1 => ?_
  cases x with
  | true => exact tI.use r1 e fun w H2 α2 n2 d2 r2 => q w H2 α2 (n1.trans r0.mem n2) d2
  | false => exact tI.use r1 e fun w H2 α2 n2 d2 r2 => q w H2 α2 (n1.trans r0.mem n2) d2
theorem a_nil : PA X [] (tIA X fun _ M => some ([], M)) := pa_nil.weak fun σ H Q h => by
  obtain ⟨ρ, M, α, d, M', r0, e, q⟩ := h
  cases e
  exact q [] H α (Nx.refl r0.mem r0.tab) trivial
theorem a_cons (ha : PE X a (tI X fa)) (hs : PA X es (tIA X fs)) (h : starEach (a :: es) X.env = (false, eval a X.env) :: starEach es X.env) : PA X (a :: es) (tIA X fun ρ M => do
      let (x, M) ← fa ρ M
      let (xs, M) ← fs ρ M
      some (x :: xs, M)) := (pa_cons ha hs h).weak fun σ H Q h => by
  obtain ⟨ρ, M, α, d, M', r0, e, q⟩ := h
  obtain ⟨⟨x, M1⟩, e1, e⟩ := ob e
  obtain ⟨⟨xs, M2⟩, e2, e⟩ := ob e
  cases e
  exact tI.use r0 e1 fun v H1 α1 n1 d1 r1 => tIA.use r1 e2 fun vs H2 α2 n2 d2 r2 => q _ H2 α2 (n1.trans r0.mem n2) ⟨n2.rd r1.mem d1, d2⟩
theorem o_none : PO X none (tIO X fun _ M => some (none, M)) := po_none.weak fun σ H Q h => by
  obtain ⟨ρ, M, α, d, M', r0, e, q⟩ := h
  cases e
  exact q H α (Nx.refl r0.mem r0.tab)
theorem o_some (ha : PE X a (tI X fa)) : PO X (some a) (tIO X fun ρ M => do
      let (x, M) ← fa ρ M
      match x with
      | .p (.int i) => some (some i, M)
      | _ => none) := (po_some ha).weak fun σ H Q h => by
  obtain ⟨ρ, M, α, d, M', r0, e, q⟩ := h
  obtain ⟨⟨x, M1⟩, e1, e⟩ := ob e
  dsimp only at e
  split at e <;> try contradiction
  cases e
  exact tI.use r0 e1 fun v H1 α1 n1 d1 r1 => ⟨_, d1, q H1 α1 n1⟩
end
end IX
end

section
set_option Elab.async false
set_option autoImplicit false
set_option linter.all false
set_option maxRecDepth 100000
set_option maxHeartbeats 4000000
/-! Displays, subscripts, slices, built-ins, append. -/
namespace IX
open PySem PySem.Spec PyProof.Rows L2 GX
theorem datas_ok {K : PySem.W.Frag} {H : Hp} {α : List Addr} : ∀ {ds : List D} {vs : List V} {ps : List P}, RDs K H α ds vs → datas ds = some ps → RPs K H α ps vs
  | [], [], _, _, h => by cases h; unfold RPs; trivial
  | .p y :: ds, v :: vs, ps, r, h => by
    obtain ⟨xs, e1, h⟩ := ob (show (datas ds >>= fun xs => some (y :: xs)) = some ps from h)
    cases h
    unfold RPs
    exact ⟨r.1, datas_ok r.2 e1⟩
  | .scr _ :: _, _ :: _, _, _, h => by cases h
  | [], _ :: _, _, h, _ => h.elim
  | _ :: _, [], _, h, _ => h.elim
theorem pix_eq (n : Nat) (i : Int) : pix n i = ixN n i := rfl
theorem atx_ok {K : PySem.W.Frag} {H : Hp} {α : List Addr} {xs : List P} {vs : List V} {i : Int} {x : P} (r : RPs K H α xs vs) (h : atx xs i = some x) : ∃ v, atI vs i = some v ∧ RP K H α x v := by
  unfold atx at h
  unfold atI
  obtain ⟨j, e1, e2⟩ := Option.bind_eq_some_iff.mp h
  rw [pix_eq, r.length] at e1
  obtain ⟨v, e3, q⟩ := r.get e2
  exact ⟨v, by rw [e1]; exact e3, q⟩
theorem clip_eq (n d : Nat) (o : Option Int) : clip n d o = HT.sIx n d o := by
  cases o with
  | none => rfl
  | some v => rfl
theorem cut_ok {K : PySem.W.Frag} {H : Hp} {α : List Addr} {xs : List P} {vs : List V} (lo hi : Option Int) (r : RPs K H α xs vs) : RPs K H α (cutp xs lo hi) (cutV vs lo hi) := by
  unfold cutp cutV
  rw [clip_eq, clip_eq, r.length]
  exact (r.drop _).take _
theorem cut_whole {xs : List P} {lo hi : Option Int} (h : HT.sIx xs.length 0 lo = 0 ∧ HT.sIx xs.length xs.length hi = xs.length) : cutp xs lo hi = xs := by
  unfold cutp
  rw [clip_eq, clip_eq, h.1, h.2]
  simp
section
variable {X : Cx} {a b c e : Expr} {es : List Expr} {pos : Pos} {fa fb fc : Env → Mem → Option (D × Mem)} {ga gb : Env → Mem → Option (Bool × Mem)} {fs : Env → Mem → Option (List D × Mem)} {fl fh : Env → Mem → Option (Option Int × Mem)}
theorem s_tup {k : Nat} (h : PA X es (tIA X fs)) : PE X (.Tuple es k pos) (tI X fun ρ M => do
    let (ds, M) ← fs ρ M
    let ps ← datas ds
    if ps.length ≤ sizeLine then some (.p (.tup ps), M) else none) := (pe_tup h).weak fun σ H Q h => by
  obtain ⟨ρ, M, α, d, M', r0, e, q⟩ := h
  obtain ⟨⟨x, M1⟩, e1, e⟩ := ob e
  obtain ⟨ps, e2, e⟩ := ob e
  split at e <;> try contradiction
  rename_i hl
  cases e
  refine tIA.use r0 e1 fun vs H1 α1 n1 d1 r1 => ?_
  have rp := datas_ok d1 e2
  exact ⟨by rw [← rp.length]; exact hl, new_tup r1.mem r1.tab rp fun w H' α' n d => q w H' α' (n1.trans r0.mem n) d⟩
theorem s_lst (h : PA X es (tIA X fs)) : PE X (.List es pos) (tI X fun ρ M => do
    let (ds, M) ← fs ρ M
    let ps ← datas ds
    newl ps M) := (pe_lst h).weak fun σ H Q h => by
  obtain ⟨ρ, M, α, d, M', r0, e, q⟩ := h
  obtain ⟨⟨x, M1⟩, e1, e⟩ := ob e
  obtain ⟨ps, e2, e⟩ := ob e
  obtain ⟨hl, rfl, rfl⟩ := newl_some e
  refine tIA.use r0 e1 fun vs H1 α1 n1 d1 r1 => ?_
  have rp := datas_ok d1 e2
  exact ⟨by rw [← rp.length]; exact hl, new_lst r1.mem r1.tab rp fun w H' α' n d => q w H' α' (n1.trans r0.mem n) d⟩
theorem s_idx (ha : PE X a (tI X fa)) (hb : PE X b (tI X fb)) (hs : PlainIx b) : PE X (.Subscript a b pos) (tI X fun ρ M => do
    let (x, M) ← fa ρ M
    let (y, M) ← fb ρ M
    let r ← index x y M
    some (.p r, M)) := by
  refine s_op2 (g := fun x y M => do
    let r ← index x y M
    some (.p r, M)) (pe_ix ix_seq ha hb hs) fun H α M x y v u d M' Q m t rx ry h q => ?_
  obtain ⟨r, e1, h⟩ := ob h
  cases h
  unfold index at e1
  split at e1 <;> try contradiction
  obtain ⟨xs, e2, e3⟩ := Option.bind_eq_some_iff.mp e1
  obtain ⟨p, vs, rfl, s, rp⟩ := items_rd m rx e2
  obtain ⟨w, e4, rw_⟩ := atx_ok rp e3
  rcases s with s | s
  · exact .inl ⟨p, vs, _, w, rfl, ry, s, e4, stay m t (d := .p _) rw_ q⟩
  · exact .inr (.inl ⟨p, vs, _, w, rfl, ry, s, e4, stay m t (d := .p _) rw_ q⟩)
theorem s_slc {lo hi : Option Expr} {p2 : Pos} (ha : PE X a (tI X fa)) (hl : PO X lo (tIO X fl)) (hh : PO X hi (tIO X fh)) : PE X (.Subscript a (.Slice lo hi none p2) pos) (tI X fun ρ M => do
    let (x, M) ← fa ρ M
    let (l, M) ← fl ρ M
    let (h, M) ← fh ρ M
    slice x l h M) := (pe_slice (SlR.or sl_tupA sl_list) ha hl hh).weak fun σ H Q h => by
  obtain ⟨ρ, M, α, d, M', r0, e, q⟩ := h
  obtain ⟨⟨x, M1⟩, e1, e⟩ := ob e
  obtain ⟨⟨l, M2⟩, e2, e⟩ := ob e
  obtain ⟨⟨h, M3⟩, e3, e⟩ := ob e
  refine tI.use r0 e1 fun v H1 α1 n1 d1 r1 => tIO.use r1 e2 fun H2 α2 n2 r2 => tIO.use r2 e3 fun H3 α3 n3 r3 => ?_
  have d3 := n3.rd r2.mem (n2.rd r1.mem d1)
  have n := (n1.trans r0.mem n2).trans r0.mem n3
  have q3 : ∀ w H' α', Nx X.K α3 H3 α' H' M' → RD X.K H' α' d w → Q w H' := fun w H' α' n' d => q w H' α' (n.trans r0.mem n') d
  have m := r3.mem
  have t := r3.tab
  dsimp only at e
  unfold slice at e
  split at e <;> try contradiction
  · obtain ⟨rfl, rfl⟩ := one_some e
    obtain ⟨p, vs, rfl, s, rp⟩ := rd_tuple d3
    refine .inl ⟨p, vs, rfl, s, fun hw => ?_, fun _ => new_tup m t (cut_ok l h rp) q3⟩
    refine stay m t (d := .p _) ?_ q3
    rw [← rp.length] at hw
    rw [cut_whole hw]
    exact d3
  · obtain ⟨xs, e4, e⟩ := Option.bind_eq_some_iff.mp e
    obtain ⟨hl, rfl, rfl⟩ := newl_some e
    obtain ⟨p, vs, rfl, _, s, rp⟩ := rd_list m d3 e4
    exact .inr ⟨p, vs, rfl, .inl (.inl s), new_lst m t (cut_ok l h rp) q3⟩
  · obtain ⟨hl, rfl, rfl⟩ := newl_some e
    obtain ⟨p, vs, rfl, s, rp⟩ := d3
    exact .inr ⟨p, vs, rfl, s.elim (fun z => .inl z.1) sql_none, new_lst m t (cut_ok l h rp) q3⟩
theorem s_neg (ha : PE X a (tI X fa)) : PE X (.UnaryOp .USub a pos) (tI X fun ρ M => do
    let (x, M) ← fa ρ M
    match x with
    | .p (.int i) => some (.p (.int (-i)), M)
    | _ => none) := (pe_un un_neg ha).weak fun σ H Q h => by
  obtain ⟨ρ, M, α, d, M', r0, e, q⟩ := h
  obtain ⟨⟨x, M1⟩, e1, e⟩ := ob e
  refine tI.use r0 e1 fun v H1 α1 n1 d1 r1 => ?_
  dsimp only at e
  split at e <;> try contradiction
  cases e
  exact ⟨_, d1, q _ H1 α1 n1 rfl⟩
theorem s_notv (ha : PE X a (tI X fa)) : PE X (.UnaryOp .Not a pos) (tI X fun ρ M => do
    let (x, M) ← fa ρ M
    let b ← truth M x
    some (.p (.bl (!b)), M)) := by
  refine ⟨fun pins s σ H Q I h => ?_⟩
  obtain ⟨ρ, M, α, d, M', r0, e, q⟩ := h
  obtain ⟨⟨x, M1⟩, e1, e⟩ := ob e
  obtain ⟨b, e2, e⟩ := ob e
  cases e
  refine UnaryOp_ (thn (ha.run pins s σ H (fun v H' => ∃ k, TruV X.K v H' k ∧ Q (.bl (!k)) H') I (tI.use r0 e1 fun v H1 α1 n1 d1 r1 => ⟨b, truth_ok r1.mem d1 e2, q _ H1 α1 n1 rfl⟩)) fun v s1 ⟨x, H1, I1, r1, q1⟩ => ?_)
  exact not_of (thn (tru_ok pins s1 σ H1 x v (fun b H' => Q (.bl (!b)) H') I1 r1 q1) fun b s2 ⟨H2, I2, q2⟩ => ⟨.bl (!b), H2, I2, rfl, q2⟩)
/-- a built-in's call by values -/
def CallI (X : Cx) (r : List V → Hp → VK → Prop) (g : List D → Mem → Option (D × Mem)) : Prop := ∀ H α M ds vs d M' Q, RM X.K H α M → TabAll H → RDs X.K H α ds vs → g ds M = some (d, M') →
  (∀ w H' α', Nx X.K α H α' H' M' → RD X.K H' α' d w → Q w H') → r vs H Q
theorem s_cb {r : List V → Hp → VK → Prop} {g : List D → Mem → Option (D × Mem)} (h : PE X e (tCB r (tIA X fs))) (hr : CallI X r g) : PE X e (tI X fun ρ M => do
    let (ds, M) ← fs ρ M
    g ds M) := h.weak fun σ H Q h => by
  obtain ⟨ρ, M, α, d, M', r0, e, q⟩ := h
  obtain ⟨⟨ds, M1⟩, e1, e⟩ := ob e
  exact tIA.use r0 e1 fun vs H1 α1 n1 d1 r1 => hr H1 α1 M1 ds vs d M' Q r1.mem r1.tab d1 e fun w H' α' n d => q w H' α' (n1.trans r0.mem n) d
theorem rds1 {K : PySem.W.Frag} {H : Hp} {α : List Addr} {d : D} {vs : List V} (h : RDs K H α [d] vs) : ∃ v, vs = [v] ∧ RD K H α d v := by
  cases vs with
  | nil => exact h.elim
  | cons v vs =>
    cases vs with
    | nil => exact ⟨v, rfl, h.1⟩
    | cons _ _ => exact h.2.elim
theorem rds2 {K : PySem.W.Frag} {H : Hp} {α : List Addr} {d d' : D} {vs : List V} (h : RDs K H α [d, d'] vs) : ∃ v w, vs = [v, w] ∧ RD K H α d v ∧ RD K H α d' w := by
  cases vs with
  | nil => exact h.elim
  | cons v vs =>
    obtain ⟨w, rfl, h2⟩ := rds1 h.2
    exact ⟨v, w, rfl, h.1, h2⟩
theorem ints_ok {K : PySem.W.Frag} {H : Hp} {α : List Addr} : ∀ {xs : List P} {vs : List V} {is : List Int}, RPs K H α xs vs → intsP xs = some is → vs = is.map V.int
  | [], [], _, _, h => by cases h; rfl
  | .int i :: xs, v :: vs, is, r, h => by
    unfold RPs at r
    obtain ⟨is', e1, rfl⟩ := Option.map_eq_some_iff.mp (show (intsP xs).map (i :: ·) = some is from h)
    rw [ints_ok r.2 e1, show v = V.int _ from r.1]
    rfl
  | .non :: _, _ :: _, _, _, h => by cases h
  | .bl _ :: _, _ :: _, _, _, h => by cases h
  | .str _ :: _, _ :: _, _, _, h => by cases h
  | .tup _ :: _, _ :: _, _, _, h => by cases h
  | .ref _ :: _, _ :: _, _, _, h => by cases h
  | [], _ :: _, _, h, _ => by unfold RPs at h; exact h.elim
  | _ :: _, [], _, h, _ => by unfold RPs at h; exact h.elim
theorem itemsL_rd {K : PySem.W.Frag} {H : Hp} {α : List Addr} {M : Mem} {d : D} {v : V} {l : List P} (m : RM K H α M) (h : RD K H α d v) (e : itemsL M d = some l) : ∃ a vs, v = .ref a ∧ SqL K H a vs ∧ RPs K H α l vs := by
  cases d with
  | p x =>
    cases x with
    | ref i =>
      obtain ⟨a, vs, rfl, _, s, r⟩ := rd_list m h e
      exact ⟨a, vs, rfl, .inl (.inl s), r⟩
    | _ => cases e
  | scr xs =>
    cases e
    obtain ⟨a, vs, rfl, q, r⟩ := h
    refine ⟨a, vs, rfl, ?_, r⟩
    rcases q with ⟨q, _⟩ | q
    · exact .inl q
    · exact sql_none q
theorem maxI_mem : ∀ (a : Int) (r : List Int), maxI a r ∈ a :: r ∧ ∀ y ∈ a :: r, y ≤ maxI a r
  | a, [] => by simp [maxI]
  | a, b :: r => by
    unfold maxI
    have h := maxI_mem (if b > a then b else a) r
    constructor
    · rcases List.mem_cons.mp h.1 with e | e
      · rw [e]
        split <;> simp
      · exact List.mem_cons_of_mem _ (List.mem_cons_of_mem _ e)
    · intro y hy
      have h0 := h.2 _ List.mem_cons_self
      have ha : a ≤ (if b > a then b else a) := by split <;> omega
      have hb : b ≤ (if b > a then b else a) := by split <;> omega
      rcases List.mem_cons.mp hy with e | hy
      · rw [e]; exact Int.le_trans ha h0
      · rcases List.mem_cons.mp hy with e | hy
        · rw [e]; exact Int.le_trans hb h0
        · exact h.2 y (List.mem_cons_of_mem _ hy)
theorem minI_mem : ∀ (a : Int) (r : List Int), minI a r ∈ a :: r ∧ ∀ y ∈ a :: r, minI a r ≤ y
  | a, [] => by simp [minI]
  | a, b :: r => by
    unfold minI
    have h := minI_mem (if b < a then b else a) r
    constructor
    · rcases List.mem_cons.mp h.1 with e | e
      · rw [e]
        split <;> simp
      · exact List.mem_cons_of_mem _ (List.mem_cons_of_mem _ e)
    · intro y hy
      have h0 := h.2 _ List.mem_cons_self
      have ha : (if b < a then b else a) ≤ a := by split <;> omega
      have hb : (if b < a then b else a) ≤ b := by split <;> omega
      rcases List.mem_cons.mp hy with e | hy
      · rw [e]; exact Int.le_trans h0 ha
      · rcases List.mem_cons.mp hy with e | hy
        · rw [e]; exact Int.le_trans h0 hb
        · exact h.2 y (List.mem_cons_of_mem _ hy)
def rLenI (X : Cx) : List V → Hp → VK → Prop := fun xs H Q => ∃ p ys, xs = [.ref p] ∧ (SqL X.K H p ys ∨ SqT X.K H p ys) ∧ Q (.int ys.length) H
theorem ci_len : CallI X (rLenI X) (bfun .len) := by
  intro H α M ds vs d M' Q m t r h q
  unfold bfun at h
  split at h <;> try contradiction
  obtain ⟨l, e1, h⟩ := Option.bind_eq_some_iff.mp h
  obtain ⟨rfl, rfl⟩ := one_some h
  obtain ⟨v, rfl, rv⟩ := rds1 r
  obtain ⟨p, vs, rfl, s, rp⟩ := items_rd m rv e1
  refine ⟨p, vs, rfl, s, stay m t (d := .p _) ?_ q⟩
  show V.int _ = V.int _
  rw [rp.length]
theorem ci_abs : CallI X (fun xs H Q => ∃ i, xs = [.int i] ∧ Q (.int (if i < 0 then -i else i)) H) (bfun .abs) := by
  intro H α M ds vs d M' Q m t r h q
  unfold bfun at h
  split at h <;> try contradiction
  obtain ⟨rfl, rfl⟩ := one_some h
  obtain ⟨v, rfl, rv⟩ := rds1 r
  exact ⟨_, by rw [rd_int rv], stay m t (d := .p _) (by exact rfl) q⟩
theorem ci_int : CallI X (fun xs H Q => (∃ i, xs = [.int i] ∧ Q (.int i) H) ∨ ∃ k, xs = [.bl k] ∧ Q (.int (if k then 1 else 0)) H) (bfun .int) := by
  intro H α M ds vs d M' Q m t r h q
  unfold bfun at h
  split at h <;> try contradiction
  · obtain ⟨rfl, rfl⟩ := one_some h
    obtain ⟨v, rfl, rv⟩ := rds1 r
    exact .inl ⟨_, by rw [rd_int rv], stay m t (d := .p _) (by exact rfl) q⟩
  · obtain ⟨rfl, rfl⟩ := one_some h
    obtain ⟨v, rfl, rv⟩ := rds1 r
    exact .inr ⟨_, by rw [show v = V.bl _ from rv], stay m t (d := .p _) (by exact rfl) q⟩
theorem ci_bool : CallI X (fun xs H Q => (∃ i, xs = [.int i] ∧ Q (.bl (i != 0)) H) ∨ ∃ k, xs = [.bl k] ∧ Q (.bl k) H) (bfun .bool) := by
  intro H α M ds vs d M' Q m t r h q
  unfold bfun at h
  split at h <;> try contradiction
  · obtain ⟨rfl, rfl⟩ := one_some h
    obtain ⟨v, rfl, rv⟩ := rds1 r
    exact .inr ⟨_, by rw [show v = V.bl _ from rv], stay m t (d := .p _) (by exact rfl) q⟩
  · obtain ⟨rfl, rfl⟩ := one_some h
    obtain ⟨v, rfl, rv⟩ := rds1 r
    exact .inl ⟨_, by rw [rd_int rv], stay m t (d := .p _) (by exact rfl) q⟩
theorem ci_sum : CallI X (fun xs H Q => rSum X.K xs H Q ∨ E1.rSumT X.K xs H Q) (bfun .sum) := by
  intro H α M ds vs d M' Q m t r h q
  unfold bfun at h
  split at h <;> try contradiction
  obtain ⟨l, e1, h⟩ := ob h
  obtain ⟨is, e2, h⟩ := ob h
  obtain ⟨rfl, rfl⟩ := one_some h
  obtain ⟨v, rfl, rv⟩ := rds1 r
  obtain ⟨p, vs, rfl, s, rp⟩ := items_rd m rv e1
  rw [ints_ok rp e2] at s
  exact s.elim (fun s => .inl ⟨p, is, rfl, s, stay m t (d := .p _) (by exact rfl) q⟩) fun s => .inr ⟨p, is, rfl, s, stay m t (d := .p _) (by exact rfl) q⟩
theorem ci_max : CallI X (fun xs H Q => (∃ i j, xs = [.int i, .int j] ∧ Q (.int (if j > i then j else i)) H) ∨ rMax X.K xs H Q ∨ E1.rMaxT X.K xs H Q) (bfun .max) := by
  intro H α M ds vs d M' Q m t r h q
  unfold bfun at h
  split at h <;> try contradiction
  · obtain ⟨rfl, rfl⟩ := one_some h
    obtain ⟨v, w, rfl, r1, r2⟩ := rds2 r
    exact .inl ⟨_, _, by rw [rd_int r1, rd_int r2], stay m t (d := .p _) (by exact rfl) q⟩
  · obtain ⟨l, e1, h⟩ := ob h
    obtain ⟨is, e2, h⟩ := ob h
    split at h <;> try contradiction
    rename_i a r'
    obtain ⟨rfl, rfl⟩ := one_some h
    obtain ⟨v, rfl, rv⟩ := rds1 r
    obtain ⟨p, vs, rfl, s, rp⟩ := items_rd m rv e1
    rw [ints_ok rp e2] at s
    refine s.elim (fun s => .inr (.inl ⟨p, _, rfl, s, by simp, fun z hz1 hz2 => ?_⟩)) fun s => .inr (.inr ⟨p, _, rfl, s, by simp, fun z hz1 hz2 => ?_⟩)
    all_goals
      have hm := maxI_mem a r'
      have : z = maxI a r' := Int.le_antisymm (hm.2 z hz1) (hz2 _ hm.1)
      subst this
      exact stay m t (d := .p _) (by exact rfl) q
theorem ci_min : CallI X (fun xs H Q => (∃ i j, xs = [.int i, .int j] ∧ Q (.int (if j < i then j else i)) H) ∨ rMin X.K xs H Q ∨ E1.rMinT X.K xs H Q) (bfun .min) := by
  intro H α M ds vs d M' Q m t r h q
  unfold bfun at h
  split at h <;> try contradiction
  · obtain ⟨rfl, rfl⟩ := one_some h
    obtain ⟨v, w, rfl, r1, r2⟩ := rds2 r
    exact .inl ⟨_, _, by rw [rd_int r1, rd_int r2], stay m t (d := .p _) (by exact rfl) q⟩
  · obtain ⟨l, e1, h⟩ := ob h
    obtain ⟨is, e2, h⟩ := ob h
    split at h <;> try contradiction
    rename_i a r'
    obtain ⟨rfl, rfl⟩ := one_some h
    obtain ⟨v, rfl, rv⟩ := rds1 r
    obtain ⟨p, vs, rfl, s, rp⟩ := items_rd m rv e1
    rw [ints_ok rp e2] at s
    refine s.elim (fun s => .inr (.inl ⟨p, _, rfl, s, by simp, fun z hz1 hz2 => ?_⟩)) fun s => .inr (.inr ⟨p, _, rfl, s, by simp, fun z hz1 hz2 => ?_⟩)
    all_goals
      have hm := minI_mem a r'
      have : z = minI a r' := Int.le_antisymm (hz2 _ hm.1) (hm.2 z hz1)
      subst this
      exact stay m t (d := .p _) (by exact rfl) q
theorem ci_tuple : CallI X (fun xs H Q => ∃ p ys, xs = [.ref p] ∧ ((SqL X.K H p ys ∧ ∀ l, H l = none → Q (.ref l) (upd H l (.tup ys))) ∨ (SqT X.K H p ys ∧ Q (.ref p) H))) (bfun .tuple) := by
  intro H α M ds vs d M' Q m t r h q
  unfold bfun at h
  split at h <;> try contradiction
  obtain ⟨l, e1, h⟩ := Option.bind_eq_some_iff.mp h
  obtain ⟨rfl, rfl⟩ := one_some h
  obtain ⟨v, rfl, rv⟩ := rds1 r
  obtain ⟨p, vs, rfl, s, rp⟩ := items_rd m rv e1
  rcases s with s | s
  · exact ⟨p, vs, rfl, .inl ⟨s, new_tup m t rp q⟩⟩
  · refine ⟨p, vs, rfl, .inr ⟨s, stay m t (d := .p _) ?_ q⟩⟩
    show RP _ _ _ (.tup _) _
    unfold RP
    exact ⟨p, vs, rfl, s, rp⟩
theorem ci_list : CallI X (fun xs H Q => ∃ p ys, xs = [.ref p] ∧ (SqL X.K H p ys ∨ SqT X.K H p ys) ∧ ∀ l, H l = none → Q (.ref l) (upd H l (.lst ys))) (bfun .list) := by
  intro H α M ds vs d M' Q m t r h q
  unfold bfun at h
  split at h <;> try contradiction
  obtain ⟨l, e1, h⟩ := Option.bind_eq_some_iff.mp h
  obtain ⟨hl, rfl, rfl⟩ := newl_some h
  obtain ⟨v, rfl, rv⟩ := rds1 r
  obtain ⟨p, vs, rfl, s, rp⟩ := items_rd m rv e1
  exact ⟨p, vs, rfl, s, new_lst m t rp q⟩
/-- isinstance(x, T) -/
def tyP : P → String
  | .non => "NoneType" | .bl _ => "bool" | .int _ => "int" | .str _ => "str" | .tup _ => "tuple" | .ref _ => "list"
theorem isi_ok {K : PySem.W.Frag} {H : Hp} {α : List Addr} {M : Mem} {x : P} {v : V} (m : RM K H α M) (r : RP K H α x v) : TyX K H v (.type (tyP x)) := by
  cases x <;> unfold RP at r
  case tup l =>
    obtain ⟨a, vs, rfl, s, _⟩ := r
    rcases s with (s | ⟨o, s⟩) | ⟨o, its, n, h1, h2, _⟩
    · exact .base (.tup s)
    · exact .fTuple s
    · exact .kTuple h1 h2
  case ref i =>
    obtain ⟨a, e, rfl⟩ := r
    obtain ⟨vs, hv⟩ := m.lst (List.mem_of_getElem? e)
    exact .base (.lst hv)
  case non => subst r; exact .base .non
  case bl b => subst r; exact .base (.bl _)
  case int b => subst r; exact .base (.int _)
  case str b => subst r; exact .base (.str _)
def isT : BI → Option String
  | .isint => some "int"
  | .isbool => some "bool"
  | .istup => some "tuple"
  | .isstr => some "str"
  | _ => none
theorem kit_is (K : PySem.W.Frag) {bi : BI} {T : String} (hT : isT bi = some T) {x : D} {M M' : Mem} {d : D} (e : bfun bi [x] M = some (d, M')) :
    ∃ y b, x = .p y ∧ d = .p (.bl b) ∧ M' = M ∧ PySem.W.kitOne K (.type (tyP y)) (.type T) = some b := by
  cases bi <;> cases hT <;> cases x <;> first | (cases e; done) | skip
  all_goals
    rename_i y
    cases y <;> (cases e; exact ⟨_, _, rfl, rfl, rfl, rfl⟩)
theorem s_isi {bi : BI} {T : String} {p p2 : Pos} {nt : Str} (hT : isT bi = some T) (ha : PE X a (tI X fa)) (hn : PE X (.Name nt p2) (tC (.ty T))) (hg : Gl X "isinstance") (hm : X.mg "isinstance" = none)
    (he : starEach [a, .Name nt p2] X.env = [(false, eval a X.env), (false, eval (.Name nt p2) X.env)]) (he2 : starEach [.Name nt p2] X.env = [(false, eval (.Name nt p2) X.env)]) (he3 : starEach [] X.env = []) :
    PE X (.Call (.Name "isinstance" p) [a, .Name nt p2] [] pos) (tI X fun ρ M => do
      let (ds, M) ← (do
        let (x, M) ← fa ρ M
        let (xs, M) ← some ([], M)
        some (x :: xs, M))
      bfun bi ds M) := by
  refine (pe_callB call_isi hg hm boot_isinstance (pa_cons ha (pa_cons hn pa_nil (by rw [he2, he3])) (by rw [he, he2])) (by decide) (by decide) (by rw [he, he2]) (by rw [he2]; rfl)).weak fun σ H Q h => ?_
  obtain ⟨ρ, M, α, d, M', r0, e, q⟩ := h
  obtain ⟨⟨ds, M1⟩, e1, e⟩ := ob e
  obtain ⟨⟨x, M2⟩, e2, e1⟩ := ob e1
  cases e1
  refine tI.use r0 e2 fun v H1 α1 n1 d1 r1 => ?_
  obtain ⟨y, b, rfl, rfl, rfl, hk⟩ := kit_is X.K hT e
  exact ⟨v, _, _, _, b, rfl, .ty _, isi_ok r1.mem d1, hk, q _ H1 α1 n1 rfl⟩
end
end IX
end

section
set_option Elab.async false
set_option autoImplicit false
set_option linter.all false
set_option maxRecDepth 100000
set_option maxHeartbeats 4000000
namespace IX
open PySem PySem.Spec PyProof.Rows L2 GX
/-! ### a list's methods -/
def mtNm : MT → Str
  | .append => "append" | .pop => "pop" | .popi => "pop" | .reverse => "reverse" | .extend => "extend" | .insert => "insert" | .remove => "remove" | .index => "index" | .count => "count"
theorem pix_seq {n k : Nat} {i : Int} (h : pix n i = some k) : seqIndex? i n = some k := by
  unfold pix at h
  unfold seqIndex?
  split at h
  · split at h <;> try contradiction
    cases h
    rename_i h0 h1
    have : ¬ i < 0 := by omega
    simp [this, h0, h1]
  · split at h <;> try contradiction
    cases h
    rename_i h0 h1
    have h2 : i < 0 := by omega
    have h3 : 0 ≤ i + n := by omega
    have h4 : i + n < n := by omega
    simp [h2, h3, h4]
theorem RPs.rev {K : PySem.W.Frag} {H : Hp} {α : List Addr} : ∀ {xs : List P} {vs : List V}, RPs K H α xs vs → RPs K H α xs.reverse vs.reverse
  | [], [], _ => by unfold RPs; trivial
  | x :: xs, v :: vs, h => by
    unfold RPs at h
    rw [List.reverse_cons, List.reverse_cons]
    refine (RPs.rev h.2).append ?_
    show RPs _ _ _ [_] [_]
    unfold RPs
    exact ⟨h.1, by unfold RPs; trivial⟩
  | [], _ :: _, h => by unfold RPs at h; exact h.elim
  | _ :: _, [], h => by unfold RPs at h; exact h.elim
theorem RPs.erase {K : PySem.W.Frag} {H : Hp} {α : List Addr} : ∀ {xs : List P} {vs : List V} (i : Nat), RPs K H α xs vs → RPs K H α (xs.eraseIdx i) (vs.eraseIdx i)
  | [], [], _, _ => by simp [RPs]
  | x :: xs, v :: vs, 0, h => by
    unfold RPs at h
    exact h.2
  | x :: xs, v :: vs, i + 1, h => by
    unfold RPs at h
    rw [List.eraseIdx_cons_succ, List.eraseIdx_cons_succ]
    unfold RPs
    exact ⟨h.1, RPs.erase i h.2⟩
  | [], _ :: _, _, h => by unfold RPs at h; exact h.elim
  | _ :: _, [], _, h => by unfold RPs at h; exact h.elim
theorem RPs.taked {K : PySem.W.Frag} {H : Hp} {α : List Addr} : ∀ {xs : List P} {vs : List V} (i : Nat), RPs K H α xs vs → RPs K H α (xs.take i) (vs.take i) ∧ RPs K H α (xs.drop i) (vs.drop i)
  | [], [], i, _ => by simp [RPs]
  | x :: xs, v :: vs, 0, h => ⟨by simp [RPs], h⟩
  | x :: xs, v :: vs, i + 1, h => by
    unfold RPs at h
    have := RPs.taked i h.2
    refine ⟨?_, this.2⟩
    rw [List.take_succ_cons, List.take_succ_cons]
    unfold RPs
    exact ⟨h.1, this.1⟩
  | [], _ :: _, _, h => by unfold RPs at h; exact h.elim
  | _ :: _, [], _, h => by unfold RPs at h; exact h.elim
theorem RPs.last {K : PySem.W.Frag} {H : Hp} {α : List Addr} : ∀ {xs : List P} {vs : List V}, RPs K H α xs vs → RPs K H α xs.dropLast vs.dropLast
  | [], [], h => h
  | [x], [v], _ => by simp [RPs]
  | x :: y :: xs, v :: w :: vs, h => by
    unfold RPs at h
    rw [List.dropLast_cons_cons, List.dropLast_cons_cons]
    unfold RPs
    exact ⟨h.1, RPs.last h.2⟩
  | [x], _ :: _ :: _, h => by unfold RPs at h; have := h.2; unfold RPs at this; exact this.elim
  | _ :: _ :: _, [v], h => by unfold RPs at h; have := h.2; unfold RPs at this; exact this.elim
  | [], _ :: _, h => by unfold RPs at h; exact h.elim
  | _ :: _, [], h => by unfold RPs at h; exact h.elim
theorem toDs_idx (y : P) : ∀ xs : List P, ((P.toDs xs).findIdx? fun z => PyData.eqv z y.toD) = xs.findIdx? fun z => z.eqv y
  | [] => by simp [P.toDs]
  | x :: xs => by simp only [P.toDs, List.findIdx?_cons, toDs_idx y xs]; rfl
/-- what the method does to what stands at p -/
def MtOk (X : Cx) (m : MT) (rr : V → List V → Hp → VK → Prop) : Prop := ∀ {H : Hp} {α : List Addr} {M : Mem} {i : Nat} {p : Addr} {xs ys : List P} {ds : List D} {ws us : List V} {r : P} {Q : VK}, RM X.K H α M → TabAll H → α[i]? = some p → M[i]? = some xs → H p = some (.lst ws) → RPs X.K H α xs ws → RDs X.K H α ds us → mtf m M xs ds = some (r, ys) →
  (∀ v H', Nx X.K α H α H' (M.set i ys) → RD X.K H' α (.p r) v → Q v H') → rr (.ref p) us H Q

theorem mk_append {X : Cx} : MtOk X .append rAppend := fun {H α M i p xs ys ds ws us r Q} m t hp hM hH rp rd e q => by
  unfold mtf at e
  split at e <;> try contradiction
  split at e <;> try contradiction
  rename_i hl
  cases e
  obtain ⟨w, rfl, rw_⟩ := rds1 rd
  refine ⟨_, ws, w, rfl, rfl, hH, by rw [← rp.length]; exact hl, ?_⟩
  refine q _ _ (Nx.write m t hp hM (rp.append ?_)) rfl
  show RPs _ _ _ [_] [_]
  unfold RPs
  exact ⟨rw_, by unfold RPs; trivial⟩
theorem mk_pop {X : Cx} : MtOk X .pop rPop := fun {H α M i p xs ys ds ws us r Q} m t hp hM hH rp rd e q => by
  unfold mtf at e
  split at e <;> try contradiction
  obtain ⟨y, e1, e2⟩ := Option.map_eq_some_iff.mp e
  cases e2
  obtain rfl : us = [] := by cases us with | nil => rfl | cons _ _ => exact rd.elim
  obtain ⟨v, h1, h2⟩ := rp.get e1
  refine ⟨_, ws, v, rfl, rfl, hH, by rw [← rp.length]; exact h1, ?_⟩
  have n := Nx.write m t hp hM rp.last
  exact q _ _ n (n.rd m (d := .p _) h2)
theorem mk_popi {X : Cx} : MtOk X .popi rPopAt := fun {H α M i p xs ys ds ws us r Q} m t hp hM hH rp rd e q => by
  unfold mtf at e
  split at e <;> try contradiction
  split at e <;> try contradiction
  rename_i hb
  rw [Bool.and_eq_true, decide_eq_true_eq, decide_eq_true_eq] at hb
  obtain ⟨k, e0, e⟩ := Option.bind_eq_some_iff.mp e
  obtain ⟨y, e1, e2⟩ := Option.map_eq_some_iff.mp e
  cases e2
  obtain ⟨w, rfl, rw_⟩ := rds1 rd
  obtain rfl := rd_int rw_
  obtain ⟨v, h1, h2⟩ := rp.get e1
  refine ⟨_, ws, _, k, v, rfl, rfl, hH, hb.1, hb.2, by rw [← rp.length]; exact pix_seq e0, h1, ?_⟩
  have n := Nx.write m t hp hM (rp.erase k)
  exact q _ _ n (n.rd m (d := .p _) h2)
theorem mk_reverse {X : Cx} : MtOk X .reverse rReverse := fun {H α M i p xs ys ds ws us r Q} m t hp hM hH rp rd e q => by
  unfold mtf at e
  split at e <;> try contradiction
  cases e
  obtain rfl : us = [] := by cases us with | nil => rfl | cons _ _ => exact rd.elim
  exact ⟨_, ws, rfl, rfl, hH, q _ _ (Nx.write m t hp hM rp.rev) rfl⟩
theorem mk_extend {X : Cx} : MtOk X .extend rExtend := fun {H α M i p xs ys ds ws us r Q} m t hp hM hH rp rd e q => by
  unfold mtf at e
  split at e <;> try contradiction
  obtain ⟨zs, e1, e⟩ := Option.bind_eq_some_iff.mp e
  split at e <;> try contradiction
  rename_i hl
  cases e
  obtain ⟨w, rfl, rw_⟩ := rds1 rd
  obtain ⟨b, vs, rfl, hb, hHb, rp2⟩ := rd_list m rw_ e1
  exact ⟨_, _, ws, vs, rfl, rfl, hH, hHb, by rw [← rp.length, ← rp2.length]; exact hl, q _ _ (Nx.write m t hp hM (rp.append rp2)) rfl⟩
theorem mk_insert {X : Cx} : MtOk X .insert (fun x vs H Q => ∃ (l : Addr) (xs : List V) (i : Int) (y : V), x = .ref l ∧ vs = [.int i, y] ∧ H l = some (.lst xs) ∧ xs.length < sizeLine ∧ 0 ≤ i ∧ i < 2 ^ 63 ∧
    Q .non (upd H l (.lst (xs.take i.toNat ++ [y] ++ xs.drop i.toNat)))) := fun {H α M i p xs ys ds ws us r Q} m t hp hM hH rp rd e q => by
  unfold mtf at e
  split at e <;> try contradiction
  split at e <;> try contradiction
  rename_i hb
  simp only [Bool.and_eq_true, decide_eq_true_eq] at hb
  cases e
  obtain ⟨w, w2, rfl, rw_, rw2⟩ := rds2 rd
  obtain rfl := rd_int rw_
  refine ⟨_, ws, _, w2, rfl, rfl, hH, by rw [← rp.length]; exact hb.1.1, hb.1.2, hb.2, ?_⟩
  refine q _ _ (Nx.write m t hp hM (((rp.taked _).1.append ?_).append (rp.taked _).2)) rfl
  show RPs _ _ _ [_] [_]
  unfold RPs
  exact ⟨rw2, by unfold RPs; trivial⟩
theorem mk_remove {X : Cx} : MtOk X .remove (rRemD X.K) := fun {H α M i p xs ys ds ws us r Q} m t hp hM hH rp rd e q => by
  unfold mtf at e
  split at e <;> try contradiction
  split at e <;> try contradiction
  rename_i hb
  rw [Bool.and_eq_true] at hb
  obtain ⟨j, e1, e2⟩ := Option.map_eq_some_iff.mp e
  cases e2
  obtain ⟨w, rfl, rw_⟩ := rds1 rd
  have f1 := fit_ok _ _ hb.1
  have f2 := fits_ok _ _ hb.2
  refine ⟨_, w, _, ws, _, j, rfl, rfl, hH, rps_dp _ _ _ hb.2 rp, rp_dp _ _ _ hb.1 rw_, ?_, ?_, by rw [toDs_idx]; exact e1, q _ _ (Nx.write m t hp hM (rp.erase j)) rfl⟩
  · have := f2.2
    simp [SeqAt.shaped, PyData.canLay0, PyData.depth, f2.1]; exact this
  · have := f1.2
    simp [SeqAt.shaped, f1.1]; omega
section
variable {X : Cx} {pos : Pos} {e : Expr} {es : List Expr} {fa : Env → Mem → Option (D × Mem)} {fs : Env → Mem → Option (List D × Mem)}
def mtF (m : MT) (fa : Env → Mem → Option (D × Mem)) (fs : Env → Mem → Option (List D × Mem)) : Env → Mem → Option (D × Mem) := fun ρ M => do
      let (x, M) ← fa ρ M
      let (ds, M) ← fs ρ M
      match x with
      | .p (.ref i) => do
        let xs ← M[i]?
        let (r, ys) ← mtf m M xs ds
        some (.p r, M.set i ys)
      | _ => none
theorem mt_weak {m : MT} {rr : V → List V → Hp → VK → Prop} (k : MtOk X m rr) {σ : L2.St} {H : Hp} {Q : VK} (h : tI X (mtF m fa fs) σ H Q) :
    tI X fa σ H fun v H1 => (∃ p xs, v = .ref p ∧ SqL X.K H1 p xs) ∧ tIA X fs σ H1 fun us H2 => rr v us H2 Q := by
  obtain ⟨ρ, M, α, d, M', r0, e, q⟩ := h
  obtain ⟨⟨x, M1⟩, e1, e⟩ := ob e
  obtain ⟨⟨ds, M2⟩, e2, e⟩ := ob e
  dsimp only at e
  split at e <;> try contradiction
  rename_i i
  obtain ⟨xs, e3, e⟩ := ob e
  obtain ⟨⟨r, ys⟩, e4, e⟩ := ob e
  cases e
  refine tI.use r0 e1 fun v H1 α1 n1 d1 r1 => ?_
  have d1' := d1
  obtain ⟨p, hp, rfl⟩ := rd_ref d1'
  refine ⟨?_, ?_⟩
  · obtain ⟨vs, hv⟩ := r1.mem.lst (List.mem_of_getElem? hp)
    exact ⟨p, vs, rfl, .inl (.inl hv)⟩
  refine tIA.use r1 e2 fun us H2 α2 n2 d2 r2 => ?_
  obtain ⟨p', ws, e5, hp', s, rp⟩ := rd_list r2.mem (n2.rd r1.mem d1) e3
  cases e5
  exact k r2.mem r2.tab hp' e3 s rp d2 e4 fun v H' n d => q _ _ α2 ((n1.trans r0.mem n2).trans r0.mem n) d
theorem s_mtw {m : MT} {rr : V → List V → Hp → VK → Prop} (k : MtOk X m rr) {id : String} {apos : Pos} {o : Expr} (slot : PySem.Slot "list" (mtNm m) id) (hty : typeOf (.builtin id) = pure (.type "method_descriptor")) (hm : MtR X id rr) (ho : PE X o (tI X fa)) (ha : PA X (e :: es) (tIA X fs)) (hbase : attributeBase o (mtNm m) X.env (eval o X.env) = eval o X.env)
    (hfew : ((backTo pos (starEach (e :: es) X.env)).all (fun x => !x.1) && (backToKw pos (keywordEach [] X.env)).all (fun x => x.1.isSome)
      && decide ((e :: es).length + ([] : List Keyword).length + (if ([] : List Keyword).isEmpty then 0 else 1) < 30)) = true)
    (hline : (apos.endLine == pos.line) = true) (hs : starEach (e :: es) X.env = (false, eval e X.env) :: starEach es X.env) (hplain : (backTo pos (starEach es X.env)).any (·.1) = false) :
    PE X (.Call (.Attribute o (mtNm m) apos) (e :: es) [] pos) (tI X (mtF m fa fs)) := by
  refine (pe_bm PySem.F.plainAttrs_list slot hty hm ho ha hbase hfew hline hs hplain).weak fun σ H Q h => ?_
  obtain ⟨ρ, M, α, d, M', r0, e, q⟩ := mt_weak k h
  refine ⟨ρ, M, α, d, M', r0, e, fun v H' α' n d' => ?_⟩
  obtain ⟨⟨p, xs, rfl, s⟩, z⟩ := q v H' α' n d'
  exact ⟨.inl ⟨rfl, xs, s⟩, z⟩
theorem s_mtw0 {m : MT} {rr : V → List V → Hp → VK → Prop} (k : MtOk X m rr) {id : String} {apos : Pos} {o : Expr} (slot : PySem.Slot "list" (mtNm m) id) (hty : typeOf (.builtin id) = pure (.type "method_descriptor")) (hm : MtR X id rr) (ho : PE X o (tI X fa)) (hbase : attributeBase o (mtNm m) X.env (eval o X.env) = eval o X.env)
    (hline : (apos.endLine == pos.line) = true) :
    PE X (.Call (.Attribute o (mtNm m) apos) [] [] pos) (tI X (mtF m fa fun _ M => some ([], M))) := by
  refine (pe_bm0 PySem.F.plainAttrs_list slot hty hm ho hbase hline).weak fun σ H Q h => ?_
  obtain ⟨ρ, M, α, d, M', r0, e, q⟩ := mt_weak k h
  refine ⟨ρ, M, α, d, M', r0, e, fun v H' α' n d' => ?_⟩
  obtain ⟨⟨p, xs, rfl, s⟩, ρ2, M2, α2, ds, M3, r2, e2, q2⟩ := q v H' α' n d'
  cases e2
  exact ⟨.inl ⟨rfl, xs, s⟩, q2 [] H' α2 (Nx.refl r2.mem r2.tab) trivial⟩
def okM : MT → Nat → Bool
  | .append, 1 | .popi, 1 | .extend, 1 | .remove, 1 | .insert, 2 | .pop, 0 | .reverse, 0 => true
  | _, _ => false
theorem s_mt {m : MT} {apos : Pos} {o : Expr} (hu : X.A.units + 65 < cLine) (hk : okM m (e :: es).length = true) (ho : PE X o (tI X fa)) (ha : PA X (e :: es) (tIA X fs)) (hbase : attributeBase o (mtNm m) X.env (eval o X.env) = eval o X.env)
    (hfew : ((backTo pos (starEach (e :: es) X.env)).all (fun x => !x.1) && (backToKw pos (keywordEach [] X.env)).all (fun x => x.1.isSome)
      && decide ((e :: es).length + ([] : List Keyword).length + (if ([] : List Keyword).isEmpty then 0 else 1) < 30)) = true)
    (hline : (apos.endLine == pos.line) = true) (hs : starEach (e :: es) X.env = (false, eval e X.env) :: starEach es X.env) (hplain : (backTo pos (starEach es X.env)).any (·.1) = false) :
    PE X (.Call (.Attribute o (mtNm m) apos) (e :: es) [] pos) (tI X (mtF m fa fs)) := by
  cases m
  · exact s_mtw mk_append PySem.F.slot_list_append PySem.F.type_list_append mt_append ho ha hbase hfew hline hs hplain
  · cases hk
  · exact s_mtw mk_popi PySem.F.slot_list_pop PySem.F.type_list_pop mt_popAt ho ha hbase hfew hline hs hplain
  · exact s_mtw mk_insert PySem.F.slot_list_insert PySem.F.type_list_insert mt_insert ho ha hbase hfew hline hs hplain
  · cases hk
  · cases hk
  · exact s_mtw mk_extend PySem.F.slot_list_extend PySem.F.type_list_extend mt_extend ho ha hbase hfew hline hs hplain
  · cases hk
  · exact s_mtw mk_remove PySem.F.slot_list_remove PySem.F.type_list_remove (mt_removeD hu) ho ha hbase hfew hline hs hplain
theorem s_mt0 {m : MT} {apos : Pos} {o : Expr} (hk : okM m 0 = true) (ho : PE X o (tI X fa)) (hbase : attributeBase o (mtNm m) X.env (eval o X.env) = eval o X.env)
    (hline : (apos.endLine == pos.line) = true) :
    PE X (.Call (.Attribute o (mtNm m) apos) [] [] pos) (tI X (mtF m fa fun _ M => some ([], M))) := by
  cases m <;> try (cases hk; done)
  · exact s_mtw0 mk_pop PySem.F.slot_list_pop PySem.F.type_list_pop mt_pop ho hbase hline
  · exact s_mtw0 mk_reverse PySem.F.slot_list_reverse PySem.F.type_list_reverse mt_reverse ho hbase hline
end
end IX
end

section
set_option Elab.async false
set_option autoImplicit false
set_option linter.all false
set_option maxRecDepth 100000
set_option maxHeartbeats 4000000
/-! t[::-1] of a tuple. -/
namespace IX
open PySem PySem.Spec PyProof.Rows L2 GX
open HT
section
variable {prog : Program} {w : World} {A : Around} {E : Value → Shared → Prop} {s : Shared}
theorem adjust_rev (n : Nat) : Builtin.Slice.sliceAdjust none none (-1) (n : Int) = ((n : Int) - 1, -1) := by rfl
theorem places_rev (n : Nat) : Builtin.Slice.slicePlaces ((n : Int) - 1) (-1) (-1) = n := by
  unfold Builtin.Slice.slicePlaces
  have h1 : ¬ ((-1 : Int) > 0) := by omega
  simp only [h1, if_false, Int.neg_neg, Int.ediv_one]
  split <;> omega
theorem sliceApplied_rev {sl : Addr} {vs : Value} {n : Nat} {Q : Int × Int × Nat → Shared → Prop} (hs : s.heap.IsSliceOf sl .none .none vs) (ps : IsPart vs (some (-1)))
    (h : Q ((n : Int) - 1, -1, n) s) : wpAny (model prog w) A (Builtin.Slice.sliceApplied (.ref sl) (pure (n : Int))) Q E s := by
  obtain ⟨os, hos, hcs, hds⟩ := id hs
  unfold Builtin.Slice.sliceApplied Builtin.Slice.sliceFields
  refine wpAny_bind (wpAny_bind (wpAny_field hos hds (x := .none) rfl (wpAny_bind (wpAny_field hos hds (x := .none) rfl (wpAny_bind (wpAny_field hos hds (x := vs) rfl (wpAny_pure ?_)))))))
  refine wpAny_bind (slicePart_ ps ?_)
  show wpAny _ _ (if ((-1 : Int) == 0) = true then _ else _) _ _ s
  rw [if_neg (by decide)]
  refine wpAny_bind (slicePart_none (wpAny_bind (slicePart_none (wpAny_bind (wpAny_pure ?_)))))
  show wpAny _ _ (match Builtin.Slice.sliceAdjust none none (-1) (n : Int) with | (lo, hi) => pure (lo, (-1 : Int), Builtin.Slice.slicePlaces lo hi (-1))) _ _ s
  rw [adjust_rev n]
  show wpAny _ _ (pure ((n : Int) - 1, (-1 : Int), Builtin.Slice.slicePlaces ((n : Int) - 1) (-1) (-1))) _ _ s
  rw [places_rev]
  exact wpAny_pure h
theorem fm_congr {A B : Type} {f g : A → Option B} : ∀ l : List A, (∀ x ∈ l, f x = g x) → l.filterMap f = l.filterMap g
  | [], _ => rfl
  | x :: l, h => by
    rw [List.filterMap_cons, List.filterMap_cons, h x List.mem_cons_self, fm_congr l fun y hy => h y (List.mem_cons_of_mem _ hy)]
theorem pick_rev (xs : Array Value) : ((List.range xs.size).filterMap fun (m : Nat) => xs[((xs.size : Int) - 1 + (m : Int) * -1).toNat]?).toArray = xs.toList.reverse.toArray := by
  have e : ((List.range xs.size).filterMap fun (m : Nat) => xs[((xs.size : Int) - 1 + (m : Int) * -1).toNat]?) = ((List.range xs.size).map fun k => xs.size - 1 - k).filterMap (xs[·]?) := by
    rw [List.filterMap_map]
    apply fm_congr
    intro m hm
    have := List.mem_range.mp hm
    show xs[((xs.size : Int) - 1 + (m : Int) * -1).toNat]? = xs[xs.size - 1 - m]?
    congr 1
    omega
  rw [e, PySem.W.krv_range, List.filterMap_reverse, PySem.W.krv_all]
theorem getItem_tuple_rev {t sl : Addr} {items : Array Value} {vs : Value} {Q : Value → Shared → Prop} (ht : IsTup s.heap t items) (hs : s.heap.IsSliceOf sl .none .none vs) (ps : IsPart vs (some (-1)))
    (h : Q (.ref s.heap.objs.size) { s with heap := s.heap.push { cls := .type "tuple", data := .seq items.toList.reverse.toArray } })
    (hsz : items.size ≤ sizeLine) : wpAny (model prog w) A (getItem (.ref t) (.ref sl)) Q E s := by
  have htake : sizeOk (.seq items.toList.reverse.toArray) := by
    show items.toList.reverse.toArray.size ≤ sizeLine
    rw [List.size_toArray, List.length_reverse, Array.length_toList]
    omega
  obtain ⟨os, hos, hcs, hds⟩ := id hs
  have hTs : s.TypeIs (.ref sl) "slice" := ⟨os, hos, hcs⟩
  unfold getItem
  try with_reducible refine wpAny_holding ?_
  first | refine wpAny_bind (wpAny_pure ?_) | skip
  refine wpAny_bind (wpAny_sequenceKey ht.typeIs (by decide) ?_)
  refine wpAny_bind (wpAny_callSpecial?_slot (name := Str.ofString "__getitem__") ht.typeIs PyProof.Rows.slot_tuple_getitem
    (wpAny_call_entry PyProof.Rows.slot_tuple_getitem ht.typeIs entry_tuple_getitem ?_ (args_tuple_getitem _ _)))
  show wpAny _ _ (Builtin.Tuple.tupleItemsOf (.ref t) >>= _) _ _ s
  refine wpAny_bind (tupleItemsOf_ ht ?_)
  refine wpAny_bind (wpAny_typeOf hTs ?_)
  rw [if_pos (by decide)]
  refine wpAny_bind (sliceApplied_rev hs ps ?_)
  have hno : ¬ ((((items.size : Int) - 1) == 0 && (-1 : Int) == 1 && items.size == items.size) = true) := by
    intro q
    rw [Bool.and_eq_true, Bool.and_eq_true] at q
    exact absurd q.1.2 (by decide)
  show wpAny _ _ (if (((items.size : Int) - 1) == 0 && (-1 : Int) == 1 && items.size == items.size) = true then _ else _) _ _ s
  rw [if_neg hno, pick_rev]
  first
    | exact wpAny_bind (m := Builtin.Tuple.tupleExact _) (wpAny_newObj_type (wpAny_pure ⟨_, rfl, wpAny_pure h⟩) htake)
    | exact wpAny_bind (m := Builtin.Tuple.tupleExact _) (wpAny_newObj_type (wpAny_bind (wpAny_pure (wpAny_pure ⟨_, rfl, wpAny_pure h⟩))) htake)
    | exact wpAny_bind (wpAny_bind (m := Builtin.Tuple.tupleExact _) (wpAny_newObj_type (wpAny_pure (wpAny_pure ⟨_, rfl, wpAny_pure h⟩)) htake))
    | exact wpAny_bind (wpAny_bind (m := Builtin.Tuple.tupleExact _) (wpAny_newObj_type (wpAny_pure ⟨_, rfl, wpAny_pure h⟩) htake))
end
section
variable {X : Cx}
/-- t[::-1] -/
def tRevT (K : PySem.W.Frag) (te : TE) : TE := fun σ H Q => te σ H fun x H1 => ∃ a xs, x = .ref a ∧ SqT K H1 a xs ∧ ∀ p, H1 p = none → Q (.ref p) (upd H1 p (.tup xs.reverse))
theorem pe_revT {e : Expr} {te : TE} {k : Nat} {p1 p2 p3 pos : Pos} (he : PE X e te) : PE X (.Subscript e (.Slice none none (some (.UnaryOp .USub (.Constant (.int 1) k p1) p2)) p3) pos) (tRevT X.K te) := by
  refine ⟨fun pins s σ H Q I h => ?_⟩
  refine Subscript_ (thn (he.run pins s σ H _ I h) fun v s1 ⟨x, H1, I1, r1, q1⟩ => ?_)
  obtain ⟨a, xs, ex, hx, q⟩ := q1
  subst ex
  cases r1
  have hst : PO X (some (.UnaryOp .USub (.Constant (.int 1) k p1) p2)) (tPart (tUn (rU fun i => .int (-i)) (tC (.int 1)))) := po_some (pe_un un_neg pe_int)
  refine wpAny_Slice (thn (po_none.run pins s1 σ H1 (fun o H2 => o = none ∧ H2 = H1) I1 ⟨rfl, rfl⟩) fun vl s2 ⟨l, H2, I2, pl, el, e2⟩ => ?_)
  subst el e2
  refine thn (po_none.run pins s2 σ H2 (fun o H3 => o = none ∧ H3 = H2) I2 ⟨rfl, rfl⟩) fun vu s3 ⟨u, H3, I3, pu, eu, e3⟩ => ?_
  subst eu e3
  refine thn (hst.run pins s3 σ H3 (fun o H4 => o = some (-1) ∧ H4 = H3) I3 ⟨1, rfl, -1, rfl, rfl, rfl⟩) fun vs s4 ⟨o, H4, I4, ps, eo, e4⟩ => ?_
  subst eo e4
  have I5 : Inv X pins σ H4 { s4 with heap := s4.heap.push { cls := .type "slice", data := .fields #[vl, vu, vs] } } := I4.kept (t' := s4.toks) fun b ob q => Heap.get?_push_of_some _ q
  obtain ⟨its, r, ht, hz⟩ := I5.tuple hx
  have hlen : its.toArray.size = xs.length := by rw [List.size_toArray]; exact r.length.symm
  cases pl
  cases pu
  show wpAny (model X.prog X.w) X.A (subscriptTail e (.Slice none none (some (.UnaryOp .USub (.Constant (.int 1) k p1) p2)) p3) (.ref a) (.ref s4.heap.objs.size)) (EP X pins σ Q) X.xe { s4 with heap := s4.heap.push { cls := .type "slice", data := .fields #[.none, .none, vs] } }
  refine tail_any (ops := [.ref a, .ref s4.heap.objs.size]) ht.typeIs PyProof.Rows.slot_tuple_getitem.lookup ?_ (by with_unfolding_all rfl)
  refine getItem_tuple_rev ht (Heap.IsSliceOf.new _ .none .none vs) ps ?_ (by rw [hlen]; exact hz)
  refine ⟨.ref _, _, I5.laid (t' := s4.toks) (o := .tup xs.reverse) (fun b ob q => Heap.get?_push_of_some _ q) (Nat.le_refl _) ?_, rfl, q _ (I5.hok.fresh (Nat.le_refl _))⟩
  exact ⟨by rw [List.length_reverse]; exact hz, _, r.reverse, IsTup.new _ _⟩
theorem s_rev {a : Expr} {fa : Env → Mem → Option (D × Mem)} {k : Nat} {p1 p2 p3 pos : Pos} (ha : PE X a (tI X fa)) : PE X (.Subscript a (.Slice none none (some (.UnaryOp .USub (.Constant (.int 1) k p1) p2)) p3) pos) (tI X fun ρ M => do
    let (x, M) ← fa ρ M
    bfun .rv [x] M) := (pe_revT ha).weak fun σ H Q h => by
  obtain ⟨ρ, M, α, d, M', r0, e, q⟩ := h
  obtain ⟨⟨x, M1⟩, e1, e⟩ := ob e
  refine tI.use r0 e1 fun v H1 α1 n1 d1 r1 => ?_
  dsimp only at e
  unfold bfun at e
  split at e <;> try contradiction
  rename_i l hx
  cases hx
  obtain ⟨rfl, rfl⟩ := one_some e
  obtain ⟨p, vs, rfl, s, rp⟩ := rd_tuple d1
  exact ⟨p, vs, rfl, s, new_tup r1.mem r1.tab rp.rev fun w H' α' n d => q w H' α' (n1.trans r0.mem n) d⟩
end
end IX
end

section
set_option Elab.async false
set_option autoImplicit false
set_option linter.all false
set_option maxRecDepth 100000
set_option maxHeartbeats 4000000
/-! Targets, statements, loops. -/
namespace IX
open PySem PySem.Spec PyProof.Rows L2 GX
/-- outside is the slots nothing is stored -/
def Same (is : List Nat) (σ σ' : L2.St) : Prop := σ'.length = σ.length ∧ ∀ i, i ∉ is → σ'[i]? = σ[i]?
theorem Same.trans {is js : List Nat} {σ σ1 σ2 : L2.St} (a : Same is σ σ1) (b : Same js σ1 σ2) : Same (is ++ js) σ σ2 := ⟨b.1.trans a.1, fun i h => by
  rw [List.mem_append, not_or] at h
  exact (b.2 i h.2).trans (a.2 i h.1)⟩
theorem Same.set (i : Nat) (v : Option V) (σ : L2.St) : Same [i] σ (σ.set i v) := ⟨by simp, fun j h => by
  rw [List.getElem?_set_ne]
  intro e; exact h (by simp [e])⟩
theorem wipe_get (σ : L2.St) : ∀ (vs : List Nat) (i : Nat), (wipe σ vs)[i]? = if i ∈ vs then (if i < σ.length then some none else none) else σ[i]?
  | [], i => by simp [wipe]
  | v :: vs, i => by
    have ih := wipe_get σ vs i
    have hl := wipe_length σ vs
    show ((wipe σ vs).set v none)[i]? = _
    by_cases h : v = i
    · subst h
      by_cases hv : v < σ.length
      · rw [List.getElem?_set_self (by rw [hl]; exact hv)]; simp [hv]
      · rw [List.getElem?_eq_none (by rw [List.length_set, hl]; omega)]; simp [hv]
    · rw [List.getElem?_set_ne h, ih]
      have : (i ∈ v :: vs) ↔ i ∈ vs := by simp [Ne.symm h]
      simp only [this]
theorem Same.wipe {is vs : List Nat} {σ σ' : L2.St} (h : Same is (wipe σ vs) σ') (hs : ∀ i ∈ is, i ∈ vs) : wipe σ' vs = wipe σ vs := by
  refine List.ext_getElem? fun i => ?_
  have hl : σ'.length = σ.length := h.1.trans (wipe_length σ vs)
  rw [wipe_get, wipe_get, hl]
  by_cases hi : i ∈ vs
  · rw [if_pos hi, if_pos hi]
  · rw [if_neg hi, if_neg hi, h.2 i (fun z => hi (hs i z)), wipe_get, if_neg hi]
theorem REnv.set {K : PySem.W.Frag} {H : Hp} {α : List Addr} {ρ : Env} {σ : L2.St} {d : D} {v : V} (e : REnv K H α ρ σ) (r : RD K H α d v) (i : Nat) : REnv K H α (ρ.set i (some d)) (σ.set i (some v)) := ⟨by simp [e.len], fun j d' h => by
  by_cases hj : i = j
  · subst hj
    by_cases hl : i < ρ.length
    · rw [List.getElem?_set_self hl] at h
      cases h
      exact ⟨v, by rw [List.getElem?_set_self (by rw [← e.len]; exact hl)], r⟩
    · rw [List.getElem?_eq_none (by simpa using hl)] at h; cases h
  · rw [List.getElem?_set_ne hj] at h
    obtain ⟨w, h1, h2⟩ := e.cell j d' h
    exact ⟨w, by rw [List.getElem?_set_ne hj]; exact h1, h2⟩⟩
theorem REnv.wipe {K : PySem.W.Frag} {H : Hp} {α : List Addr} {ρ : Env} {σ : L2.St} (e : REnv K H α ρ σ) : ∀ vs : List Nat, REnv K H α (wipeE ρ vs) (wipe σ vs)
  | [] => e
  | v :: vs => by
    have ih := REnv.wipe e vs
    refine ⟨by show ((wipeE ρ vs).set v none).length = ((L2.wipe σ vs).set v none).length; simp [ih.len], fun j d h => ?_⟩
    have h : ((wipeE ρ vs).set v none)[j]? = some (some d) := h
    show ∃ u, ((L2.wipe σ vs).set v none)[j]? = some (some u) ∧ _
    by_cases hj : v = j
    · subst hj
      by_cases hl : v < (wipeE ρ vs).length
      · rw [List.getElem?_set_self hl] at h; cases h
      · rw [List.getElem?_eq_none (by simpa using hl)] at h; cases h
    · rw [List.getElem?_set_ne hj] at h ⊢
      exact ih.cell j d h
/-- a target's reading, a datum stored -/
def tGp (X : Cx) (t : T) : TG := fun v σ H Q => ∃ ρ M α x ρ', RS X σ H ρ M α ∧ RP X.K H α x v ∧ t.put x ρ = some ρ' ∧ ∀ σ', REnv X.K H α ρ' σ' → Same t.slots σ σ' → Q σ' H
def tGs (X : Cx) (ts : List T) : TGs := fun vs σ H Q => ∃ ρ M α xs ρ', RS X σ H ρ M α ∧ RPs X.K H α xs vs ∧ T.puts ts xs ρ = some ρ' ∧ ∀ σ', REnv X.K H α ρ' σ' → Same (T.slotss ts) σ σ' → Q σ' H
def tGd (X : Cx) (t : T) : TG := fun v σ H Q => ∃ ρ M α d ρ', RS X σ H ρ M α ∧ RD X.K H α d v ∧ t.putD d ρ = some ρ' ∧ ∀ σ', REnv X.K H α ρ' σ' → Same t.slots σ σ' → Q σ' H
theorem _root_.L2.PG.weak {X : Cx} {e : Expr} {t t' : TG} (h : PG X e t) (w : ∀ v σ H Q, t' v σ H Q → t v σ H Q) : PG X e t' := ⟨fun pins s σ H v u Q I r q => h.run pins s σ H v u Q I r (w v σ H Q q)⟩
theorem _root_.L2.PGs.weak {X : Cx} {e : List Expr} {t t' : TGs} (h : PGs X e t) (w : ∀ v σ H Q, t' v σ H Q → t v σ H Q) : PGs X e t' := ⟨fun pins s σ H v u Q I r q => h.run pins s σ H v u Q I r (w v σ H Q q)⟩
section
variable {X : Cx} {pos : Pos} {e : Expr} {es : List Expr}
theorem g_nm {i : Nat} {x : Str} (hN : X.N.Nodup) (hi : X.N[i]? = some x) (hx : Loc X.env.scope x) (hf : X.fn x = true ∨ X.env.scope.names.lookup x = some .local) : PG X (.Name x pos) (tGp X (.nm i)) := (pg_name hN hi hx hf).weak fun v σ H Q h => by
  obtain ⟨ρ, M, α, x, ρ', r, rp, hp, q⟩ := h
  simp only [T.put] at hp
  split at hp <;> try contradiction
  cases hp
  exact q _ (r.env.set (d := .p x) rp i) (Same.set i _ σ)
theorem g_nmD {i : Nat} {x : Str} (hN : X.N.Nodup) (hi : X.N[i]? = some x) (hx : Loc X.env.scope x) (hf : X.fn x = true ∨ X.env.scope.names.lookup x = some .local) : PG X (.Name x pos) (tGd X (.nm i)) := (pg_name hN hi hx hf).weak fun v σ H Q h => by
  obtain ⟨ρ, M, α, d, ρ', r, rp, hp, q⟩ := h
  simp only [T.putD] at hp
  split at hp <;> try contradiction
  cases hp
  exact q _ (r.env.set rp i) (Same.set i _ σ)
theorem gs_nil : PGs X [] (tGs X []) := pgs_nil.weak fun vs σ H Q h => by
  obtain ⟨ρ, M, α, xs, ρ', r, rp, hp, q⟩ := h
  cases xs with
  | nil =>
    cases hp
    exact ⟨rps_nil rp, q σ r.env ⟨rfl, fun _ _ => rfl⟩⟩
  | cons _ _ => cases hp
theorem gs_cons {t : T} {ts : List T} (h1 : PG X e (tGp X t)) (h2 : PGs X es (tGs X ts)) (hs : (assignEach (e :: es) X.env).map (·.2) = assign e X.env :: (assignEach es X.env).map (·.2)) : PGs X (e :: es) (tGs X (t :: ts)) := (pgs_cons h1 h2 hs).weak fun vs σ H Q h => by
  obtain ⟨ρ, M, α, xs, ρ', r, rp, hp, q⟩ := h
  cases xs with
  | nil => cases hp
  | cons x xs =>
    cases vs with
    | nil => exact absurd (rps_nil2 rp) (by simp)
    | cons v vs =>
      unfold RPs at rp
      obtain ⟨ρ1, e1, e2⟩ := Option.bind_eq_some_iff.mp (show (T.put t x ρ).bind (fun ρ' => T.puts ts xs ρ') = some ρ' from hp)
      refine ⟨v, vs, rfl, ρ, M, α, x, ρ1, r, rp.1, e1, fun σ1 h1 s1 => ?_⟩
      refine ⟨ρ1, M, α, xs, ρ', r.with h1, rp.2, e2, fun σ2 h2 s2 => ?_⟩
      exact q σ2 h2 (s1.trans s2)
theorem puts_len : ∀ {ts : List T} {xs : List P} {ρ ρ' : Env}, T.puts ts xs ρ = some ρ' → xs.length = ts.length
  | [], [], _, _, _ => rfl
  | t :: ts, x :: xs, ρ, ρ', h => by
    obtain ⟨ρ1, e1, e2⟩ := Option.bind_eq_some_iff.mp (show (T.put t x ρ).bind (fun ρ' => T.puts ts xs ρ') = some ρ' from h)
    rw [List.length_cons, List.length_cons, puts_len e2]
  | [], _ :: _, _, _, h => by cases h
  | _ :: _, [], _, _, h => by cases h
theorem g_tp {ts : List T} {k : Nat} (hc : X.calm = true) (h : PGs X es (tGs X ts)) (hn : (assignEach es X.env).length = ts.length) (hst : (assignEach es X.env).findIdx? (·.1) = none) : PG X (.Tuple es k pos) (tGp X (.tp ts)) := (pg_tup hc h hn hst).weak fun v σ H Q h => by
  obtain ⟨ρ, M, α, x, ρ', r, rp, hp, q⟩ := h
  cases x with
  | tup l =>
    have hp : T.puts ts l ρ = some ρ' := hp
    obtain ⟨a, vs, rfl, s, rs⟩ := rd_tuple (α := α) (show RD X.K H α (.p (.tup l)) v from rp)
    exact ⟨a, vs, rfl, s, by rw [← rs.length]; exact puts_len hp, ρ, M, α, l, ρ', r, rs, hp, q⟩
  | _ => cases hp
theorem g_tpD {ts : List T} (h : PG X e (tGp X (.tp ts))) : PG X e (tGd X (.tp ts)) := h.weak fun v σ H Q h => by
  obtain ⟨ρ, M, α, d, ρ', r, rp, hp, q⟩ := h
  cases d with
  | p x => exact ⟨ρ, M, α, x, ρ', r, rp, hp, q⟩
  | _ => cases hp
/-! ### statements -/
def EndsI (X : Cx) (α : List Addr) (H : Hp) (D : Ends) : Out → Prop
  | .nx ρ' M' => ∀ σ' H' α', Nx X.K α H α' H' M' → REnv X.K H' α' ρ' σ' → D.nx σ' H'
  | .bk ρ' M' => ∀ σ' H' α', Nx X.K α H α' H' M' → REnv X.K H' α' ρ' σ' → D.bk σ' H'
  | .ct ρ' M' => ∀ σ' H' α', Nx X.K α H α' H' M' → REnv X.K H' α' ρ' σ' → D.ct σ' H'
  | .rt d M' => ∀ v H' α', Nx X.K α H α' H' M' → RD X.K H' α' d v → D.rt v H'
theorem EndsI.step {α α1 : List Addr} {H H1 : Hp} {M M1 : Mem} {D : Ends} {o : Out} (m : RM X.K H α M) (n : Nx X.K α H α1 H1 M1) (h : EndsI X α H D o) : EndsI X α1 H1 D o := by
  cases o with
  | nx ρ' M' => exact fun σ' H' α' n' e => h σ' H' α' (n.trans m n') e
  | bk ρ' M' => exact fun σ' H' α' n' e => h σ' H' α' (n.trans m n') e
  | ct ρ' M' => exact fun σ' H' α' n' e => h σ' H' α' (n.trans m n') e
  | rt ρ' M' => exact fun σ' H' α' n' e => h σ' H' α' (n.trans m n') e
def tS (X : Cx) (f : Env → Mem → Option Out) : TS := fun D σ H => ∃ ρ M α o, RS X σ H ρ M α ∧ f ρ M = some o ∧ EndsI X α H D o
variable {f g : Env → Mem → Option Out} {fa fb fc : Env → Mem → Option (D × Mem)} {ga : Env → Mem → Option (Bool × Mem)} {fs : Env → Mem → Option (List D × Mem)} {st : Stmt} {sts : List Stmt}
theorem ss_nil : PSs X [] (tS X fun ρ M => some (.nx ρ M)) := pss_nil.weak fun D σ H h => by
  obtain ⟨ρ, M, α, o, r, e, q⟩ := h
  cases e
  exact q σ H α (Nx.refl r.mem r.tab) r.env
theorem ss_cons (h1 : PS X st (tS X f)) (h2 : PSs X sts (tS X g)) : PSs X (st :: sts) (tS X fun ρ M => do
    match ← f ρ M with
    | .nx ρ M => g ρ M
    | o => some o) := (pss_cons h1 h2).weak fun D σ H h => by
  obtain ⟨ρ, M, α, o, r, e, q⟩ := h
  obtain ⟨o1, e1, e⟩ := ob e
  refine ⟨ρ, M, α, o1, r, e1, ?_⟩
  cases o1 with
  | nx ρ1 M1 =>
    intro σ' H' α' n re
    exact ⟨ρ1, M1, α', o, (r.step n).with re, e, q.step r.mem n⟩
  | bk ρ1 M1 => cases e; exact q
  | ct ρ1 M1 => cases e; exact q
  | rt d M1 => cases e; exact q
theorem s_pas : PS X (.Pass pos) (tS X fun ρ M => some (.nx ρ M)) := ps_pass.weak fun D σ H h => by
  obtain ⟨ρ, M, α, o, r, e, q⟩ := h
  cases e
  exact q σ H α (Nx.refl r.mem r.tab) r.env
theorem s_doc {x : Str} {j : Nat} {pos' : Pos} : PS X (.Expr (.Constant (.str x) j pos) pos') (tS X fun ρ M => some (.nx ρ M)) := ps_doc.weak fun D σ H h => by
  obtain ⟨ρ, M, α, o, r, e, q⟩ := h
  cases e
  exact q σ H α (Nx.refl r.mem r.tab) r.env
theorem s_brk : PS X (.Break pos) (tS X fun ρ M => some (.bk ρ M)) := ps_break.weak fun D σ H h => by
  obtain ⟨ρ, M, α, o, r, e, q⟩ := h
  cases e
  exact q σ H α (Nx.refl r.mem r.tab) r.env
theorem s_cnt : PS X (.Continue pos) (tS X fun ρ M => some (.ct ρ M)) := ps_continue.weak fun D σ H h => by
  obtain ⟨ρ, M, α, o, r, e, q⟩ := h
  cases e
  exact q σ H α (Nx.refl r.mem r.tab) r.env
theorem s_ret (he : PE X e (tI X fa)) : PS X (.Return (some e) pos) (tS X fun ρ M => do
    let (d, M) ← fa ρ M
    some (.rt d M)) := (ps_ret he).weak fun D σ H h => by
  obtain ⟨ρ, M, α, o, r, e, q⟩ := h
  obtain ⟨⟨d, M1⟩, e1, e⟩ := ob e
  cases e
  exact ⟨ρ, M, α, d, M1, r, e1, q⟩
theorem s_retn : PS X (.Return none pos) (tS X fun _ M => some (.rt (.p .non) M)) := ps_retN.weak fun D σ H h => by
  obtain ⟨ρ, M, α, o, r, e, q⟩ := h
  cases e
  exact q .non H α (Nx.refl r.mem r.tab) rfl
theorem s_ex (he : PE X e (tI X fa)) (hs : swapsWith e none pos.line X.env = pure false) : PS X (.Expr e pos) (tS X fun ρ M => do
    let (_, M) ← fa ρ M
    some (.nx ρ M)) := (ps_expr he hs).weak fun D σ H h => by
  obtain ⟨ρ, M, α, o, r, e, q⟩ := h
  obtain ⟨⟨d, M1⟩, e1, e⟩ := ob e
  cases e
  exact tI.use r e1 fun v H' α' n _ r1 => q σ H' α' n r1.env
theorem s_if {a b : List Stmt} {c : Expr} (hc : PT X c (tIT X ga)) (ha : PSs X a (tS X f)) (hb : PSs X b (tS X g)) : PS X (.If c a b pos) (tS X fun ρ M => do
    let (c, M) ← ga ρ M
    if c then f ρ M else g ρ M) := (ps_if hc ha hb).weak fun D σ H h => by
  obtain ⟨ρ, M, α, o, r, e, q⟩ := h
  obtain ⟨⟨b, M1⟩, e1, e⟩ := ob e
  refine tIT.use r e1 fun H1 α1 n1 r1 => ?_
  cases b with
  | true => exact ⟨ρ, M1, α1, o, r1, e, q.step r.mem n1⟩
  | false => exact ⟨ρ, M1, α1, o, r1, e, q.step r.mem n1⟩
def setF (t : T) (fa : Env → Mem → Option (D × Mem)) : Env → Mem → Option Out := fun ρ M => do
    let (d, M) ← fa ρ M
    let ρ' ← t.putD d ρ
    some (.nx ρ' M)
theorem asg_of {te : TE} {t : T} {Dn : Ends} {σ : L2.St} {H : Hp} (ht : ∀ Q, tI X fa σ H Q → te σ H Q) (h : tS X (setF t fa) Dn σ H) : tAsg te (tGd X t) Dn σ H := by
  obtain ⟨ρ, M, α, o, r, e, q⟩ := h
  obtain ⟨⟨d, M1⟩, e1, e⟩ := ob e
  obtain ⟨ρ', e2, e⟩ := ob e
  cases e
  refine ht _ (tI.use r e1 fun v H' α' n rd r1 => ?_)
  exact ⟨ρ, M1, α', d, ρ', r1, rd, e2, fun σ' re _ => q σ' H' α' n re⟩
theorem gname_of {te : TE} {i : Nat} {Dn : Ends} {σ : L2.St} {H : Hp} (ht : ∀ Q, tI X fa σ H Q → te σ H Q) (h : tS X (setF (.nm i) fa) Dn σ H) : tAsg te (gName i) Dn σ H := by
  obtain ⟨ρ, M, α, o, r, e, q⟩ := h
  obtain ⟨⟨d, M1⟩, e1, e⟩ := ob e
  obtain ⟨ρ', e2, e⟩ := ob e
  cases e
  refine ht _ (tI.use r e1 fun v H' α' n rd r1 => ?_)
  simp only [T.putD] at e2
  split at e2 <;> try contradiction
  cases e2
  exact q _ H' α' n (r1.env.set rd i)
theorem s_set {i : Nat} {x : Str} {pos' : Pos} (hN : X.N.Nodup) (hi : X.N[i]? = some x) (hx : Loc X.env.scope x) (he : PE X e (tI X fa)) (hs : swapsWith e (some (.Name x pos')) pos.line X.env = pure false) (hf : X.fn x = true ∨ X.env.scope.names.lookup x = some .local) :
    PS X (.Assign [.Name x pos'] e pos) (tS X (setF (.nm i) fa)) := (ps_set hN hi hx he hs hf).weak fun D σ H h => gname_of (fun _ q => q) h
theorem s_asg {t : T} {tg : Expr} (he : PE X e (tI X fa)) (hg : PG X tg (tGd X t)) (hs : swapsWithSole [tg] e pos.line X.env = pure false) (hw : swappedStores [tg] e X.env = pure none)
    (h1 : (assignEach [tg] X.env).map (·.2) = [assign tg X.env]) : PS X (.Assign [tg] e pos) (tS X (setF t fa)) := (ps_asg he hg hs hw h1).weak fun D σ H h => asg_of (fun _ q => q) h
theorem s_par {i j : Nat} {x y : Str} {a b : Expr} {px py pt : Pos} {kt k2 : Nat} {pt2 : Pos} (hc : X.calm = true) (hN : X.N.Nodup) (hi : X.N[i]? = some x) (hj : X.N[j]? = some y) (hij : i ≠ j)
    (hx : X.env.scope.names.lookup x = some .local) (hy : X.env.scope.names.lookup y = some .local) (ha : PA X [a, b] (tIA X fs))
    (hw : swappedStores [.Tuple [.Name x px, .Name y py] kt pt] (.Tuple [a, b] k2 pt2) X.env = pure (some [x, y]))
    (hs : swapsWithSole [.Tuple [.Name x px, .Name y py] kt pt] (.Tuple [a, b] k2 pt2) pos.line X.env = pure false) :
    PS X (.Assign [.Tuple [.Name x px, .Name y py] kt pt] (.Tuple [a, b] k2 pt2) pos) (tS X fun ρ M => do
      let (ds, M) ← fs ρ M
      let ρ' ← parE [i, j] ds ρ
      some (.nx ρ' M)) := (ps_par hc hN hi hj hij hx hy ha hw hs).weak fun D σ H h => by
  obtain ⟨ρ, M, α, o, r, e, q⟩ := h
  obtain ⟨⟨ds, M1⟩, e1, e⟩ := ob e
  obtain ⟨ρ', e2, e⟩ := ob e
  cases e
  refine tIA.use r e1 fun vs H' α' n rd r1 => ?_
  match ds, e2, rd with
  | [d1, d2], e2, rd =>
    obtain ⟨v, w, rfl, h1, h2⟩ := rds2 rd
    simp only [parE, List.length_set] at e2
    split at e2 <;> try contradiction
    split at e2 <;> try contradiction
    cases e2
    exact ⟨v, w, rfl, q _ H' α' n ((r1.env.set h1 i).set h2 j)⟩
  | [], e2, _ => cases e2
  | [_], e2, _ =>
    simp only [parE] at e2
    split at e2 <;> cases e2
  | _ :: _ :: _ :: _, e2, _ =>
    simp only [parE, List.length_set] at e2
    split at e2 <;> try contradiction
    split at e2 <;> cases e2
theorem s_par3 {i j l : Nat} {x y z : Str} {a b c : Expr} {px py pz pt : Pos} {kt k2 : Nat} {pt2 : Pos} (hc : X.calm = true) (hN : X.N.Nodup) (hi : X.N[i]? = some x) (hj : X.N[j]? = some y) (hl : X.N[l]? = some z) (hij : i ≠ j) (hil : i ≠ l) (hjl : j ≠ l)
    (hx : X.env.scope.names.lookup x = some .local) (hy : X.env.scope.names.lookup y = some .local) (hz : X.env.scope.names.lookup z = some .local) (ha : PA X [a, b, c] (tIA X fs))
    (hw : swappedStores [.Tuple [.Name x px, .Name y py, .Name z pz] kt pt] (.Tuple [a, b, c] k2 pt2) X.env = pure (some [x, y, z]))
    (hs : swapsWithSole [.Tuple [.Name x px, .Name y py, .Name z pz] kt pt] (.Tuple [a, b, c] k2 pt2) pos.line X.env = pure false) :
    PS X (.Assign [.Tuple [.Name x px, .Name y py, .Name z pz] kt pt] (.Tuple [a, b, c] k2 pt2) pos) (tS X fun ρ M => do
      let (ds, M) ← fs ρ M
      let ρ' ← parE [i, j, l] ds ρ
      some (.nx ρ' M)) := (ps_par3 hc hN hi hj hl hij hil hjl hx hy hz ha hw hs).weak fun D σ H h => by
  obtain ⟨ρ, M, α, o, r, e, q⟩ := h
  obtain ⟨⟨ds, M1⟩, e1, e⟩ := ob e
  obtain ⟨ρ', e2, e⟩ := ob e
  cases e
  refine tIA.use r e1 fun vs H' α' n rd r1 => ?_
  match ds, e2, rd with
  | [d1, d2, d3], e2, rd =>
    match vs, rd with
    | [v, w, u], rd =>
      obtain ⟨h1, h2, h3, _⟩ := rd
      simp only [parE, List.length_set] at e2
      split at e2 <;> try contradiction
      split at e2 <;> try contradiction
      split at e2 <;> try contradiction
      cases e2
      exact ⟨v, w, u, rfl, q _ H' α' n (((r1.env.set h1 i).set h2 j).set h3 l)⟩
    | [], rd => exact rd.elim
    | [_], rd => exact rd.2.elim
    | [_, _], rd => exact rd.2.2.elim
    | _ :: _ :: _ :: _ :: _, rd => exact rd.2.2.2.elim
  | [], e2, _ => cases e2
  | [_], e2, _ =>
    simp only [parE] at e2
    split at e2 <;> cases e2
  | [_, _], e2, _ =>
    simp only [parE, List.length_set] at e2
    split at e2 <;> try contradiction
    split at e2 <;> cases e2
  | _ :: _ :: _ :: _ :: _, e2, _ =>
    simp only [parE, List.length_set] at e2
    split at e2 <;> try contradiction
    split at e2 <;> try contradiction
    split at e2 <;> cases e2
theorem seti_ok {K : PySem.W.Frag} {H : Hp} {α : List Addr} {xs ys : List P} {vs : List V} {i : Int} {x : P} {v : V} (r : RPs K H α xs vs) (rv : RP K H α x v) (h : seti xs i x = some ys) : ∃ j, ixN vs.length i = some j ∧ RPs K H α ys (vs.set j v) := by
  unfold seti at h
  obtain ⟨j, e1, rfl⟩ := Option.map_eq_some_iff.mp h
  rw [pix_eq, r.length] at e1
  exact ⟨j, e1, r.set rv⟩
theorem s_seti {o i : Expr} {pt : Pos} (he : PE X e (tI X fa)) (ho : PE X o (tI X fb)) (hi : PE X i (tI X fc))
    (ha : ∀ v, assign (.Subscript o i pt) X.env v = (do
      let ov ← holding [v] (eval o X.env)
      let iv ← holding [v, ov] (eval i X.env)
      standAt pt
      holding [v, ov, iv] (setItem ov iv v)
      release [v, ov, iv] []))
    (hs : swapsWithSole [.Subscript o i pt] e pos.line X.env = pure false) (hw : swappedStores [.Subscript o i pt] e X.env = pure none) (h1 : (assignEach [.Subscript o i pt] X.env).map (·.2) = [assign (.Subscript o i pt) X.env]) :
    PS X (.Assign [.Subscript o i pt] e pos) (tS X fun ρ M => do
      let (d, M) ← fa ρ M
      let (x, M) ← fb ρ M
      let (k, M) ← fc ρ M
      match x, k, d with
      | .p (.ref j), .p (.int k), .p v => do
        let xs ← M[j]?
        let ys ← seti xs k v
        some (.nx ρ (M.set j ys))
      | _, _, _ => none) := (ps_asg he (pg_sub ho hi set_list ha) hs hw h1).weak fun D σ H h => by
  obtain ⟨ρ, M, α, o, r, e, q⟩ := h
  obtain ⟨⟨d, M1⟩, e1, e⟩ := ob e
  obtain ⟨⟨x, M2⟩, e2, e⟩ := ob e
  obtain ⟨⟨k, M3⟩, e3, e⟩ := ob e
  dsimp only at e
  split at e <;> try contradiction
  obtain ⟨xs, e4, e⟩ := ob e
  obtain ⟨ys, e5, e⟩ := ob e
  cases e
  refine tI.use r e1 fun v H1 α1 n1 d1 r1 => tI.use r1 e2 fun w H2 α2 n2 d2 r2 => tI.use r2 e3 fun u H3 α3 n3 d3 r3 => ?_
  obtain ⟨p, vs, rfl, hp, s, rp⟩ := rd_list r3.mem (n3.rd r2.mem d2) e4
  obtain ⟨j, hj, rp'⟩ := seti_ok rp (show RP _ _ _ _ v from n3.rd r2.mem (n2.rd r1.mem d1)) e5
  have nn := Nx.write r3.mem r3.tab hp e4 rp'
  exact ⟨p, vs, _, j, rfl, rd_int d3, s, hj, q σ _ α3 (((n1.trans r.mem n2).trans r.mem n3).trans r.mem nn) (nn.env r3.mem r3.env)⟩
theorem augop_ok {o : BO} {x y : D} {z : P} (h : augop o x y = some z) : (o = .add ∧ ∃ a b, x = .p (.int a) ∧ y = .p (.int b) ∧ z = .int (a + b)) ∨ (o = .sub ∧ ∃ a b, x = .p (.int a) ∧ y = .p (.int b) ∧ z = .int (a - b)) := by
  unfold augop at h
  split at h <;> try contradiction
  · cases h; exact .inl ⟨rfl, _, _, rfl, rfl, rfl⟩
  · cases h; exact .inr ⟨rfl, _, _, rfl, rfl, rfl⟩
def augTI : BO → TIp
  | .add => ipI fun i j => i + j
  | .sub => ipI fun i j => i - j
  | _ => fun _ _ _ _ => False
def boOp : BO → Operator
  | .add => .Add | .sub => .Sub | .mul => .Mult | .fdiv => .FloorDiv | .mod => .Mod | .pow => .Pow
theorem aug_pip (o : BO) : PIp X (boOp o) (augTI o) := by
  cases o
  · exact ip_add
  · exact ip_sub
  all_goals exact fun _ _ _ _ _ _ _ _ _ _ _ _ h => h.elim
theorem aug_ti {K : PySem.W.Frag} {H : Hp} {α : List Addr} {o : BO} {x y : D} {z : P} {v u : V} {Q : VK} (h : augop o x y = some z) (rx : RD K H α x v) (ry : RD K H α y u) (q : ∀ w, RD K H α (.p z) w → Q w H) : augTI o v u H Q := by
  rcases augop_ok h with ⟨rfl, a, b, rfl, rfl, rfl⟩ | ⟨rfl, a, b, rfl, rfl, rfl⟩
  · exact ⟨a, b, rx, ry, q _ (by exact rfl)⟩
  · exact ⟨a, b, rx, ry, q _ (by exact rfl)⟩
theorem s_aug {i : Nat} {x : Str} {o : BO} {pos' : Pos} (hN : X.N.Nodup) (hi : X.N[i]? = some x) (hx : Loc X.env.scope x) (he : PE X e (tI X fa)) (hf : X.fn x = true ∨ X.env.scope.names.lookup x = some .local) :
    PS X (.AugAssign (.Name x pos') (boOp o) e pos) (tS X fun ρ M => do
      match ρ[i]? with
      | some (some x) => do
        let (y, M) ← fa ρ M
        let z ← augop o x y
        some (.nx (ρ.set i (some (.p z))) M)
      | _ => none) := (ps_aug hN hi hx he (aug_pip o) hf).weak fun D σ H h => by
  obtain ⟨ρ, M, α, o', r, e, q⟩ := h
  dsimp only at e
  split at e <;> try contradiction
  rename_i x hx
  obtain ⟨⟨y, M1⟩, e1, e⟩ := ob e
  obtain ⟨z, e2, e⟩ := ob e
  cases e
  obtain ⟨v, e3, rv⟩ := r.env.cell i x hx
  refine ⟨v, e3, tI.use r e1 fun u H1 α1 n1 d1 r1 => ?_⟩
  exact aug_ti e2 (n1.rd r.mem rv) d1 fun w rw_ => q _ H1 α1 n1 (r1.env.set (d := .p z) rw_ i)
/-- xs[i], by values -/
def rGetL (K : PySem.W.Frag) : V → V → Hp → VK → Prop := fun x y H Q => ∃ p xs i v, x = .ref p ∧ y = .int i ∧ SqL K H p xs ∧ atI xs i = some v ∧ Q v H
theorem get_list : PGet X (rGetL X.K) := by
  intro pins s σ H x y v u Q I rx ry h
  obtain ⟨p, xs, i, z, rfl, rfl, hq, he, q⟩ := h
  cases rx
  obtain ⟨t, rfl⟩ := ry
  obtain ⟨its, r, pl, hz⟩ := I.list hq
  obtain ⟨j, h1, h2, h3, h4, h5⟩ := atI_get he
  obtain ⟨w, ew, rw'⟩ := r.get h2
  have hl := r.length
  have hn := line63
  have fin : EP X pins σ Q w s := ⟨z, H, I, rw', q⟩
  by_cases h0 : 0 ≤ i
  · have hj : i.toNat = j := by
      rw [seqIndex_of h0 h5] at h1
      exact Option.some.inj h1
    exact wpAny_getItem_list pl.isList h0 (by omega) (by rw [hj]; simpa using ew) fin
  · have hj : (i + (its.toArray.size : Int)).toNat = j := by
      rw [seqIndex_neg (by omega) h4] at h1
      rw [List.size_toArray, ← hl]
      exact Option.some.inj h1
    exact wpAny_getItem_list_neg pl.isList (by omega) (by rw [List.size_toArray] <;> omega) (by omega) (by rw [hj]; simpa using ew) fin
theorem s_augi {a i : Expr} {o : BO} {pt : Pos} (ho : PE X a (tI X fa)) (hi : PE X i (tI X fb)) (he : PE X e (tI X fc))
    (ha : ∀ ov iv new, augStore i ov iv new = (do holding [new, ov, iv] (setItem ov iv new); release [new, ov, iv] []; pure .next)) :
    PS X (.AugAssign (.Subscript a i pt) (boOp o) e pos) (tS X fun ρ M => do
      let (x, M) ← fa ρ M
      let (k, M) ← fb ρ M
      let old ← index x k M
      let (y, M) ← fc ρ M
      let z ← augop o (.p old) y
      match x, k with
      | .p (.ref j), .p (.int k) => do
        let xs ← M[j]?
        let ys ← seti xs k z
        some (.nx ρ (M.set j ys))
      | _, _ => none) := (ps_augS ho hi get_list he (aug_pip o) set_list ha).weak fun D σ H h => by
  obtain ⟨ρ, M, α, o', r, e, q⟩ := h
  obtain ⟨⟨x, M1⟩, e1, e⟩ := ob e
  obtain ⟨⟨k, M2⟩, e2, e⟩ := ob e
  obtain ⟨old, e3, e⟩ := ob e
  obtain ⟨⟨y, M3⟩, e4, e⟩ := ob e
  obtain ⟨z, e5, e⟩ := ob e
  split at e <;> try contradiction
  obtain ⟨xs, e6, e⟩ := ob e
  obtain ⟨ys, e7, e⟩ := ob e
  cases e
  refine tI.use r e1 fun v H1 α1 n1 d1 r1 => tI.use r1 e2 fun w H2 α2 n2 d2 r2 => ?_
  obtain ⟨xs0, e8, e9⟩ := Option.bind_eq_some_iff.mp (show (items M2 (.p (.ref _))).bind _ = some old from e3)
  obtain ⟨p, vs, rfl, hp, s, rp⟩ := rd_list r2.mem (n2.rd r1.mem d1) e8
  obtain ⟨ov, e10, rov⟩ := atx_ok rp e9
  refine ⟨p, vs, _, ov, rfl, rd_int d2, .inl (.inl s), e10, ?_⟩
  refine tI.use r2 e4 fun u H3 α3 n3 d3 r3 => ?_
  refine aug_ti e5 (n3.rd r2.mem (d := .p old) rov) d3 fun zv rz => ?_
  obtain ⟨p', vs', e11, hp', s', rp'⟩ := rd_list r3.mem (n3.rd r2.mem (n2.rd r1.mem d1)) e6
  cases e11
  obtain ⟨j, hj, rp2⟩ := seti_ok rp' (show RP _ _ _ _ zv from rz) e7
  have nn := Nx.write r3.mem r3.tab hp' e6 rp2
  exact ⟨p, vs', _, j, rfl, rd_int d2, s', hj, q σ _ α3 (((n1.trans r.mem n2).trans r.mem n3).trans r.mem nn) (nn.env r3.mem r3.env)⟩
/-- while -/
theorem s_while {c : Expr} {N : Nat} (hp : PassesOwn (model X.prog X.w) X.A X.env X.xe) (hc : PT X c (tIT X ga)) (hb : PSs X sts (tS X f)) : PS X (.While c sts [] pos) (tS X (whileL ga f N)) := (ps_while hp hc hb).weak fun D σ H h => by
  obtain ⟨ρ, M, α, o, r, e, q⟩ := h
  refine ⟨fun m σ1 H1 => ∃ ρ1 M1 α1, RS X σ1 H1 ρ1 M1 α1 ∧ Nx X.K α H α1 H1 M1 ∧ whileL ga f m ρ1 M1 = some o, ⟨N, ρ, M, α, r, Nx.refl r.mem r.tab, e⟩, ?_⟩
  rintro m σ1 H1 ⟨ρ1, M1, α1, r1, n1, e⟩
  cases m with
  | zero => cases e
  | succ m =>
    obtain ⟨⟨b, M2⟩, e1, e⟩ := ob (show (do
      let (b, M) ← ga ρ1 M1
      if b then
        match ← f ρ1 M with
        | .nx ρ M => whileL ga f m ρ M
        | .ct ρ M => whileL ga f m ρ M
        | .bk ρ M => some (.nx ρ M)
        | .rt d M => some (.rt d M)
      else some (.nx ρ1 M)) = some o from e)
    refine tIT.use r1 e1 fun H2 α2 n2 r2 => ?_
    have n12 := n1.trans r.mem n2
    cases b with
    | false =>
      cases e
      exact q σ1 H2 α2 n12 r2.env
    | true =>
      obtain ⟨o1, e2, e⟩ := ob e
      refine ⟨fun σ' H' => ∃ ρ1 M1 α1, RS X σ' H' ρ1 M1 α1 ∧ Nx X.K α H α1 H' M1 ∧ whileL ga f m ρ1 M1 = some o, fun σ' H' h => ⟨m, Nat.lt_succ_self m, h⟩, ρ1, M2, α2, o1, r2, e2, ?_⟩
      cases o1 with
      | nx ρ3 M3 => exact fun σ' H' α' n re => ⟨ρ3, M3, α', (r2.step n).with re, n12.trans r.mem n, e⟩
      | ct ρ3 M3 => exact fun σ' H' α' n re => ⟨ρ3, M3, α', (r2.step n).with re, n12.trans r.mem n, e⟩
      | bk ρ3 M3 => cases e; exact fun σ' H' α' n re => q σ' H' α' (n12.trans r.mem n) re
      | rt d M3 => cases e; exact fun v H' α' n rd => q v H' α' (n12.trans r.mem n) rd
end
end IX
end

section
set_option Elab.async false
set_option autoImplicit false
set_option linter.all false
set_option maxRecDepth 100000
set_option maxHeartbeats 4000000
/-! What a loop walks; for; list comprehensions. -/
namespace IX
open PySem PySem.Spec PyProof.Rows L2 GX RZ
theorem grow_own {H : Hp} {D : Addr} {zs : List V} : Grow [D] H (upd H D (.lst zs)) := fun b o e => by
  by_cases hb : b = D
  · exact .inl (by simp [hb])
  · exact .inr (.inl (by rw [upd_ne hb]; exact e))
theorem na_own {H : Hp} {D : Addr} {acc : List V} (h : H D = some (.lst acc)) : ∀ b ∈ [D], ∃ xs, H b = some (.lst xs) := fun b hb => by
  rw [List.mem_singleton.mp hb]; exact ⟨acc, h⟩
def nos : D → Bool
  | .scr _ => false
  | _ => true
theorem rd_own {K : PySem.W.Frag} {H : Hp} {α : List Addr} {c : Addr} {acc zs : List V} {d : D} {v : V} (h : H c = some (.lst acc)) (hn : nos d = true) (r : RD K H α d v) : RD K (upd H c (.lst zs)) α d v := by
  cases d with
  | p x => exact RP.grow (na_own h) grow_own (Pre.refl _) x v r
  | scr xs => cases hn
theorem rm_own {K : PySem.W.Frag} {H : Hp} {α : List Addr} {M : Mem} {D : Addr} {acc zs : List V} (m : RM K H α M) (h : H D = some (.lst acc)) (hn : D ∉ α) : RM K (upd H D (.lst zs)) α M := ⟨m.nd, m.len, fun i a xs e1 e2 => by
  obtain ⟨vs, q, r⟩ := m.cell i a xs e1 e2
  refine ⟨vs, ?_, RPs.grow (na_own h) grow_own (Pre.refl _) _ _ r⟩
  rw [upd_ne]
  · exact q
  · intro z; exact hn (by rw [← z]; exact List.mem_of_getElem? e1)⟩
theorem env_own {K : PySem.W.Frag} {H : Hp} {α : List Addr} {ρ : Env} {σ : L2.St} {D : Addr} {acc zs : List V} (e : REnv K H α ρ σ) (h : H D = some (.lst acc)) (hn : noScr ρ = true) : REnv K (upd H D (.lst zs)) α ρ σ := ⟨e.len, fun i d hd => by
  obtain ⟨v, q, r⟩ := e.cell i d hd
  refine ⟨v, q, rd_own h ?_ r⟩
  have := List.all_eq_true.mp hn _ (List.mem_of_getElem? hd)
  cases d <;> first | rfl | cases this⟩
theorem Nx.own {K : PySem.W.Frag} {H0 H : Hp} {α0 α : List Addr} {M : Mem} {D : Addr} {acc zs : List V} (n : Nx K α0 H0 α H M) (h0 : H0 D = none) (hD : D ∉ α) (e : H D = some (.lst acc)) : Nx K α0 H0 α (upd H D (.lst zs)) M := by
  refine ⟨fun b o hb => ?_, n.ext, rm_own n.mem e hD, tabPut n.tab (.inr ⟨acc, e⟩) fun ps z => by cases z⟩
  have hne : b ≠ D := fun z => by rw [z, h0] at hb; cases hb
  rcases n.grow b o hb with q | q | ⟨q, ps, q'⟩
  · exact .inl q
  · exact .inr (.inl (by rw [upd_ne hne]; exact q))
  · exact .inr (.inr ⟨q, ps, by rw [upd_ne hne]; exact q'⟩)
theorem Nx.notin {K : PySem.W.Frag} {H H' : Hp} {α α' : List Addr} {M' : Mem} {D : Addr} {o : HO} (n : Nx K α H α' H' M') (hD : D ∉ α) (e : H D = some o) : D ∉ α' := fun z => by
  obtain ⟨β, e1, f1⟩ := n.ext
  rw [e1] at z
  rcases List.mem_append.mp z with z | z
  · exact hD z
  · rw [f1 D z] at e; cases e
theorem Nx.keepD {K : PySem.W.Frag} {H H' : Hp} {α α' : List Addr} {M M' : Mem} {D : Addr} {acc : List V} (n : Nx K α H α' H' M') (m : RM K H α M) (hD : D ∉ α) (e : H D = some (.lst acc)) : H' D = some (.lst acc) :=
  grow_at (fun b hb => m.lst hb) n.grow e hD fun ps z => by cases z
theorem Nx.pre {K : PySem.W.Frag} {H H' : Hp} {α α' : List Addr} {M' : Mem} (n : Nx K α H α' H' M') : Pre α α' := by
  obtain ⟨β, e, _⟩ := n.ext
  rw [e]; exact Pre.app α β
theorem Nx.rps {K : PySem.W.Frag} {H H' : Hp} {α α' : List Addr} {M M' : Mem} (n : Nx K α H α' H' M') (m : RM K H α M) {xs : List P} {vs : List V} (r : RPs K H α xs vs) : RPs K H' α' xs vs := RPs.grow (fun b hb => m.lst hb) n.grow n.pre xs vs r
theorem Nx.adopt {K : PySem.W.Frag} {H0 H : Hp} {α0 α : List Addr} {M : Mem} {D : Addr} {vs : List V} {xs : List P} (n : Nx K α0 H0 α H M) (h0 : H0 D = none) (hD : D ∉ α) (e : H D = some (.lst vs)) (r : RPs K H α xs vs) : Nx K α0 H0 (α ++ [D]) H (M ++ [xs]) := by
  obtain ⟨β, e1, f1⟩ := n.ext
  refine ⟨n.grow, ⟨β ++ [D], by rw [e1, List.append_assoc], fun b hb => ?_⟩, ⟨?_, by simp [n.mem.len], fun i a ys a1 a2 => ?_⟩, n.tab⟩
  · rcases List.mem_append.mp hb with z | z
    · exact f1 b z
    · rw [List.mem_singleton.mp z]; exact h0
  · refine List.nodup_append.mpr ⟨n.mem.nd, by simp, fun a ha b hb => ?_⟩
    rw [List.mem_singleton.mp hb]
    exact fun z => hD (by rw [← z]; exact ha)
  · by_cases hi : i < α.length
    · rw [List.getElem?_append_left hi] at a1
      rw [List.getElem?_append_left (by rw [← n.mem.len]; exact hi)] at a2
      obtain ⟨ws, q, r'⟩ := n.mem.cell i a ys a1 a2
      exact ⟨ws, q, RPs.grow (α := []) (fun b hb => by simp at hb) (Grow.refl _) (Pre.app _ _) _ _ r'⟩
    · have hi' : i = α.length := by
        have := (List.getElem?_eq_some_iff.mp a1).1
        simp at this; omega
      subst hi'
      rw [List.getElem?_append_right (Nat.le_refl _)] at a1
      rw [List.getElem?_append_right (by rw [n.mem.len]; exact Nat.le_refl _)] at a2
      simp at a1
      simp [n.mem.len] at a2
      subst a1; subst a2
      exact ⟨vs, e, RPs.grow (α := []) (fun b hb => by simp at hb) (Grow.refl _) (Pre.app _ _) _ _ r⟩
structure ItOk (K : PySem.W.Frag) (J : It) (s : Src) (In : Hp → List Addr → Prop) : Prop where
  step : ∀ H α M H' α' M', In H α → RM K H α M → Nx K α H α' H' M' → In H' α'
  atI : ∀ H α M i x, In H α → RM K H α M → TabAll H → s.ok M = true → s.xs[i]? = some x → J.go i H ∧ ∀ v H', J.yld i H v H' → Nx K α H α H' M ∧ RP K H' α x v
  own : s.fr = true → ∀ (H : Hp) (α : List Addr) (M : Mem) (c : Addr) (acc zs : List V), In H α → RM K H α M → H c = some (.lst acc) → c ∉ α → In (upd H c (.lst zs)) α
  fin : ∀ H α M i, In H α → RM K H α M → TabAll H → s.ok M = true → s.xs.length ≤ i → J.stop i H
def iS (X : Cx) (k : IK) (fs : Env → Mem → Option (List D × Mem)) : TI := fun σ H R => ∃ ρ M α ds s M', RS X σ H ρ M α ∧ fs ρ M = some (ds, M') ∧ src k ds M' = some s ∧
  ∀ J H' α' In, Nx X.K α H α' H' M' → ItOk X.K J s In → In H' α' → s.ok M' = true → R J H'
theorem all1 {A : Type} {p : A → Bool} {a : A} (h : p a = true) : [a].all p = true := by simp [h]
theorem asSrc_ok {M : Mem} {d : D} {s : Src} (h : asSrc M d = some s) : s.ok M = true ∧ ∀ M', s.ok M' = true → items M' d = some s.xs := by
  unfold asSrc at h
  split at h <;> try contradiction
  · cases h; exact ⟨rfl, fun _ _ => rfl⟩
  · obtain ⟨xs, e, rfl⟩ := Option.map_eq_some_iff.mp h
    refine ⟨by simp [Src.ok, e], fun M' h' => ?_⟩
    show M'[_]? = _
    simpa [Src.ok] using h'
  · cases h; exact ⟨rfl, fun _ _ => rfl⟩
theorem asSrc_list {M M' : Mem} {d : D} {s : Src} (h : asSrc M d = some s) (hn : ∀ l, d ≠ .p (.tup l)) (ho : s.ok M' = true) : itemsL M' d = some s.xs := by
  have := (asSrc_ok h).2 M' ho
  cases d with
  | p x =>
    cases x with
    | tup l => exact absurd rfl (hn l)
    | ref i => exact this
    | _ => cases h
  | scr xs => exact this
theorem asSrc_nos {M : Mem} {d : D} {s : Src} (h : asSrc M d = some s) (hf : s.fr = true) : nos d = true := by
  cases d with
  | scr xs => cases h; cases hf
  | _ => rfl
theorem it_list {K : PySem.W.Frag} {M0 : Mem} {d : D} {s : Src} {a : Addr} (h : asSrc M0 d = some s) (hn : ∀ l, d ≠ .p (.tup l)) : ItOk K (Itl K a) s fun H α => RD K H α d (.ref a) := by
  refine ⟨fun H α M H' α' M' r m n => n.rd m r, fun H α M i x r m t ho hx => ?_, fun hf H α M D acc zs r m e _ => rd_own e (asSrc_nos h hf) r, fun H α M i r m t ho hx => ?_⟩
  · obtain ⟨b, vs, e, q, rp⟩ := itemsL_rd m r (asSrc_list h hn ho)
    cases e
    obtain ⟨v, hv, rv⟩ := rp.get hx
    refine ⟨⟨vs, v, q, hv⟩, fun w H' ⟨e1, e2⟩ => ?_⟩
    subst e1
    have := e2 vs q
    rw [hv] at this; cases this
    exact ⟨Nx.refl m t, rv⟩
  · obtain ⟨b, vs, e, q, rp⟩ := itemsL_rd m r (asSrc_list h hn ho)
    cases e
    exact ⟨vs, q, by rw [← rp.length]; exact hx⟩
theorem it_tup {K : PySem.W.Frag} {l : List P} {a : Addr} : ItOk K (Itt K a) ⟨l, [], true⟩ fun H α => RD K H α (.p (.tup l)) (.ref a) := by
  refine ⟨fun H α M H' α' M' r m n => n.rd m r, fun H α M i x r m t ho hx => ?_, fun hf H α M D acc zs r m e _ => rd_own e rfl r, fun H α M i r m t ho hx => ?_⟩
  · obtain ⟨b, vs, e, q, rp⟩ := rd_tuple r
    cases e
    obtain ⟨v, hv, rv⟩ := rp.get hx
    refine ⟨⟨vs, v, q, hv⟩, fun w H' ⟨e1, e2⟩ => ?_⟩
    subst e1
    have := e2 vs q
    rw [hv] at this; cases this
    exact ⟨Nx.refl m t, rv⟩
  · obtain ⟨b, vs, e, q, rp⟩ := rd_tuple r
    cases e
    exact ⟨vs, q, by rw [← rp.length]; exact hx⟩
theorem it_rng {K : PySem.W.Frag} (lo : Int) (n : Nat) : ItOk K (Itr lo n) ⟨rangeP lo n, [], true⟩ fun _ _ => True := by
  refine ⟨fun _ _ _ _ _ _ _ _ _ => trivial, fun H α M i x _ m t _ hx => ?_, fun _ _ _ _ _ _ _ _ _ _ _ => trivial, fun H α M i _ m t _ hx => ?_⟩
  · have hx : (rangeP lo n)[i]? = some x := hx
    rw [rangeP_eq] at hx
    rw [List.getElem?_map] at hx
    obtain ⟨k, e1, e2⟩ := Option.map_eq_some_iff.mp hx
    obtain ⟨h1, h2⟩ := List.getElem?_eq_some_iff.mp e1
    rw [List.getElem_range] at h2
    rw [List.length_range] at h1
    subst h2
    refine ⟨h1, fun w H' ⟨e3, e4⟩ => ?_⟩
    subst e3
    refine ⟨Nx.refl m t, ?_⟩
    rw [← e2, e4]
    rfl
  · show n ≤ i
    have hx : (rangeP lo n).length ≤ i := hx
    rw [rangeP_eq] at hx
    simpa using hx
theorem enumP_get : ∀ (xs : List P) (k i : Nat), (enumP k xs)[i]? = (xs[i]?).map fun x => P.tup [.int ((k + i : Nat) : Int), x]
  | [], k, i => by simp [enumP]
  | x :: xs, k, 0 => by simp [enumP]
  | x :: xs, k, i + 1 => by
    have := enumP_get xs (k + 1) i
    simp only [enumP, List.getElem?_cons_succ, this]
    rw [show k + 1 + i = k + (i + 1) from by omega]
theorem enumP_len : ∀ (xs : List P) (k : Nat), (enumP k xs).length = xs.length
  | [], _ => rfl
  | x :: xs, k => by simp [enumP, enumP_len xs]
theorem rp_pair {K : PySem.W.Frag} {H : Hp} {α : List Addr} {x y : P} {v w : V} {p : Addr} (h : H p = none) (rx : RP K H α x v) (ry : RP K H α y w) : RP K (upd H p (.tup [v, w])) α (.tup [x, y]) (.ref p) := by
  unfold RP
  refine ⟨p, _, rfl, .inl (.inl (upd_same ..)), ?_⟩
  have g := fun (z : P) (u : V) (r : RP K H α z u) => RP.grow (α := []) (fun b hb => by simp at hb) (grow_new (o := .tup [v, w]) h) (Pre.refl _) z u r
  unfold RPs
  refine ⟨g _ _ rx, ?_⟩
  unfold RPs
  refine ⟨g _ _ ry, ?_⟩
  unfold RPs
  trivial
theorem it_enm {K : PySem.W.Frag} {M0 : Mem} {d : D} {s : Src} {a : Addr} (h : asSrc M0 d = some s) (hn : ∀ l, d ≠ .p (.tup l)) : ItOk K (Ite K a) ⟨enumP 0 s.xs, s.ls, s.fr⟩ fun H α => RD K H α d (.ref a) := by
  refine ⟨fun H α M H' α' M' r m n => n.rd m r, fun H α M i x r m t ho hx => ?_, fun hf H α M D acc zs r m e _ => rd_own e (asSrc_nos h hf) r, fun H α M i r m t ho hx => ?_⟩
  · obtain ⟨b, vs, e, q, rp⟩ := itemsL_rd m r (asSrc_list h hn (show s.ok M = true from ho))
    cases e
    have hx : (enumP 0 s.xs)[i]? = some x := hx
    rw [enumP_get] at hx
    obtain ⟨y, e1, e2⟩ := Option.map_eq_some_iff.mp hx
    obtain ⟨v, hv, rv⟩ := rp.get e1
    refine ⟨⟨vs, v, q, hv⟩, fun w H' ⟨T, z, e3, e4, e5, e6⟩ => ?_⟩
    have := e6 vs q
    rw [hv] at this; cases this
    subst e5; subst e3
    refine ⟨Nx.new m t e4 (fun ps z => by cases z), ?_⟩
    rw [← e2, Nat.zero_add]
    exact rp_pair e4 (by unfold RP; rfl) rv
  · obtain ⟨b, vs, e, q, rp⟩ := itemsL_rd m r (asSrc_list h hn (show s.ok M = true from ho))
    cases e
    have hx : (enumP 0 s.xs).length ≤ i := hx
    rw [enumP_len] at hx
    exact ⟨vs, q, by rw [← rp.length]; exact hx⟩
theorem it_enmT {K : PySem.W.Frag} {l : List P} {a : Addr} : ItOk K (E1.IteT K a) ⟨enumP 0 l, [], true⟩ fun H α => RD K H α (.p (.tup l)) (.ref a) := by
  refine ⟨fun H α M H' α' M' r m n => n.rd m r, fun H α M i x r m t ho hx => ?_, fun hf H α M D acc zs r m e _ => rd_own e rfl r, fun H α M i r m t ho hx => ?_⟩
  · obtain ⟨b, vs, e, q, rp⟩ := rd_tuple r
    cases e
    have hx : (enumP 0 l)[i]? = some x := hx
    rw [enumP_get] at hx
    obtain ⟨y, e1, e2⟩ := Option.map_eq_some_iff.mp hx
    obtain ⟨v, hv, rv⟩ := rp.get e1
    refine ⟨⟨vs, v, q, hv⟩, fun w H' ⟨T, z, e3, e4, e5, e6⟩ => ?_⟩
    have := e6 vs q
    rw [hv] at this; cases this
    subst e5; subst e3
    refine ⟨Nx.new m t e4 (fun ps z => by cases z), ?_⟩
    rw [← e2, Nat.zero_add]
    exact rp_pair e4 (by unfold RP; rfl) rv
  · obtain ⟨b, vs, e, q, rp⟩ := rd_tuple r
    cases e
    have hx : (enumP 0 l).length ≤ i := hx
    rw [enumP_len] at hx
    exact ⟨vs, q, by rw [← rp.length]; exact hx⟩
theorem zipP_get : ∀ (xs ys : List P) (i : Nat), (zipP xs ys)[i]? = (xs[i]?).bind fun x => (ys[i]?).map fun y => P.tup [x, y]
  | [], _, i => by simp [zipP]
  | x :: xs, [], i => by simp [zipP]
  | x :: xs, y :: ys, 0 => by simp [zipP]
  | x :: xs, y :: ys, i + 1 => by simp [zipP, zipP_get xs ys i]
theorem zipP_len : ∀ (xs ys : List P), (zipP xs ys).length = min xs.length ys.length
  | [], _ => by simp [zipP]
  | x :: xs, [] => by simp [zipP]
  | x :: xs, y :: ys => by simp [zipP, zipP_len xs ys]
theorem ok_app {s t : Src} {M : Mem} {xs : List P} {b : Bool} : (Src.mk xs (s.ls ++ t.ls) b).ok M = (s.ok M && t.ok M) := by
  simp [Src.ok]
theorem it_zip {K : PySem.W.Frag} {M0 : Mem} {d e : D} {s t : Src} {a b : Addr} (h : asSrc M0 d = some s) (h' : asSrc M0 e = some t) (hn : ∀ l, d ≠ .p (.tup l)) (hn' : ∀ l, e ≠ .p (.tup l)) :
    ItOk K (Itz K a b) ⟨zipP s.xs t.xs, s.ls ++ t.ls, s.fr && t.fr⟩ fun H α => RD K H α d (.ref a) ∧ RD K H α e (.ref b) := by
  refine ⟨fun H α M H' α' M' r m n => ⟨n.rd m r.1, n.rd m r.2⟩, fun H α M i x r m tt ho hx => ?_, fun hf H α M D acc zs r m e _ => ?_, fun H α M i r m tt ho hx => ?_⟩
  rotate_left
  · have hf : (s.fr && t.fr) = true := hf
    rw [Bool.and_eq_true] at hf
    exact ⟨rd_own e (asSrc_nos h hf.1) r.1, rd_own e (asSrc_nos h' hf.2) r.2⟩
  rotate_left
  · rw [ok_app, Bool.and_eq_true] at ho
    obtain ⟨_, vs, e1, q1, rp1⟩ := itemsL_rd m r.1 (asSrc_list h hn ho.1)
    obtain ⟨_, us, e2, q2, rp2⟩ := itemsL_rd m r.2 (asSrc_list h' hn' ho.2)
    cases e1; cases e2
    have hx : (zipP s.xs t.xs)[i]? = some x := hx
    rw [zipP_get] at hx
    obtain ⟨x1, f1, hx⟩ := Option.bind_eq_some_iff.mp hx
    obtain ⟨y1, f2, rfl⟩ := Option.map_eq_some_iff.mp hx
    obtain ⟨v, hv, rv⟩ := rp1.get f1
    obtain ⟨u, hu, ru⟩ := rp2.get f2
    refine ⟨⟨vs, us, v, u, q1, q2, hv, hu⟩, fun w H' ⟨T, z, z', e3, e4, e5, e6, e7⟩ => ?_⟩
    have g1 := e6 vs q1
    have g2 := e7 us q2
    rw [hv] at g1; cases g1
    rw [hu] at g2; cases g2
    subst e5; subst e3
    exact ⟨Nx.new m tt e4 (fun ps z => by cases z), rp_pair e4 rv ru⟩
  · rw [ok_app, Bool.and_eq_true] at ho
    obtain ⟨_, vs, e1, q1, rp1⟩ := itemsL_rd m r.1 (asSrc_list h hn ho.1)
    obtain ⟨_, us, e2, q2, rp2⟩ := itemsL_rd m r.2 (asSrc_list h' hn' ho.2)
    cases e1; cases e2
    have hx : (zipP s.xs t.xs).length ≤ i := hx
    rw [zipP_len, rp1.length, rp2.length] at hx
    exact ⟨vs, us, q1, q2, by omega⟩
theorem it_zipT {K : PySem.W.Frag} {xs ys : List P} {a b : Addr} :
    ItOk K (ItzT K a b) ⟨zipP xs ys, [], true⟩ fun H α => RD K H α (.p (.tup xs)) (.ref a) ∧ RD K H α (.p (.tup ys)) (.ref b) := by
  refine ⟨fun H α M H' α' M' r m n => ⟨n.rd m r.1, n.rd m r.2⟩, fun H α M i x r m tt ho hx => ?_, fun hf H α M D acc zs r m e _ => ⟨rd_own e rfl r.1, rd_own e rfl r.2⟩, fun H α M i r m tt ho hx => ?_⟩
  · obtain ⟨_, vs, e1, q1, rp1⟩ := rd_tuple r.1
    obtain ⟨_, us, e2, q2, rp2⟩ := rd_tuple r.2
    cases e1; cases e2
    have hx : (zipP xs ys)[i]? = some x := hx
    rw [zipP_get] at hx
    obtain ⟨x1, f1, hx⟩ := Option.bind_eq_some_iff.mp hx
    obtain ⟨y1, f2, rfl⟩ := Option.map_eq_some_iff.mp hx
    obtain ⟨v, hv, rv⟩ := rp1.get f1
    obtain ⟨u, hu, ru⟩ := rp2.get f2
    refine ⟨⟨vs, us, v, u, q1, q2, hv, hu⟩, fun w H' ⟨T, z, z', e3, e4, e5, e6, e7⟩ => ?_⟩
    have g1 := e6 vs q1
    have g2 := e7 us q2
    rw [hv] at g1; cases g1
    rw [hu] at g2; cases g2
    subst e5; subst e3
    exact ⟨Nx.new m tt e4 (fun ps z => by cases z), rp_pair e4 rv ru⟩
  · obtain ⟨_, vs, e1, q1, rp1⟩ := rd_tuple r.1
    obtain ⟨_, us, e2, q2, rp2⟩ := rd_tuple r.2
    cases e1; cases e2
    have hx : (zipP xs ys).length ≤ i := hx
    rw [zipP_len, rp1.length, rp2.length] at hx
    exact ⟨vs, us, q1, q2, by omega⟩
section
variable {X : Cx} {tg e e2 : Expr} {pos p : Pos} {fa : Env → Mem → Option (D × Mem)} {fs : Env → Mem → Option (List D × Mem)}
def one1 (fa : Env → Mem → Option (D × Mem)) : Env → Mem → Option (List D × Mem) := fun ρ M => do
  let (x, M) ← fa ρ M
  let (xs, M) ← some ([], M)
  some (x :: xs, M)
theorem one1_ok {ρ : Env} {M M' : Mem} {ds : List D} (h : one1 fa ρ M = some (ds, M')) : ∃ d, ds = [d] ∧ fa ρ M = some (d, M') := by
  obtain ⟨⟨d, M1⟩, e1, h⟩ := ob h
  cases h
  exact ⟨d, rfl, e1⟩
theorem i_seq (he : PE X e (tI X fa)) : PI X tg e (iS X .seq (one1 fa)) := by
  refine ⟨fun pins s0 σ H R I h => ?_⟩
  obtain ⟨ρ, M, α, ds, s, M', r, e1, e2, q⟩ := h
  obtain ⟨d, rfl, e3⟩ := one1_ok e1
  have e2 : asSrc M' d = some s := e2
  have ho := (asSrc_ok e2).1
  by_cases hd : ∃ l, d = .p (.tup l)
  · obtain ⟨l, rfl⟩ := hd
    cases e2
    refine (pi_tup he).run pins s0 σ H R I (tI.use r e3 fun v H' α' n rd r1 => ?_)
    obtain ⟨a, vs, rfl, s, rp⟩ := rd_tuple rd
    exact ⟨a, rfl, ⟨vs, s⟩, q _ H' α' _ n it_tup rd ho⟩
  · have hn : ∀ l, d ≠ .p (.tup l) := fun l z => hd ⟨l, z⟩
    refine (pi_list he).run pins s0 σ H R I (tI.use r e3 fun v H' α' n rd r1 => ?_)
    obtain ⟨a, vs, rfl, s, rp⟩ := itemsL_rd r1.mem rd (asSrc_list e2 hn ho)
    exact ⟨a, rfl, ⟨vs, s⟩, q _ H' α' _ n (it_list e2 hn) rd ho⟩
theorem small_ok {i : Int} (h : small i = true) : -(2 ^ 62) ≤ i ∧ i < 2 ^ 62 := by
  unfold small at h
  simpa only [Bool.and_eq_true, decide_eq_true_eq] using h
theorem i_rng1 (hg : Gl X "range") (hm : X.mg "range" = none) (ha : PA X [e] (tIA X fs)) (hs : starEach [e] X.env = [(false, eval e X.env)]) (h1 : ∀ ρ M ds M', fs ρ M = some (ds, M') → ds.length = 1) :
    PI X tg (.Call (.Name "range" p) [e] [] pos) (iS X .rng fs) := by
  refine ⟨fun pins s0 σ H R I h => ?_⟩
  obtain ⟨ρ, M, α, ds, s, M', r, e1, e2, q⟩ := h
  have hl := h1 _ _ _ _ e1
  match ds, hl with
  | [d], _ =>
    cases d with
    | p x =>
      cases x with
      | int n =>
        have e2 : (if small n then some (Src.mk (rangeP 0 n.toNat) [] true) else none) = some s := e2
        split at e2 <;> try contradiction
        rename_i hn
        cases e2
        refine (pi_range1 hg hm ha hs).run pins s0 σ H R I (tIA.use r e1 fun vs H' α' n' rd r1 => ?_)
        obtain ⟨v, rfl, rv⟩ := rds1 rd
        exact ⟨n, by rw [rd_int rv], (small_ok hn).1, (small_ok hn).2, q _ H' α' _ n' (it_rng 0 _) trivial rfl⟩
      | _ => cases e2
    | scr xs => cases e2
theorem i_rng2 (hg : Gl X "range") (hm : X.mg "range" = none) (ha : PA X [e, e2] (tIA X fs)) (hs : starEach [e, e2] X.env = [(false, eval e X.env), (false, eval e2 X.env)]) (hs2 : starEach [e2] X.env = [(false, eval e2 X.env)])
    (h1 : ∀ ρ M ds M', fs ρ M = some (ds, M') → ds.length = 2) : PI X tg (.Call (.Name "range" p) [e, e2] [] pos) (iS X .rng fs) := by
  refine ⟨fun pins s0 σ H R I h => ?_⟩
  obtain ⟨ρ, M, α, ds, s, M', r, e1, e2, q⟩ := h
  have hl := h1 _ _ _ _ e1
  match ds, hl with
  | [d, d'], _ =>
    unfold src at e2
    split at e2 <;> try contradiction
    all_goals (rename_i hh; cases hh)
    split at e2 <;> try contradiction
    rename_i a b hn
    cases e2
    rw [Bool.and_eq_true] at hn
    refine (pi_range2 hg hm ha hs hs2).run pins s0 σ H R I (tIA.use r e1 fun vs H' α' n' rd r1 => ?_)
    obtain ⟨v, w, rfl, rv, rw_⟩ := rds2 rd
    exact ⟨_, _, by rw [rd_int rv, rd_int rw_], ⟨(small_ok hn.1).1, (small_ok hn.1).2, (small_ok hn.2).1, (small_ok hn.2).2⟩, q _ H' α' _ n' (it_rng _ _) trivial rfl⟩
theorem i_enm {elts : List Expr} {kk : Nat} {tpos : Pos} (hg : Gl X "enumerate") (hm : X.mg "enumerate" = none) (ha : PA X [e] (tIA X fs)) (hs : starEach [e] X.env = [(false, eval e X.env)]) (h1 : ∀ ρ M ds M', fs ρ M = some (ds, M') → ds.length = 1) :
    PI X (.Tuple elts kk tpos) (.Call (.Name "enumerate" p) [e] [] pos) (iS X .enm fs) := by
  refine ⟨fun pins s0 σ H R I h => ?_⟩
  obtain ⟨ρ, M, α, ds, s, M', r, e1, e2, q⟩ := h
  have hl := h1 _ _ _ _ e1
  match ds, hl with
  | [d], _ =>
    by_cases ht : ∃ l, d = .p (.tup l)
    · obtain ⟨l, rfl⟩ := ht
      have e2 : some (Src.mk (enumP 0 l) [] true) = some s := e2
      cases e2
      refine (E1.pi_enumT hg hm ha hs).run pins s0 σ H R I (tIA.use r e1 fun vs H' α' n' rd r1 => ?_)
      obtain ⟨v, rfl, rv⟩ := rds1 rd
      obtain ⟨a, us, rfl, sq, rp⟩ := rd_tuple rv
      exact ⟨a, us, rfl, sq, q _ H' α' _ n' it_enmT rv rfl⟩
    have hn : ∀ l, d ≠ .p (.tup l) := fun l z => ht ⟨l, z⟩
    have e2 : (asSrc M' d).map (fun s => (⟨enumP 0 s.xs, s.ls, s.fr⟩ : Src)) = some s := by
      cases d with
      | p x => cases x with
        | tup l => exact absurd rfl (hn l)
        | _ => exact e2
      | _ => exact e2
    obtain ⟨s', e3, rfl⟩ := Option.map_eq_some_iff.mp e2
    have ho := (asSrc_ok e3).1
    refine (pi_enum hg hm ha hs).run pins s0 σ H R I (tIA.use r e1 fun vs H' α' n' rd r1 => ?_)
    obtain ⟨v, rfl, rv⟩ := rds1 rd
    obtain ⟨a, us, rfl, sq, rp⟩ := itemsL_rd r1.mem rv (asSrc_list e3 hn ho)
    exact ⟨a, us, rfl, sq, q _ H' α' _ n' (it_enm e3 hn) rv ho⟩
theorem i_zip {elts : List Expr} {kk : Nat} {tpos : Pos} (hg : Gl X "zip") (hm : X.mg "zip" = none) (ha : PA X [e, e2] (tIA X fs)) (hs : starEach [e, e2] X.env = (false, eval e X.env) :: starEach [e2] X.env) (hpl : (backTo pos (starEach [e2] X.env)).any (·.1) = false)
    (h1 : ∀ ρ M ds M', fs ρ M = some (ds, M') → ds.length = 2) : PI X (.Tuple elts kk tpos) (.Call (.Name "zip" p) [e, e2] [] pos) (iS X .zip fs) := by
  refine ⟨fun pins s0 σ H R I h => ?_⟩
  obtain ⟨ρ, M, α, ds, s, M', r, e1, e2, q⟩ := h
  have hl := h1 _ _ _ _ e1
  match ds, hl with
  | [d, d'], _ =>
    unfold src at e2
    split at e2 <;> try contradiction
    · rename_i hh; cases hh
      cases e2
      refine (pi_zipA hg hm ha hs hpl).run pins s0 σ H R I (tIA.use r e1 fun vs H' α' n' rd r1 => ?_)
      obtain ⟨v, w, rfl, rv, rw_⟩ := rds2 rd
      obtain ⟨a, us, rfl, sq, rp⟩ := rd_tuple rv
      obtain ⟨b, us', rfl, sq', rp'⟩ := rd_tuple rw_
      exact ⟨a, b, us, us', rfl, .inr ⟨sq, sq', q _ H' α' _ n' it_zipT ⟨rv, rw_⟩ rfl⟩⟩
    · rename_i hh; cases hh
      split at e2 <;> try contradiction
      rename_i hn
      obtain ⟨s1, e3, e2⟩ := ob e2
      obtain ⟨s2, e4, e2⟩ := ob e2
      cases e2
      have hn1 : ∀ l, d ≠ .p (.tup l) := fun l z => by subst z; exact absurd hn (by simp [isTup])
      have hn2 : ∀ l, d' ≠ .p (.tup l) := fun l z => by subst z; exact absurd hn (by simp [isTup])
      have ho1 := (asSrc_ok e3).1
      have ho2 := (asSrc_ok e4).1
      refine (pi_zipA hg hm ha hs hpl).run pins s0 σ H R I (tIA.use r e1 fun vs H' α' n' rd r1 => ?_)
      obtain ⟨v, w, rfl, rv, rw_⟩ := rds2 rd
      obtain ⟨a, us, rfl, sq, rp⟩ := itemsL_rd r1.mem rv (asSrc_list e3 hn1 ho1)
      obtain ⟨b, us', rfl, sq', rp'⟩ := itemsL_rd r1.mem rw_ (asSrc_list e4 hn2 ho2)
      exact ⟨a, b, us, us', rfl, .inl ⟨sq, sq', q _ H' α' _ n' (it_zip e3 e4 hn1 hn2) ⟨rv, rw_⟩ (by rw [ok_app, ho1, ho2]; rfl)⟩⟩
/-- for -/
theorem s_for {iter : Expr} {body : List Stmt} {k : IK} {t : T} {f : Env → Mem → Option Out} (hp : PassesOwn (model X.prog X.w) X.A X.env X.xe) (hc : X.calm = true) (hi : PI X tg iter (iS X k fs)) (hg : PG X tg (tGp X t)) (hb : PSs X body (tS X f)) (hs : ∀ x, foldedSetIterable iter X.env x = pure x) :
    PS X (.For tg iter body [] pos) (tS X fun ρ M => do
      let (ds, M) ← fs ρ M
      let s ← src k ds M
      forL s (fun x ρ M => (t.put x ρ).bind fun ρ' => f ρ' M) s.xs ρ M) := (ps_for hp hc hi hg hb hs).weak fun D σ H h => by
  obtain ⟨ρ, M, α, o, r, e, q⟩ := h
  obtain ⟨⟨ds, M1⟩, e1, e⟩ := ob e
  obtain ⟨s, e2, e⟩ := ob e
  refine ⟨ρ, M, α, ds, s, M1, r, e1, e2, fun J H1 α1 In n1 it hIn ho => ?_⟩
  have r1 := r.step n1
  refine ⟨fun i m σ2 H2 => ∃ ρ2 M2 α2, RS X σ2 H2 ρ2 M2 α2 ∧ Nx X.K α H α2 H2 M2 ∧ In H2 α2 ∧ s.ok M2 = true ∧ m = (s.xs.drop i).length ∧ forL s (fun x ρ M => (t.put x ρ).bind fun ρ' => f ρ' M) (s.xs.drop i) ρ2 M2 = some o,
    ⟨_, ρ, M1, α1, r1, n1, hIn, ho, rfl, e⟩, ?_⟩
  rintro i m σ2 H2 ⟨ρ2, M2, α2, r2, n2, hIn2, ho2, hm, e⟩
  cases hx : s.xs[i]? with
  | none =>
    rw [List.getElem?_eq_none_iff] at hx
    rw [List.drop_eq_nil_of_le hx] at e
    cases e
    exact .inl ⟨it.fin H2 α2 M2 i hIn2 r2.mem r2.tab ho2 hx, q σ2 H2 α2 n2 r2.env⟩
  | some x =>
    obtain ⟨go, yl⟩ := it.atI H2 α2 M2 i x hIn2 r2.mem r2.tab ho2 hx
    obtain ⟨hlt, hxe⟩ := List.getElem?_eq_some_iff.mp hx
    rw [List.drop_eq_getElem_cons hlt, hxe] at e hm
    obtain ⟨o1, e3, e⟩ := ob (show (do
      match ← (t.put x ρ2).bind fun ρ' => f ρ' M2 with
      | .nx ρ M => if s.ok M then forL s (fun x ρ M => (t.put x ρ).bind fun ρ' => f ρ' M) (s.xs.drop (i + 1)) ρ M else none
      | .ct ρ M => if s.ok M then forL s (fun x ρ M => (t.put x ρ).bind fun ρ' => f ρ' M) (s.xs.drop (i + 1)) ρ M else none
      | .bk ρ M => some (.nx ρ M)
      | .rt d M => some (.rt d M)) = some o from e)
    obtain ⟨ρ3, e4, e5⟩ := Option.bind_eq_some_iff.mp e3
    refine .inr ⟨go, fun σ' H' => ∃ ρ2 M2 α2, RS X σ' H' ρ2 M2 α2 ∧ Nx X.K α H α2 H' M2 ∧ In H' α2 ∧ s.ok M2 = true ∧ forL s (fun x ρ M => (t.put x ρ).bind fun ρ' => f ρ' M) (s.xs.drop (i + 1)) ρ2 M2 = some o,
      fun σ' H' ⟨a1, a2, a3, a4, a5, a6, a7, a8⟩ => ⟨_, by rw [hm, List.length_cons]; exact Nat.lt_succ_self _, a1, a2, a3, a4, a5, a6, a7, rfl, a8⟩, fun v H' hy => ?_⟩
    obtain ⟨n3, rv⟩ := yl v H' hy
    have r3 := r2.step n3
    have hIn3 := it.step _ _ _ _ _ _ hIn2 r2.mem n3
    have n23 := n2.trans r.mem n3
    refine ⟨ρ2, M2, α2, x, ρ3, r3, rv, e4, fun σ3 re3 _ => ?_⟩
    refine ⟨ρ3, M2, α2, o1, r3.with re3, e5, ?_⟩
    cases o1 with
    | nx ρ4 M4 =>
      dsimp only at e
      split at e <;> try contradiction
      rename_i h4
      exact fun σ' H4 α4 n4 re => ⟨ρ4, M4, α4, (r3.step n4).with re, n23.trans r.mem n4, it.step _ _ _ _ _ _ hIn3 r3.mem n4, h4, e⟩
    | ct ρ4 M4 =>
      dsimp only at e
      split at e <;> try contradiction
      rename_i h4
      exact fun σ' H4 α4 n4 re => ⟨ρ4, M4, α4, (r3.step n4).with re, n23.trans r.mem n4, it.step _ _ _ _ _ _ hIn3 r3.mem n4, h4, e⟩
    | bk ρ4 M4 => cases e; exact fun σ' H4 α4 n4 re => q σ' H4 α4 (n23.trans r.mem n4) re
    | rt d M4 => cases e; exact fun v H4 α4 n4 rd => q v H4 α4 (n23.trans r.mem n4) rd
end
end IX
end

section
set_option Elab.async false
set_option autoImplicit false
set_option linter.all false
set_option maxRecDepth 100000
set_option maxHeartbeats 4000000
/-! List comprehensions. -/
namespace IX
open PySem PySem.Spec PyProof.Rows L2 GX
section
variable {X : Cx} {fs fs1 : Env → Mem → Option (List D × Mem)} {fi fi1 : Env → Mem → Option (Bool × Mem)} {fe : Env → Mem → Option (D × Mem)} {k k1 : IK} {t t1 : T} {vs vs1 : List Nat}
def lcT (t : T) (vs : List Nat) (fi : Env → Mem → Option (Bool × Mem)) (fe : Env → Mem → Option (D × Mem)) (ρ : Env) : P → Mem → Option (List P × Mem) := fun x M => do
  let ρ' ← t.put x (wipeE ρ vs)
  let (b, M) ← fi ρ' M
  if b then do
    let (y, M) ← fe ρ' M
    match y with
    | .p r => some ([r], M)
    | _ => none
  else some ([], M)
def lcF (vs : List Nat) (t : T) (k : IK) (fs : Env → Mem → Option (List D × Mem)) (fi : Env → Mem → Option (Bool × Mem)) (fe : Env → Mem → Option (D × Mem)) : Env → Mem → Option (D × Mem) := fun ρ M => do
  let (ds, M) ← fs ρ M
  let s ← src k ds M
  let (ys, M) ← turns s (lcT t vs fi fe ρ) s.xs M
  newl ys M
def lc2T (t : T) (vs : List Nat) (fi : Env → Mem → Option (Bool × Mem)) (fs1 : Env → Mem → Option (List D × Mem)) (k1 : IK) (t1 : T) (vs1 : List Nat) (fi1 : Env → Mem → Option (Bool × Mem)) (fe : Env → Mem → Option (D × Mem)) (ρ : Env) : P → Mem → Option (List P × Mem) := fun x M => do
  let ρ' ← t.put x (wipeE ρ vs)
  let (b, M) ← fi ρ' M
  if b then do
    let (ds1, M) ← fs1 ρ' M
    let s1 ← src k1 ds1 M
    if noScr ρ' && s1.fr then turns s1 (lcT t1 vs1 fi1 fe ρ') s1.xs M else none
  else some ([], M)
def lc2F (vs : List Nat) (t : T) (k : IK) (fs : Env → Mem → Option (List D × Mem)) (fi : Env → Mem → Option (Bool × Mem)) (fs1 : Env → Mem → Option (List D × Mem)) (k1 : IK) (t1 : T) (vs1 : List Nat) (fi1 : Env → Mem → Option (Bool × Mem)) (fe : Env → Mem → Option (D × Mem)) : Env → Mem → Option (D × Mem) := fun ρ M => do
  let (ds, M) ← fs ρ M
  let s ← src k ds M
  let (ys, M) ← turns s (lc2T t vs fi fs1 k1 t1 vs1 fi1 fe ρ) s.xs M
  newl ys M
theorem turns_cons {s : Src} {F : P → Mem → Option (List P × Mem)} {x : P} {r : List P} {M Mf : Mem} {zs : List P} (h : turns s F (x :: r) M = some (zs, Mf)) : ∃ o M1 zs1, F x M = some (o, M1) ∧ s.ok M1 = true ∧ turns s F r M1 = some (zs1, Mf) ∧ zs = o ++ zs1 := by
  obtain ⟨⟨o, M1⟩, e1, h⟩ := ob (show (do
    let (o, M) ← F x M
    if s.ok M then do
      let (ys, M) ← turns s F r M
      some (o ++ ys, M)
    else none) = some (zs, Mf) from h)
  dsimp only at h
  split at h <;> try contradiction
  rename_i ho
  obtain ⟨⟨ys, M2⟩, e2, h⟩ := ob h
  cases h
  exact ⟨o, M1, ys, e1, ho, e2, rfl⟩
/-- the state of a comprehension's loop: the new list stands at c -/
structure LcW (X : Cx) (s : Src) (F : P → Mem → Option (List P × Mem)) (all : List P) (Mf : Mem) (In : Hp → List Addr → Prop) (α1 : List Addr) (H1 : Hp) (c : Addr) (i : Nat) (H : Hp) (M : Mem) (α : List Addr) (acc : List V) (ys zs : List P) : Prop where
  nx : Nx X.K α1 H1 α H M
  nin : c ∉ α
  cell : H c = some (.lst acc)
  rp : RPs X.K H α ys acc
  ok : s.ok M = true
  inn : In H α
  run : turns s F (s.xs.drop i) M = some (zs, Mf)
  tot : ys ++ zs = all
theorem lc_of (hs : ∀ i ∈ t.slots, i ∈ vs) {σ : L2.St} {H : Hp} {Q : VK} (h : tI X (lcF vs t k fs fi fe) σ H Q) : tLc (iS X k fs) (tGp X t) (tIT X fi) (tI X fe) vs σ H Q := by
  obtain ⟨ρ, M, α, d, M', r, e, q⟩ := h
  obtain ⟨⟨ds, M1⟩, e1, e⟩ := ob e
  obtain ⟨s, e2, e⟩ := ob e
  obtain ⟨⟨all, Mf⟩, e3, e⟩ := ob e
  obtain ⟨hl, rfl, rfl⟩ := newl_some e
  refine ⟨ρ, M, α, ds, s, M1, r, e1, e2, fun J H1 α1 In n1 it hIn ho c hc => ?_⟩
  have r1 := r.step n1
  have n0 : Nx X.K α1 H1 α1 (upd H1 c (.lst [])) M1 := Nx.new r1.mem r1.tab hc fun ps z => by cases z
  refine ⟨fun i m H => ∃ M α acc ys zs, LcW X s (lcT t vs fi fe ρ) all Mf In α1 H1 c i H M α acc ys zs ∧ m = (s.xs.drop i).length,
    ⟨_, M1, α1, [], [], all, ⟨n0, fun z => ?_, upd_same .., by unfold RPs; trivial, ho, it.step _ _ _ _ _ _ hIn r1.mem n0, e3, rfl⟩, rfl⟩, ?_⟩
  · obtain ⟨ws, e⟩ := r1.mem.lst z
    rw [hc] at e; cases e
  rintro i m H2 ⟨M2, α2, acc, ys, zs, w, hm⟩
  cases hx : s.xs[i]? with
  | none =>
    rw [List.getElem?_eq_none_iff] at hx
    have hr := w.run
    rw [List.drop_eq_nil_of_le hx] at hr
    cases hr
    have ht := w.tot
    rw [List.append_nil] at ht
    subst ht
    refine .inl ⟨it.fin H2 α2 _ i w.inn w.nx.mem w.nx.tab w.ok hx, ?_⟩
    have n := n1.trans r.mem (w.nx.adopt hc w.nin w.cell w.rp)
    refine q _ H2 _ n ⟨c, ?_, rfl⟩
    rw [← w.nx.mem.len, List.getElem?_append_right (Nat.le_refl _)]
    simp
  | some x =>
    obtain ⟨go, yl⟩ := it.atI H2 α2 M2 i x w.inn w.nx.mem w.nx.tab w.ok hx
    obtain ⟨hlt, hxe⟩ := List.getElem?_eq_some_iff.mp hx
    have hr := w.run
    rw [List.drop_eq_getElem_cons hlt, hxe] at hr hm
    obtain ⟨o, M3, zs1, f1, ho3, hr2, rfl⟩ := turns_cons hr
    obtain ⟨ρ', f2, f1⟩ := ob f1
    obtain ⟨⟨b, M4⟩, f3, f1⟩ := ob f1
    refine .inr ⟨go, fun H => ∃ M α acc ys zs, LcW X s (lcT t vs fi fe ρ) all Mf In α1 H1 c (i + 1) H M α acc ys zs,
      fun H' ⟨a1, a2, a3, a4, a5, a6⟩ => ⟨_, by rw [hm, List.length_cons]; exact Nat.lt_succ_self _, a1, a2, a3, a4, a5, a6, rfl⟩, fun v H' hy => ?_⟩
    obtain ⟨n3, rv⟩ := yl v H' hy
    have nn := w.nx.trans r1.mem n3
    have env : REnv X.K H' α2 (wipeE ρ vs) (L2.wipe σ vs) := (nn.env r1.mem r1.env).wipe vs
    have r3 : RS X (L2.wipe σ vs) H' (wipeE ρ vs) M2 α2 := ⟨env, nn.mem, nn.tab, r1.code.grow nn.grow fun b hb => r1.mem.lst hb, r1.trk.grow nn.grow fun b hb => r1.mem.lst hb⟩
    refine ⟨_, M2, α2, x, ρ', r3, rv, f2, fun σ3 re3 sm => ⟨sm.wipe hs, ?_⟩⟩
    have r4 := r3.with re3
    have c3 := n3.keepD w.nx.mem w.nin w.cell
    refine tIT.use r4 f3 fun H4 α4 n4 r5 => ?_
    have nn4 := nn.trans r1.mem n4
    have c4 := n4.keepD r4.mem w.nin c3
    have i4 := n4.notin w.nin c3
    have rp4 := n4.rps r4.mem (n3.rps w.nx.mem w.rp)
    have in4 := it.step _ _ _ _ _ _ (it.step _ _ _ _ _ _ w.inn w.nx.mem n3) r4.mem n4
    cases b with
    | false =>
      cases f1
      exact ⟨M3, α4, acc, ys, zs1, ⟨nn4, i4, c4, rp4, ho3, in4, hr2, by simpa using w.tot⟩⟩
    | true =>
      obtain ⟨⟨y, M5⟩, f4, f1⟩ := ob f1
      obtain ⟨ry, rfl, rfl, rfl⟩ : ∃ ry, y = .p ry ∧ o = [ry] ∧ M3 = M5 := by
        cases y with
        | p ry => cases f1; exact ⟨ry, rfl, rfl, rfl⟩
        | scr _ => cases f1
      refine tI.use r5 f4 fun u H5 α5 n5 d5 r6 => ?_
      have c5 := n5.keepD r5.mem i4 c4
      have i5 := n5.notin i4 c4
      have rp5 := n5.rps r5.mem rp4
      have hlen : acc.length < sizeLine := by
        have := w.tot
        have h2 := congrArg List.length this
        simp only [List.length_append, List.length_cons] at h2
        have h3 := w.rp.length
        omega
      have nn5 := nn4.trans r1.mem n5
      refine ⟨acc, c5, hlen, M3, α5, acc ++ [u], ys ++ [ry], zs1, ⟨nn5.own hc i5 c5, i5, upd_same .., ?_, ho3, ?_, hr2, by simpa using w.tot⟩⟩
      · refine RPs.grow (na_own c5) grow_own (Pre.refl _) _ _ (rp5.append ?_)
        show RPs _ _ _ [_] [_]
        unfold RPs
        exact ⟨d5, by unfold RPs; trivial⟩
      · have := nn5.own (zs := acc ++ [u]) hc i5 c5
        exact it.step _ _ _ _ _ _ hIn r1.mem this
end
section
variable {X : Cx} {fs fs1 : Env → Mem → Option (List D × Mem)} {fi fi1 : Env → Mem → Option (Bool × Mem)} {fe : Env → Mem → Option (D × Mem)} {k k1 : IK} {t t1 : T} {vs vs1 : List Nat}
/-- the inner loop's state -/
structure LcV (X : Cx) (s1 : Src) (F : P → Mem → Option (List P × Mem)) (mid : List P) (Mi : Mem) (In1 : Hp → List Addr → Prop) (α1 : List Addr) (H1 : Hp) (c : Addr) (ρ' : Env) (σ2 : L2.St) (i : Nat) (H : Hp) (M : Mem) (α : List Addr) (acc : List V) (ys zs : List P) : Prop where
  nx : Nx X.K α1 H1 α H M
  nin : c ∉ α
  cell : H c = some (.lst acc)
  rp : RPs X.K H α ys acc
  ok : s1.ok M = true
  inn : In1 H α
  env : REnv X.K H α ρ' σ2
  run : turns s1 F (s1.xs.drop i) M = some (zs, Mi)
  tot : ys ++ zs = mid
theorem lc2_of (hs : ∀ i ∈ t.slots, i ∈ vs) (hs1 : ∀ i ∈ t1.slots, i ∈ vs1) {σ : L2.St} {H : Hp} {Q : VK} (h : tI X (lc2F vs t k fs fi fs1 k1 t1 vs1 fi1 fe) σ H Q) :
    tLc2 (iS X k fs) (tGp X t) (tIT X fi) (iS X k1 fs1) (tGp X t1) (tIT X fi1) (tI X fe) vs vs1 σ H Q := by
  obtain ⟨ρ, M, α, d, M', r, e, q⟩ := h
  obtain ⟨⟨ds, M1⟩, e1, e⟩ := ob e
  obtain ⟨s, e2, e⟩ := ob e
  obtain ⟨⟨all, Mf⟩, e3, e⟩ := ob e
  obtain ⟨hl, rfl, rfl⟩ := newl_some e
  refine ⟨ρ, M, α, ds, s, M1, r, e1, e2, fun J H1 α1 In n1 it hIn ho c hc => ?_⟩
  have r1 := r.step n1
  have n0 : Nx X.K α1 H1 α1 (upd H1 c (.lst [])) M1 := Nx.new r1.mem r1.tab hc fun ps z => by cases z
  refine ⟨fun i m H => ∃ M α acc ys zs, LcW X s (lc2T t vs fi fs1 k1 t1 vs1 fi1 fe ρ) all Mf In α1 H1 c i H M α acc ys zs ∧ m = (s.xs.drop i).length,
    ⟨_, M1, α1, [], [], all, ⟨n0, fun z => ?_, upd_same .., by unfold RPs; trivial, ho, it.step _ _ _ _ _ _ hIn r1.mem n0, e3, rfl⟩, rfl⟩, ?_⟩
  · obtain ⟨ws, e⟩ := r1.mem.lst z
    rw [hc] at e; cases e
  rintro i m H2 ⟨M2, α2, acc, ys, zs, w, hm⟩
  cases hx : s.xs[i]? with
  | none =>
    rw [List.getElem?_eq_none_iff] at hx
    have hr := w.run
    rw [List.drop_eq_nil_of_le hx] at hr
    cases hr
    have ht := w.tot
    rw [List.append_nil] at ht
    subst ht
    refine .inl ⟨it.fin H2 α2 _ i w.inn w.nx.mem w.nx.tab w.ok hx, ?_⟩
    have n := n1.trans r.mem (w.nx.adopt hc w.nin w.cell w.rp)
    refine q _ H2 _ n ⟨c, ?_, rfl⟩
    rw [← w.nx.mem.len, List.getElem?_append_right (Nat.le_refl _)]
    simp
  | some x =>
    obtain ⟨go, yl⟩ := it.atI H2 α2 M2 i x w.inn w.nx.mem w.nx.tab w.ok hx
    obtain ⟨hlt, hxe⟩ := List.getElem?_eq_some_iff.mp hx
    have hr := w.run
    rw [List.drop_eq_getElem_cons hlt, hxe] at hr hm
    obtain ⟨o, M3, zs1, f1, ho3, hr2, rfl⟩ := turns_cons hr
    obtain ⟨ρ', f2, f1⟩ := ob f1
    obtain ⟨⟨b, M4⟩, f3, f1⟩ := ob f1
    refine .inr ⟨go, fun H => ∃ M α acc ys zs, LcW X s (lc2T t vs fi fs1 k1 t1 vs1 fi1 fe ρ) all Mf In α1 H1 c (i + 1) H M α acc ys zs,
      fun H' ⟨a1, a2, a3, a4, a5, a6⟩ => ⟨_, by rw [hm, List.length_cons]; exact Nat.lt_succ_self _, a1, a2, a3, a4, a5, a6, rfl⟩, fun v H' hy => ?_⟩
    obtain ⟨n3, rv⟩ := yl v H' hy
    have nn := w.nx.trans r1.mem n3
    have env : REnv X.K H' α2 (wipeE ρ vs) (L2.wipe σ vs) := (nn.env r1.mem r1.env).wipe vs
    have r3 : RS X (L2.wipe σ vs) H' (wipeE ρ vs) M2 α2 := ⟨env, nn.mem, nn.tab, r1.code.grow nn.grow fun b hb => r1.mem.lst hb, r1.trk.grow nn.grow fun b hb => r1.mem.lst hb⟩
    refine ⟨_, M2, α2, x, ρ', r3, rv, f2, fun σ3 re3 sm => ⟨sm.wipe hs, ?_⟩⟩
    have r4 := r3.with re3
    have c3 := n3.keepD w.nx.mem w.nin w.cell
    refine tIT.use r4 f3 fun H4 α4 n4 r5 => ?_
    have nn4 := nn.trans r1.mem n4
    have c4 := n4.keepD r4.mem w.nin c3
    have i4 := n4.notin w.nin c3
    have rp4 := n4.rps r4.mem (n3.rps w.nx.mem w.rp)
    cases b with
    | false =>
      cases f1
      have in4 := it.step _ _ _ _ _ _ hIn r1.mem nn4
      exact ⟨M3, α4, acc, ys, zs1, ⟨nn4, i4, c4, rp4, ho3, in4, hr2, by simpa using w.tot⟩⟩
    | true =>
      obtain ⟨⟨ds1, M5⟩, g1, f1⟩ := ob f1
      obtain ⟨s1, g2, f1⟩ := ob f1
      split at f1 <;> try contradiction
      rename_i hns
      rw [Bool.and_eq_true] at hns
      refine ⟨_, M4, α4, ds1, s1, M5, r5, g1, g2, fun J1 H5 α5 In1 n5 it1 hIn1 ho5 => ?_⟩
      have r6 := r5.step n5
      have c5 := n5.keepD r5.mem i4 c4
      have i5 := n5.notin i4 c4
      have rp5 := n5.rps r5.mem rp4
      have nn5 := nn4.trans r1.mem n5
      refine ⟨fun j k H => ∃ M α acc ys' zs', LcV X s1 (lcT t1 vs1 fi1 fe ρ') (ys ++ o) M3 In1 α1 H1 c ρ' σ3 j H M α acc ys' zs' ∧ k = (s1.xs.drop j).length,
        ⟨_, M5, α5, acc, ys, o, ⟨nn5, i5, c5, rp5, ho5, hIn1, r6.env, f1, rfl⟩, rfl⟩, ?_⟩
      rintro j k' H6 ⟨M6, α6, acc6, ys6, zs6, w6, hm6⟩
      have m6 := w6.nx.mem
      cases hx6 : s1.xs[j]? with
      | none =>
        rw [List.getElem?_eq_none_iff] at hx6
        have hr6 := w6.run
        rw [List.drop_eq_nil_of_le hx6] at hr6
        cases hr6
        refine .inl ⟨it1.fin H6 α6 _ j w6.inn m6 w6.nx.tab w6.ok hx6, ?_⟩
        refine ⟨_, α6, acc6, ys6, zs1, ⟨w6.nx, w6.nin, w6.cell, w6.rp, ho3, it.step _ _ _ _ _ _ hIn r1.mem w6.nx, hr2, ?_⟩⟩
        have h1 := w6.tot
        rw [List.append_nil] at h1
        rw [h1, List.append_assoc]
        exact w.tot
      | some x6 =>
        obtain ⟨go6, yl6⟩ := it1.atI H6 α6 M6 j x6 w6.inn m6 w6.nx.tab w6.ok hx6
        obtain ⟨hlt6, hxe6⟩ := List.getElem?_eq_some_iff.mp hx6
        have hr6 := w6.run
        rw [List.drop_eq_getElem_cons hlt6, hxe6] at hr6 hm6
        obtain ⟨o6, M7, zs7, p1, ho7, hr7, rfl⟩ := turns_cons hr6
        obtain ⟨ρ2, p2, p1⟩ := ob p1
        obtain ⟨⟨b6, M8⟩, p3, p1⟩ := ob p1
        refine .inr ⟨go6, fun H => ∃ M α acc ys' zs', LcV X s1 (lcT t1 vs1 fi1 fe ρ') (ys ++ o) M3 In1 α1 H1 c ρ' σ3 (j + 1) H M α acc ys' zs',
          fun H' ⟨a1, a2, a3, a4, a5, a6⟩ => ⟨_, by rw [hm6, List.length_cons]; exact Nat.lt_succ_self _, a1, a2, a3, a4, a5, a6, rfl⟩, fun v7 H7 hy7 => ?_⟩
        obtain ⟨n7, rv7⟩ := yl6 v7 H7 hy7
        have nn7 := w6.nx.trans r1.mem n7
        have env7 : REnv X.K H7 α6 ρ' σ3 := n7.env m6 w6.env
        have r7 : RS X (L2.wipe σ3 vs1) H7 (wipeE ρ' vs1) M6 α6 := ⟨env7.wipe vs1, nn7.mem, nn7.tab, r1.code.grow nn7.grow fun b hb => r1.mem.lst hb, r1.trk.grow nn7.grow fun b hb => r1.mem.lst hb⟩
        refine ⟨_, M6, α6, x6, ρ2, r7, rv7, p2, fun σ8 re8 sm8 => ⟨sm8.wipe hs1, ?_⟩⟩
        have r8 := r7.with re8
        have c7 := n7.keepD m6 w6.nin w6.cell
        refine tIT.use r8 p3 fun H8 α8 n8 r9 => ?_
        have nn8 := nn7.trans r1.mem n8
        have c8 := n8.keepD r8.mem w6.nin c7
        have i8 := n8.notin w6.nin c7
        have rp8 := n8.rps r8.mem (n7.rps m6 w6.rp)
        have in8 := it1.step _ _ _ _ _ _ (it1.step _ _ _ _ _ _ w6.inn m6 n7) r8.mem n8
        have env8 := n8.env r8.mem env7
        cases b6 with
        | false =>
          cases p1
          exact ⟨M7, α8, acc6, ys6, zs7, ⟨nn8, i8, c8, rp8, ho7, in8, env8, hr7, by simpa using w6.tot⟩⟩
        | true =>
          obtain ⟨⟨y, M9⟩, p4, p1⟩ := ob p1
          obtain ⟨ry, rfl, rfl, rfl⟩ : ∃ ry, y = .p ry ∧ o6 = [ry] ∧ M7 = M9 := by
            cases y with
            | p ry => cases p1; exact ⟨ry, rfl, rfl, rfl⟩
            | scr _ => cases p1
          refine tI.use r9 p4 fun u H9 α9 n9 d9 r10 => ?_
          have c9 := n9.keepD r9.mem i8 c8
          have i9 := n9.notin i8 c8
          have rp9 := n9.rps r9.mem rp8
          have hlen : acc6.length < sizeLine := by
            have h1 := congrArg List.length w.tot
            have h2 := congrArg List.length w6.tot
            simp only [List.length_append, List.length_cons] at h1 h2
            have h3 := w6.rp.length
            omega
          have nn9 := nn8.trans r1.mem n9
          have in9 := it1.step _ _ _ _ _ _ in8 r9.mem n9
          have env9 := n9.env r9.mem env8
          refine ⟨acc6, c9, hlen, M7, α9, acc6 ++ [u], ys6 ++ [ry], zs7, ⟨nn9.own hc i9 c9, i9, upd_same .., ?_, ho7, it1.own hns.2 _ _ _ _ _ _ in9 r10.mem c9 i9, env_own env9 c9 hns.1, hr7, by simpa using w6.tot⟩⟩
          refine RPs.grow (na_own c9) grow_own (Pre.refl _) _ _ (rp9.append ?_)
          show RPs _ _ _ [_] [_]
          unfold RPs
          exact ⟨d9, by unfold RPs; trivial⟩
end
section
variable {X : Cx} {fs fs1 : Env → Mem → Option (List D × Mem)} {fi fi1 : Env → Mem → Option (Bool × Mem)} {fe : Env → Mem → Option (D × Mem)} {k k1 : IK} {t t1 : T} {vs1 : List Nat} {elt tg iter tg1 iter1 : Expr} {ifs ifs1 : List Expr} {scope : Scope} {own : List (Str × Nat)} {pos spos : Pos}
theorem s_lc (hc : X.calm = true) (hN : X.N.Nodup) (hi : PI X tg iter (iS X k fs)) (ok : BlkOk X.N X.env.scope scope own)
    (hg : ∀ (s : Shared) (H : Hp) (C : Addr) (cl : List (Str × Addr)) (fp : List Addr), PG (X.blk s H scope (compEnvC scope cl C X.env) fp) tg (tGp (X.blk s H scope (compEnvC scope cl C X.env) fp) t))
    (ht : ∀ (s : Shared) (H : Hp) (C : Addr) (cl : List (Str × Addr)) (fp : List Addr), PTs (X.blk s H scope (compEnvC scope cl C X.env) fp) ifs (tIT (X.blk s H scope (compEnvC scope cl C X.env) fp) fi))
    (he : ∀ (s : Shared) (H : Hp) (C : Addr) (cl : List (Str × Addr)) (fp : List Addr), PE (X.blk s H scope (compEnvC scope cl C X.env) fp) elt (tI (X.blk s H scope (compEnvC scope cl C X.env) fp) fe))
    (hs : ∀ x, foldedSetIterable iter X.env x = pure x) (hv : ∀ i ∈ t.slots, i ∈ own.map (·.2)) :
    PE X (.ListComp elt [⟨tg, iter, ifs, 0⟩] scope pos) (tI X (lcF (own.map (·.2)) t k fs fi fe)) := (pe_lc (te := tI X fe) (tt := tIT X fi) (g := tGp X t) hc hN hi ok hg ht he hs).weak fun σ H Q h => lc_of hv h
theorem s_setlc {i : Nat} {y : Str} {py : Pos} (hc : X.calm = true) (hN : X.N.Nodup) (hy : X.N[i]? = some y) (hyl : X.env.scope.names.lookup y = some .local)
    (hsw : swapsWith (.ListComp elt [⟨tg, iter, ifs, 0⟩] scope pos) (some (.Name y py)) spos.line X.env = pure true) (hi : PI X tg iter (iS X k fs)) (ok : BlkOk X.N X.env.scope scope own)
    (hg : ∀ (s : Shared) (H : Hp) (C : Addr) (cl : List (Str × Addr)) (fp : List Addr), PG (X.blk s H scope (compEnvC scope cl C X.env) fp) tg (tGp (X.blk s H scope (compEnvC scope cl C X.env) fp) t))
    (ht : ∀ (s : Shared) (H : Hp) (C : Addr) (cl : List (Str × Addr)) (fp : List Addr), PTs (X.blk s H scope (compEnvC scope cl C X.env) fp) ifs (tIT (X.blk s H scope (compEnvC scope cl C X.env) fp) fi))
    (he : ∀ (s : Shared) (H : Hp) (C : Addr) (cl : List (Str × Addr)) (fp : List Addr), PE (X.blk s H scope (compEnvC scope cl C X.env) fp) elt (tI (X.blk s H scope (compEnvC scope cl C X.env) fp) fe))
    (hs : ∀ x, foldedSetIterable iter X.env x = pure x) (hv : ∀ i ∈ t.slots, i ∈ own.map (·.2)) :
    PS X (.Assign [.Name y py] (.ListComp elt [⟨tg, iter, ifs, 0⟩] scope pos) spos) (tS X (setF (.nm i) (lcF (own.map (·.2)) t k fs fi fe))) :=
  (ps_setLc (te := tI X fe) (tt := tIT X fi) (g := tGp X t) hc hN hy hyl hsw hi ok hg ht he hs).weak fun D σ H h => gname_of (fun _ q => lc_of hv q) h
theorem s_lc2 (hc : X.calm = true) (hN : X.N.Nodup) (hi : PI X tg iter (iS X k fs)) (ok : BlkOk X.N X.env.scope scope own) (hv1 : ∀ i ∈ vs1, i ∈ own.map (·.2))
    (hg : ∀ (s : Shared) (H : Hp) (C : Addr) (cl : List (Str × Addr)) (fp : List Addr), PG (X.blk s H scope (compEnvC scope cl C X.env) fp) tg (tGp (X.blk s H scope (compEnvC scope cl C X.env) fp) t))
    (ht : ∀ (s : Shared) (H : Hp) (C : Addr) (cl : List (Str × Addr)) (fp : List Addr), PTs (X.blk s H scope (compEnvC scope cl C X.env) fp) ifs (tIT (X.blk s H scope (compEnvC scope cl C X.env) fp) fi))
    (hi1 : ∀ (s : Shared) (H : Hp) (C : Addr) (cl : List (Str × Addr)) (fp : List Addr), PI (X.blk s H scope (compEnvC scope cl C X.env) fp) tg1 iter1 (iS (X.blk s H scope (compEnvC scope cl C X.env) fp) k1 fs1))
    (hg1 : ∀ (s : Shared) (H : Hp) (C : Addr) (cl : List (Str × Addr)) (fp : List Addr), PG (X.blk s H scope (compEnvC scope cl C X.env) fp) tg1 (tGp (X.blk s H scope (compEnvC scope cl C X.env) fp) t1))
    (ht1 : ∀ (s : Shared) (H : Hp) (C : Addr) (cl : List (Str × Addr)) (fp : List Addr), PTs (X.blk s H scope (compEnvC scope cl C X.env) fp) ifs1 (tIT (X.blk s H scope (compEnvC scope cl C X.env) fp) fi1))
    (he : ∀ (s : Shared) (H : Hp) (C : Addr) (cl : List (Str × Addr)) (fp : List Addr), PE (X.blk s H scope (compEnvC scope cl C X.env) fp) elt (tI (X.blk s H scope (compEnvC scope cl C X.env) fp) fe))
    (hs : ∀ x, foldedSetIterable iter X.env x = pure x) (hs1 : ∀ env x, foldedSetIterable iter1 env x = pure x) (hv : ∀ i ∈ t.slots, i ∈ own.map (·.2)) (hv2 : ∀ i ∈ t1.slots, i ∈ vs1) :
    PE X (.ListComp elt [⟨tg, iter, ifs, 0⟩, ⟨tg1, iter1, ifs1, 0⟩] scope pos) (tI X (lc2F (own.map (·.2)) t k fs fi fs1 k1 t1 vs1 fi1 fe)) :=
  (pe_lc2 (te := tI X fe) (tt := tIT X fi) (g := tGp X t) (g1 := tGp X t1) (tt1 := tIT X fi1) (wi1 := iS X k1 fs1) hc hN hi ok hv1 hg ht hi1 hg1 ht1 he hs hs1).weak fun σ H Q h => lc2_of hv hv2 h
theorem s_setlc2 {i : Nat} {y : Str} {py : Pos} (hc : X.calm = true) (hN : X.N.Nodup) (hy : X.N[i]? = some y) (hyl : X.env.scope.names.lookup y = some .local)
    (hsw : swapsWith (.ListComp elt [⟨tg, iter, ifs, 0⟩, ⟨tg1, iter1, ifs1, 0⟩] scope pos) (some (.Name y py)) spos.line X.env = pure true) (hi : PI X tg iter (iS X k fs)) (ok : BlkOk X.N X.env.scope scope own) (hv1 : ∀ i ∈ vs1, i ∈ own.map (·.2))
    (hg : ∀ (s : Shared) (H : Hp) (C : Addr) (cl : List (Str × Addr)) (fp : List Addr), PG (X.blk s H scope (compEnvC scope cl C X.env) fp) tg (tGp (X.blk s H scope (compEnvC scope cl C X.env) fp) t))
    (ht : ∀ (s : Shared) (H : Hp) (C : Addr) (cl : List (Str × Addr)) (fp : List Addr), PTs (X.blk s H scope (compEnvC scope cl C X.env) fp) ifs (tIT (X.blk s H scope (compEnvC scope cl C X.env) fp) fi))
    (hi1 : ∀ (s : Shared) (H : Hp) (C : Addr) (cl : List (Str × Addr)) (fp : List Addr), PI (X.blk s H scope (compEnvC scope cl C X.env) fp) tg1 iter1 (iS (X.blk s H scope (compEnvC scope cl C X.env) fp) k1 fs1))
    (hg1 : ∀ (s : Shared) (H : Hp) (C : Addr) (cl : List (Str × Addr)) (fp : List Addr), PG (X.blk s H scope (compEnvC scope cl C X.env) fp) tg1 (tGp (X.blk s H scope (compEnvC scope cl C X.env) fp) t1))
    (ht1 : ∀ (s : Shared) (H : Hp) (C : Addr) (cl : List (Str × Addr)) (fp : List Addr), PTs (X.blk s H scope (compEnvC scope cl C X.env) fp) ifs1 (tIT (X.blk s H scope (compEnvC scope cl C X.env) fp) fi1))
    (he : ∀ (s : Shared) (H : Hp) (C : Addr) (cl : List (Str × Addr)) (fp : List Addr), PE (X.blk s H scope (compEnvC scope cl C X.env) fp) elt (tI (X.blk s H scope (compEnvC scope cl C X.env) fp) fe))
    (hs : ∀ x, foldedSetIterable iter X.env x = pure x) (hs1 : ∀ env x, foldedSetIterable iter1 env x = pure x) (hv : ∀ i ∈ t.slots, i ∈ own.map (·.2)) (hv2 : ∀ i ∈ t1.slots, i ∈ vs1) :
    PS X (.Assign [.Name y py] (.ListComp elt [⟨tg, iter, ifs, 0⟩, ⟨tg1, iter1, ifs1, 0⟩] scope pos) spos) (tS X (setF (.nm i) (lc2F (own.map (·.2)) t k fs fi fs1 k1 t1 vs1 fi1 fe))) :=
  (ps_setLc2 (te := tI X fe) (tt := tIT X fi) (g := tGp X t) (g1 := tGp X t1) (tt1 := tIT X fi1) (wi1 := iS X k1 fs1) hc hN hy hyl hsw hi ok hv1 hg ht hi1 hg1 ht1 he hs hs1).weak fun D σ H h => gname_of (fun _ q => lc2_of hv hv2 q) h
end
end IX
end

section
set_option Elab.async false
set_option autoImplicit false
set_option linter.all false
set_option maxRecDepth 100000
set_option maxHeartbeats 4000000
/-! Generator expressions within tuple, sum, all, any. -/
namespace IX
open PySem PySem.Spec PyProof.Rows L2 GX
section
variable {K : PySem.W.Frag} {H H' : Hp} {α α' : List Addr} {M M' : Mem}
theorem Nx.of0 (m : RM K H α M) (g : Grow [] H H') (t : TabAll H') : Nx K α H α H' M := ⟨g.mono fun b hb => by simp at hb, ⟨[], by simp, fun b h => by simp at h⟩, m.grow0 g, t⟩
theorem Nx.same (m : RM K H α M) (n : Nx K α H α' H' M') (e : M' = M) : α' = α := by
  obtain ⟨β, e1, _⟩ := n.ext
  have h1 := n.mem.len
  rw [e, ← m.len, e1, List.length_append] at h1
  have : β = [] := List.length_eq_zero_iff.mp (by omega)
  rw [e1, this, List.append_nil]
end
def genT (t : T) (vs : List Nat) (fi : Env → Mem → Option (Bool × Mem)) (fe : Env → Mem → Option (D × Mem)) (ρ : Env) (M : Mem) : P → Option (Option P) := fun x => do
  let ρ' ← t.put x (wipeE ρ vs)
  let (b, M') ← fi ρ' M
  if b then do
    let (y, M'') ← fe ρ' M'
    match y with
    | .p r => if M'' = M then some (some r) else none
    | _ => none
  else if M' = M then some none else none
def genF (gk : GK) (vs : List Nat) (t : T) (k : IK) (fs : Env → Mem → Option (List D × Mem)) (fi : Env → Mem → Option (Bool × Mem)) (fe : Env → Mem → Option (D × Mem)) : Env → Mem → Option (D × Mem) := fun ρ M => do
  let (ds, M) ← fs ρ M
  let s ← src k ds M
  genEnd gk s (genT t vs fi fe ρ M) M
theorem gturns_cons {F : P → Option (Option P)} {x : P} {r : List P} {zs : List P} (h : gturns F (x :: r) = some zs) : ∃ o zs1, F x = some o ∧ gturns F r = some zs1 ∧ zs = o.toList ++ zs1 := by
  obtain ⟨o, e1, h⟩ := ob (show (do
    let o ← F x
    let ys ← gturns F r
    some (o.toList ++ ys)) = some zs from h)
  obtain ⟨ys, e2, h⟩ := ob h
  cases h
  exact ⟨o, ys, e1, e2, rfl⟩
section
variable {X : Cx} {fs : Env → Mem → Option (List D × Mem)} {fi : Env → Mem → Option (Bool × Mem)} {fe : Env → Mem → Option (D × Mem)} {k : IK} {t : T} {elt tg iter : Expr} {ifs : List Expr} {scope : Scope} {own : List (Str × Nat)} {pos cpos p : Pos}
/-- what a turn's F gives -/
theorem genT_some {vs : List Nat} {ρ : Env} {M : Mem} {x : P} {o : Option P} (h : genT t vs fi fe ρ M x = some o) : ∃ ρ' b M1, t.put x (wipeE ρ vs) = some ρ' ∧ fi ρ' M = some (b, M1) ∧ ((b = false ∧ o = none ∧ M1 = M) ∨ (b = true ∧ ∃ r, o = some r ∧ fe ρ' M1 = some (.p r, M))) := by
  obtain ⟨ρ', e1, h⟩ := ob h
  obtain ⟨⟨b, M1⟩, e2, h⟩ := ob h
  refine ⟨ρ', b, M1, e1, e2, ?_⟩
  cases b with
  | false =>
    have h : (if M1 = M then some none else none) = some o := h
    split at h
    · rename_i e; cases h; exact .inl ⟨rfl, rfl, e⟩
    · cases h
  | true =>
    obtain ⟨⟨y, M2⟩, e3, h⟩ := ob h
    cases y with
    | p r =>
      have h : (if M2 = M then some (some r) else none) = some o := h
      split at h
      · rename_i e; cases h; subst e; exact .inr ⟨rfl, r, rfl, e3⟩
      · cases h
    | scr _ => cases h
/-- the parts of the frame of a generator -/
def GenP (X : Cx) (Ac : Around) (scope : Scope) (tg elt : Expr) (ifs : List Expr) (t : T) (fi : Env → Mem → Option (Bool × Mem)) (fe : Env → Mem → Option (D × Mem)) : Prop :=
  ∀ H Xg, IsG X Xg Ac H scope → PG Xg tg (tGp Xg t) ∧ PTs Xg ifs (tIT Xg fi) ∧ PE Xg elt (tI Xg fe)
theorem reads_col {C : Con} {Ac : Around} {σ : L2.St} {J : It} {s : Src} {In : Hp → List Addr → Prop} {ρ : Env} {M : Mem} {α : List Addr} {H : Hp} {all : List P} (hp : GenP X Ac scope tg elt ifs t fi fe) (hs : ∀ i ∈ t.slots, i ∈ own.map (·.2))
    (r : RS X σ H ρ M α) (it : ItOk X.K J s In) (hIn : In H α) (ho : s.ok M = true) (hr : gturns (genT t (own.map (·.2)) fi fe ρ M) s.xs = some all) (hlen : all.length + 1 < sizeLine)
    (hY : ∀ zs r rest ys y H', all = zs ++ r :: rest → RPs X.K H' α (zs ++ [r]) (ys ++ [y]) → C.Yl (ys ++ [y]) H') (hD : ∀ ys H', Nx X.K α H α H' M → RPs X.K H' α all ys → C.Dn ys H') : GX.Reads X C Ac H J elt tg ifs scope own σ := by
  intro Xg hg
  obtain ⟨pg, pt, pe⟩ := hp H Xg hg
  obtain ⟨s4, cl, L, cv, fp, pn, rfl, hcv⟩ := hg
  refine ⟨_, _, _, fun i m ys H' => ∃ zs rest, Nx X.K α H α H' M ∧ In H' α ∧ RPs X.K H' α zs ys ∧ gturns (genT t (own.map (·.2)) fi fe ρ M) (s.xs.drop i) = some rest ∧ all = zs ++ rest ∧ m = (s.xs.drop i).length, _, pg, pt, pe, ?_,
    [], all, Nx.refl r.mem r.tab, hIn, by unfold RPs; trivial, hr, rfl, rfl⟩
  rintro i m ys H2 ⟨zs, rest, n2, in2, rp2, hr2, ha, hm⟩
  cases hx : s.xs[i]? with
  | none =>
    rw [List.getElem?_eq_none_iff] at hx
    rw [List.drop_eq_nil_of_le hx] at hr2
    cases hr2
    rw [List.append_nil] at ha
    subst ha
    exact .inl ⟨it.fin H2 α M i in2 n2.mem n2.tab ho hx, hD _ _ n2 rp2⟩
  | some x =>
    obtain ⟨go, yl⟩ := it.atI H2 α M i x in2 n2.mem n2.tab ho hx
    obtain ⟨hlt, hxe⟩ := List.getElem?_eq_some_iff.mp hx
    rw [List.drop_eq_getElem_cons hlt, hxe] at hr2 hm
    obtain ⟨o, rest1, f1, hr3, rfl⟩ := gturns_cons hr2
    obtain ⟨ρ', b, M1, f2, f3, f4⟩ := genT_some f1
    refine .inr ⟨go, fun ys H' => ∃ zs rest, Nx X.K α H α H' M ∧ In H' α ∧ RPs X.K H' α zs ys ∧ gturns (genT t (own.map (·.2)) fi fe ρ M) (s.xs.drop (i + 1)) = some rest ∧ all = zs ++ rest,
      fun ys' H' ⟨a1, a2, a3, a4, a5, a6, a7⟩ => ⟨_, by rw [hm, List.length_cons]; exact Nat.lt_succ_self _, a1, a2, a3, a4, a5, a6, a7, rfl⟩, fun v H' hy => ?_⟩
    obtain ⟨n3, rv⟩ := yl v H' hy
    have nn := n2.trans r.mem n3
    have in3 := it.step _ _ _ _ _ _ in2 n2.mem n3
    have env : REnv X.K H' α (wipeE ρ (own.map (·.2))) (L2.wipe σ (own.map (·.2))) := (nn.env r.mem r.env).wipe _
    have r3 : RSt X.K X.base cv (L2.wipe σ (own.map (·.2))) H' (wipeE ρ (own.map (·.2))) M α := ⟨env, nn.mem, nn.tab, hcv.grow nn.grow fun b hb => r.mem.lst hb, r.trk.grow nn.grow fun b hb => r.mem.lst hb⟩
    refine ⟨_, M, α, x, ρ', r3, rv, f2, fun σ3 re3 sm => ⟨sm.wipe hs, ?_⟩⟩
    have r4 := r3.with re3
    refine tIT.use (X := Cxg X Ac s4 H scope (gEnv scope cl L cv builtinsNs X.env) fp pn) r4 f3 fun H4 α4 n4 r5 => ?_
    have rp3 := n3.rps n2.mem rp2
    have rp4 := n4.rps r4.mem rp3
    rcases f4 with ⟨rfl, rfl, rfl⟩ | ⟨rfl, rr, rfl, f5⟩
    · obtain rfl := n4.same nn.mem rfl
      exact ⟨zs, rest1, nn.trans r.mem n4, it.step _ _ _ _ _ _ in3 nn.mem n4, rp4, hr3, ha⟩
    · refine tI.use (X := Cxg X Ac s4 H scope (gEnv scope cl L cv builtinsNs X.env) fp pn) r5 f5 fun u H5 α5 n5 d5 r6 => ?_
      have n45 := n4.trans nn.mem n5
      obtain rfl := n45.same nn.mem rfl
      have rp5 : RPs X.K H5 α5 (zs ++ [rr]) (ys ++ [u]) := (n5.rps r5.mem rp4).append (by
        show RPs _ _ _ [_] [_]
        unfold RPs
        exact ⟨d5, by unfold RPs; trivial⟩)
      refine ⟨?_, hY zs rr rest1 ys u H5 ha rp5, fun _ => ⟨zs ++ [rr], rest1, nn.trans r.mem n45, it.step _ _ _ _ _ _ in3 nn.mem n45, rp5, hr3, by simpa using ha⟩⟩
      have h1 := congrArg List.length ha
      simp only [List.length_append, Option.toList_some, List.length_cons] at h1
      have := rp2.length
      omega
theorem truth_any {y : P} {b : Bool} {M : Mem} (h : truth [] (.p y) = some b) : truth M (.p y) = some b := by
  cases y with
  | ref i => simp [truth] at h
  | _ => exact h
/-- how many yield ahead of the first that stops -/
def gcount (st : Bool) (F : P → Option (Option P)) : List P → Nat
  | [] => 0
  | x :: r => match F x with
    | some (some y) => match truth [] (.p y) with
      | some b => if b = st then 0 else gcount st F r + 1
      | none => 0
    | _ => gcount st F r
theorem reads_test {st : Bool} {Q : VK} {Ac : Around} {σ : L2.St} {J : It} {s : Src} {In : Hp → List Addr → Prop} {ρ : Env} {M : Mem} {α : List Addr} {H : Hp} {b0 : Bool} (hp : GenP X Ac scope tg elt ifs t fi fe) (hs : ∀ i ∈ t.slots, i ∈ own.map (·.2))
    (r : RS X σ H ρ M α) (it : ItOk X.K J s In) (hIn : In H α) (ho : s.ok M = true) (hr : gtest st (genT t (own.map (·.2)) fi fe ρ M) s.xs = some b0) (hlen : s.xs.length + 1 < sizeLine)
    (hQ : ∀ H', Nx X.K α H α H' M → Q (.bl b0) H') : GX.Reads X (cTest X.K st (fun zs => zs.length ≤ gcount st (genT t (own.map (·.2)) fi fe ρ M) s.xs) fun b H' => Q (.bl b) H') Ac H J elt tg ifs scope own σ := by
  intro Xg hg
  obtain ⟨pg, pt, pe⟩ := hp H Xg hg
  obtain ⟨s4, cl, L, cv, fp, pn, rfl, hcv⟩ := hg
  refine ⟨_, _, _, fun i m ys H' => Nx X.K α H α H' M ∧ In H' α ∧ ys.length ≤ i ∧ ys.length + gcount st (genT t (own.map (·.2)) fi fe ρ M) (s.xs.drop i) = gcount st (genT t (own.map (·.2)) fi fe ρ M) s.xs ∧ gtest st (genT t (own.map (·.2)) fi fe ρ M) (s.xs.drop i) = some b0 ∧ m = (s.xs.drop i).length, _, pg, pt, pe, ?_,
    Nx.refl r.mem r.tab, hIn, Nat.le_refl _, Nat.zero_add _, hr, rfl⟩
  rintro i m ys H2 ⟨n2, in2, hl2, hc2, hr2, hm⟩
  cases hx : s.xs[i]? with
  | none =>
    rw [List.getElem?_eq_none_iff] at hx
    rw [List.drop_eq_nil_of_le hx] at hr2
    cases hr2
    exact .inl ⟨it.fin H2 α M i in2 n2.mem n2.tab ho hx, hQ _ n2⟩
  | some x =>
    obtain ⟨go, yl⟩ := it.atI H2 α M i x in2 n2.mem n2.tab ho hx
    obtain ⟨hlt, hxe⟩ := List.getElem?_eq_some_iff.mp hx
    rw [List.drop_eq_getElem_cons hlt, hxe] at hr2 hm hc2
    obtain ⟨o, f1, hr3⟩ := ob (show (do
      let o ← genT t (own.map (·.2)) fi fe ρ M x
      match o with
      | none => gtest st (genT t (own.map (·.2)) fi fe ρ M) (s.xs.drop (i + 1))
      | some y => do
        let b ← truth [] (.p y)
        if b = st then some st else gtest st (genT t (own.map (·.2)) fi fe ρ M) (s.xs.drop (i + 1))) = some b0 from hr2)
    simp only [gcount, f1] at hc2
    obtain ⟨ρ', b, M1, f2, f3, f4⟩ := genT_some f1
    refine .inr ⟨go, fun ys H' => Nx X.K α H α H' M ∧ In H' α ∧ ys.length ≤ i + 1 ∧ ys.length + gcount st (genT t (own.map (·.2)) fi fe ρ M) (s.xs.drop (i + 1)) = gcount st (genT t (own.map (·.2)) fi fe ρ M) s.xs ∧ gtest st (genT t (own.map (·.2)) fi fe ρ M) (s.xs.drop (i + 1)) = some b0,
      fun ys' H' ⟨a1, a2, a3, a4, a5⟩ => ⟨_, by rw [hm, List.length_cons]; exact Nat.lt_succ_self _, a1, a2, a3, a4, a5, rfl⟩, fun v H' hy => ?_⟩
    obtain ⟨n3, rv⟩ := yl v H' hy
    have nn := n2.trans r.mem n3
    have in3 := it.step _ _ _ _ _ _ in2 n2.mem n3
    have env : REnv X.K H' α (wipeE ρ (own.map (·.2))) (L2.wipe σ (own.map (·.2))) := (nn.env r.mem r.env).wipe _
    have r3 : RSt X.K X.base cv (L2.wipe σ (own.map (·.2))) H' (wipeE ρ (own.map (·.2))) M α := ⟨env, nn.mem, nn.tab, hcv.grow nn.grow fun b hb => r.mem.lst hb, r.trk.grow nn.grow fun b hb => r.mem.lst hb⟩
    refine ⟨_, M, α, x, ρ', r3, rv, f2, fun σ3 re3 sm => ⟨sm.wipe hs, ?_⟩⟩
    have r4 := r3.with re3
    refine tIT.use (X := Cxg X Ac s4 H scope (gEnv scope cl L cv builtinsNs X.env) fp pn) r4 f3 fun H4 α4 n4 r5 => ?_
    rcases f4 with ⟨rfl, rfl, rfl⟩ | ⟨rfl, rr, rfl, f5⟩
    · obtain rfl := n4.same nn.mem rfl
      exact ⟨nn.trans r.mem n4, it.step _ _ _ _ _ _ in3 nn.mem n4, Nat.le_succ_of_le hl2, hc2, hr3⟩
    · refine tI.use (X := Cxg X Ac s4 H scope (gEnv scope cl L cv builtinsNs X.env) fp pn) r5 f5 fun u H5 α5 n5 d5 r6 => ?_
      have n45 := n4.trans nn.mem n5
      obtain rfl := n45.same nn.mem rfl
      obtain ⟨tb, g1, g2⟩ := ob hr3
      have htru : TruV X.K u H5 tb := truth_ok n45.mem d5 (truth_any g1)
      have n5t := nn.trans r.mem n45
      simp only [g1] at hc2
      by_cases e : tb = st
      · rw [if_pos e] at hc2 g2
        cases g2
        exact ⟨by omega, ⟨u, tb, by simp, htru, .inr ⟨e, hQ _ n5t⟩⟩, fun hz => absurd (show (ys ++ [u]).length ≤ _ from hz) (by rw [List.length_append, List.length_singleton]; omega)⟩
      · rw [if_neg e] at hc2 g2
        refine ⟨by omega, ⟨u, tb, by simp, htru, .inl ⟨?_, ?_⟩⟩, fun _ => ⟨n5t, it.step _ _ _ _ _ _ in3 nn.mem n45, by rw [List.length_append, List.length_singleton]; omega, by rw [List.length_append, List.length_singleton]; omega, g2⟩⟩
        · cases tb <;> cases st <;> simp_all
        · show (ys ++ [u]).length ≤ _
          rw [List.length_append, List.length_singleton]; omega
/-- f(generator) of a built-in function, of a type -/
theorem gen_callB {kk : Nat} {x : Str} {id : String} {Q' : Value → Shared → Prop} {pins : List (Addr × Obj)} {σ : L2.St} {H : Hp} {s : Shared} {wi : TI} {R : It → Hp → Prop}
    (hg : Gl X x) (hm : X.mg x = none) (hv : bootBuiltins x = some (.builtin id)) (hn : x ≠ "__name__") (hdb : (x == ("__debug__" : Str)) = false)
    (he : starEach [.GeneratorExp elt [⟨tg, iter, ifs, 0⟩] scope pos] X.env = [(false, eval (.GeneratorExp elt [⟨tg, iter, ifs, 0⟩] scope pos) X.env)]) (he0 : starEach [] X.env = [])
    (hN : X.N.Nodup) (hr : Room kk X.A) (bm : BmAt X.base X.mg) (ok : GenOk X.N X.env.scope scope own) (hcalm : X.calm = true) (hi : PI X tg iter wi) (hs : ∀ x, genFold iter X.env x = pure x)
    (I : Inv X pins σ H s) (h : wi σ H fun J H1 => CodeAt X.base H1 X.env.code ∧ TabAll H1 ∧ R J H1)
    (hQ : ∀ J H1 H2 a gn s5, R J H1 → Grow [] H1 H2 → TabAll H2 → MadeAt X pins σ H2 J elt tg iter ifs scope own pos a gn s5 → wpAny (model X.prog X.w) X.A (call (.builtin id) [.ref a]) Q' X.xe s5) :
    wpAny (model X.prog X.w) X.A (eval (.Call (.Name x p) [.GeneratorExp elt [⟨tg, iter, ifs, 0⟩] scope pos] [] cpos) X.env) Q' X.xe s := by
  refine wpAny_Call_Name_kw (ld_blt I hg hm hv ?_ hn hdb)
  refine PyProof.Rows.callWith_builtin1 ?_ (by rw [he, he0]) (by rw [he0]; rfl)
  rw [he]
  show wpAny _ _ (spliced [(false, _)]) _ _ s
  exact Calls.spliced_cons (gen_made hN hr bm ok hcalm hi hs I h fun J H1 H2 a gn s5 q1 q2 q3 q4 => Calls.spliced_nil (hQ J H1 H2 a gn s5 q1 q2 q3 q4))
theorem gen_callT {kk : Nat} {x : Str} {id : String} {Q' : Value → Shared → Prop} {pins : List (Addr × Obj)} {σ : L2.St} {H : Hp} {s : Shared} {wi : TI} {R : It → Hp → Prop}
    (hg : Gl X x) (hm : X.mg x = none) (hv : bootBuiltins x = some (.type id)) (hn : x ≠ "__name__") (hdb : (x == ("__debug__" : Str)) = false)
    (he : starEach [.GeneratorExp elt [⟨tg, iter, ifs, 0⟩] scope pos] X.env = [(false, eval (.GeneratorExp elt [⟨tg, iter, ifs, 0⟩] scope pos) X.env)]) (he0 : starEach [] X.env = [])
    (hN : X.N.Nodup) (hr : Room kk X.A) (bm : BmAt X.base X.mg) (ok : GenOk X.N X.env.scope scope own) (hcalm : X.calm = true) (hi : PI X tg iter wi) (hs : ∀ x, genFold iter X.env x = pure x)
    (I : Inv X pins σ H s) (h : wi σ H fun J H1 => CodeAt X.base H1 X.env.code ∧ TabAll H1 ∧ R J H1)
    (hQ : ∀ J H1 H2 a gn s5, R J H1 → Grow [] H1 H2 → TabAll H2 → MadeAt X pins σ H2 J elt tg iter ifs scope own pos a gn s5 → wpAny (model X.prog X.w) X.A (call (.type id) [.ref a]) Q' X.xe s5) :
    wpAny (model X.prog X.w) X.A (eval (.Call (.Name x p) [.GeneratorExp elt [⟨tg, iter, ifs, 0⟩] scope pos] [] cpos) X.env) Q' X.xe s := by
  refine wpAny_Call_Name_kw (ld_blt I hg hm hv ?_ hn hdb)
  refine PyProof.Rows.callWith_type1 ?_ (by rw [he, he0]) (by rw [he0]; rfl)
  rw [he]
  show wpAny _ _ (spliced [(false, _)]) _ _ s
  exact Calls.spliced_cons (gen_made hN hr bm ok hcalm hi hs I h fun J H1 H2 a gn s5 q1 q2 q3 q4 => Calls.spliced_nil (hQ J H1 H2 a gn s5 q1 q2 q3 q4))
theorem ints_eq : ∀ {xs : List P} {is : List Int}, intsP xs = some is → xs = is.map P.int
  | [], _, h => by cases h; rfl
  | .int i :: xs, is, h => by
    obtain ⟨is', e1, rfl⟩ := Option.map_eq_some_iff.mp (show (intsP xs).map (i :: ·) = some is from h)
    rw [ints_eq e1]; rfl
  | .non :: _, _, h => by cases h
  | .bl _ :: _, _, h => by cases h
  | .str _ :: _, _, h => by cases h
  | .tup _ :: _, _, h => by cases h
theorem isum_ints (is : List Int) : isum (is.map V.int) = is.sum := by
  unfold isum
  rw [List.map_map]
  show (is.map _).sum = _
  rw [show (vint ∘ V.int) = id from rfl, List.map_id]
/-- the around of a consumer's turns -/
def GKA (A : Around) : GK → Around
  | .tuple => A.in4
  | _ => A.in1.in1
def GKn : GK → Str
  | .tuple => "tuple" | .sum => "sum" | .all => "all" | .any => "any"
theorem s_gen {gk : GK} {kk : Nat} (hg : Gl X (GKn gk)) (hm : X.mg (GKn gk) = none)
    (he : starEach [.GeneratorExp elt [⟨tg, iter, ifs, 0⟩] scope pos] X.env = [(false, eval (.GeneratorExp elt [⟨tg, iter, ifs, 0⟩] scope pos) X.env)]) (he0 : starEach [] X.env = [])
    (hN : X.N.Nodup) (hr : Room kk X.A) (bm : BmAt X.base X.mg) (ok : GenOk X.N X.env.scope scope own) (hcalm : X.calm = true) (hi : PI X tg iter (iS X k fs)) (hs : ∀ x, genFold iter X.env x = pure x)
    (hv : ∀ i ∈ t.slots, i ∈ own.map (·.2)) (hp : GenP X (GKA X.A gk) scope tg elt ifs t fi fe) :
    PE X (.Call (.Name (GKn gk) p) [.GeneratorExp elt [⟨tg, iter, ifs, 0⟩] scope pos] [] cpos) (tI X (genF gk (own.map (·.2)) t k fs fi fe)) := by
  refine ⟨fun pins s0 σ H Q I h => ?_⟩
  obtain ⟨ρ, M, α, d, M', r, e, q⟩ := h
  obtain ⟨⟨ds, M1⟩, e1, e⟩ := ob e
  obtain ⟨s, e2, e⟩ := ob e
  let Rr : It → Hp → Prop := fun J H1 => ∃ α1 In, Nx X.K α H α1 H1 M1 ∧ ItOk X.K J s In ∧ In H1 α1 ∧ s.ok M1 = true
  have hw : iS X k fs σ H fun J H1 => CodeAt X.base H1 X.env.code ∧ TabAll H1 ∧ Rr J H1 :=
    ⟨ρ, M, α, ds, s, M1, r, e1, e2, fun J H1 α1 In n1 it hIn ho => ⟨(r.step n1).code, n1.tab, α1, In, n1, it, hIn, ho⟩⟩
  have nn : ∀ {J H1 H2}, Rr J H1 → Grow [] H1 H2 → TabAll H2 → ∃ α1 In, Nx X.K α H α1 H2 M1 ∧ RS X σ H2 ρ M1 α1 ∧ ItOk X.K J s In ∧ In H2 α1 ∧ s.ok M1 = true := fun {J H1 H2} hR g2 t2 => by
    obtain ⟨α1, In, n1, it, hIn, ho⟩ := hR
    have n2 := Nx.of0 n1.mem g2 t2
    exact ⟨α1, In, n1.trans r.mem n2, r.step (n1.trans r.mem n2), it, it.step _ _ _ _ _ _ hIn n1.mem n2, ho⟩
  cases gk with
  | tuple =>
    obtain ⟨all, e3, e⟩ := Option.bind_eq_some_iff.mp (show (gturns _ s.xs).bind _ = some (d, M') from e)
    split at e <;> try contradiction
    rename_i hl
    cases e
    refine gen_callT (x := "tuple") hg hm PyProof.Rows.boot_tuple (by decide) (by decide) he he0 hN hr bm ok hcalm hi hs I hw fun J H1 H2 a gn s5 hR g2 t2 made => ?_
    obtain ⟨α1, In, n2, r2, it, hIn, ho⟩ := nn hR g2 t2
    refine call_tuple_g hr made fun S => reads_col (C := cTup S _) hp hv r2 it hIn ho e3 hl (fun _ _ _ _ _ _ _ _ => trivial) fun ys H' n3 rp => ?_
    intro pp hpp
    exact new_tup n3.mem n3.tab rp (fun w H'' α'' n4 d4 => q w H'' α'' ((n2.trans r.mem n3).trans r.mem n4) d4) pp hpp
  | sum =>
    obtain ⟨all, e3, e⟩ := Option.bind_eq_some_iff.mp (show (gturns _ s.xs).bind _ = some (d, M') from e)
    obtain ⟨is, e4, e⟩ := Option.bind_eq_some_iff.mp e
    split at e <;> try contradiction
    rename_i hl
    cases e
    refine gen_callB (x := "sum") hg hm PyProof.Rows.boot_sum (by decide) (by decide) he he0 hN hr bm ok hcalm hi hs I hw fun J H1 H2 a gn s5 hR g2 t2 made => ?_
    obtain ⟨α1, In, n2, r2, it, hIn, ho⟩ := nn hR g2 t2
    refine call_sum_g hr made fun S => reads_col (C := cSum S _) hp hv r2 it hIn ho e3 hl (fun zs rr rest ys y H' ha rp => ?_) fun ys H' n3 rp => ?_
    · have h1 := ints_eq e4
      rw [ha] at h1
      have h2 : rr ∈ is.map P.int := by rw [← h1]; simp
      obtain ⟨i, _, rfl⟩ := List.mem_map.mp h2
      refine ⟨i, ?_⟩
      have hl2 := rp.length
      obtain ⟨v, hv1, hv2⟩ := rp.get (i := zs.length) (x := .int i) (by simp)
      simp only [List.length_append, List.length_singleton] at hl2
      rw [List.getElem?_append_right (by omega), show zs.length - ys.length = 0 from by omega] at hv1
      simp at hv1
      subst hv1
      rw [List.getLast?_append]
      simp
      exact hv2
    · rw [ints_ok rp e4]
      show Q (.int (isum _)) H'
      rw [isum_ints]
      exact q _ H' α1 (n2.trans r.mem n3) (by exact rfl)
  | all =>
    have e : (if s.xs.length + 1 < sizeLine then (gtest false (genT t (own.map (·.2)) fi fe ρ M1) s.xs).map fun b => (D.p (.bl b), M1) else none) = some (d, M') := e
    split at e <;> try contradiction
    rename_i hl
    obtain ⟨b0, e3, e⟩ := Option.map_eq_some_iff.mp e
    cases e
    refine gen_callB (x := "all") hg hm PyProof.Rows.boot_all (by decide) (by decide) he he0 hN hr bm ok hcalm hi hs I hw fun J H1 H2 a gn s5 hR g2 t2 made => ?_
    obtain ⟨α1, In, n2, r2, it, hIn, ho⟩ := nn hR g2 t2
    exact call_all_g hr made (reads_test hp hv r2 it hIn ho e3 hl fun H' n3 => q _ H' α1 (n2.trans r.mem n3) (by exact rfl))
  | any =>
    have e : (if s.xs.length + 1 < sizeLine then (gtest true (genT t (own.map (·.2)) fi fe ρ M1) s.xs).map fun b => (D.p (.bl b), M1) else none) = some (d, M') := e
    split at e <;> try contradiction
    rename_i hl
    obtain ⟨b0, e3, e⟩ := Option.map_eq_some_iff.mp e
    cases e
    refine gen_callB (x := "any") hg hm PyProof.Rows.boot_any (by decide) (by decide) he he0 hN hr bm ok hcalm hi hs I hw fun J H1 H2 a gn s5 hR g2 t2 made => ?_
    obtain ⟨α1, In, n2, r2, it, hIn, ho⟩ := nn hR g2 t2
    exact call_any_g hr made (reads_test hp hv r2 it hIn ho e3 hl fun H' n3 => q _ H' α1 (n2.trans r.mem n3) (by exact rfl))
end
end IX
end

section
set_option Elab.async false
set_option autoImplicit false
set_option linter.all false
set_option maxRecDepth 100000
set_option maxHeartbeats 4000000
/-! Calls of the text's own defs; a def's promise. -/
namespace IX
open PySem PySem.Spec PyProof.Rows L2 GX
/-- the promise of a def that gives what w gives -/
def spI (K : PySem.W.Frag) (np : Nat) (w : List D → Mem → Option (D × Mem)) : Sp := fun vs H Q _ => vs.length = np ∧ ∃ α ds M d M', RM K H α M ∧ TabAll H ∧ Trk K H ∧ RDs K H α ds vs ∧ w ds M = some (d, M') ∧
  ∀ v H' α', Nx K α H α' H' M' → RD K H' α' d v → Q v H'
section
variable {K : PySem.W.Frag} {H H' : Hp} {α α' : List Addr} {M M' : Mem}
theorem getAll_len {A : Type} {xs : List A} : ∀ {is : List Nat} {ys : List A}, getAll xs is = some ys → ys.length = is.length
  | [], ys, h => by cases h; rfl
  | i :: is, ys, h => by
    obtain ⟨x, e1, h⟩ := ob (show (do
      let x ← xs[i]?
      let rs ← getAll xs is
      some (x :: rs)) = some ys from h)
    obtain ⟨rs, e2, h⟩ := ob h
    cases h
    rw [List.length_cons, List.length_cons, getAll_len e2]
theorem getAll_get {A : Type} {xs : List A} : ∀ {is : List Nat} {ys : List A} {j i : Nat}, getAll xs is = some ys → is[j]? = some i → ys[j]? = xs[i]? ∧ ∃ y, xs[i]? = some y
  | [], _, _, _, _, h' => by simp at h'
  | i :: is, ys, j, i', h, h' => by
    obtain ⟨x, e1, h⟩ := ob (show (do
      let x ← xs[i]?
      let rs ← getAll xs is
      some (x :: rs)) = some ys from h)
    obtain ⟨rs, e2, h⟩ := ob h
    cases h
    cases j with
    | zero => simp at h'; subst h'; exact ⟨by simp [e1], x, e1⟩
    | succ j =>
      rw [List.getElem?_cons_succ] at h' ⊢
      exact getAll_get e2 h'
theorem getAll_mem {A : Type} {xs : List A} {is : List Nat} {ys : List A} (h : getAll xs is = some ys) : ∀ y ∈ ys, y ∈ xs := fun y hy => by
  obtain ⟨j, hj, e⟩ := List.mem_iff_getElem.mp hy
  have hj' : j < is.length := by rw [← getAll_len h]; exact hj
  obtain ⟨e1, z, e2⟩ := getAll_get (j := j) (i := is[j]) h (List.getElem?_eq_getElem hj')
  rw [List.getElem?_eq_getElem hj, e, e2] at e1
  cases e1
  exact List.mem_of_getElem? e2
theorem getAll_nodup {A : Type} {xs : List A} (hx : xs.Nodup) {is : List Nat} {ys : List A} (h : getAll xs is = some ys) (hi : is.Nodup) : ys.Nodup := by
  induction is generalizing ys with
  | nil => cases h; exact List.nodup_nil
  | cons i is ih =>
    obtain ⟨x, e1, h⟩ := ob (show (do
      let x ← xs[i]?
      let rs ← getAll xs is
      some (x :: rs)) = some ys from h)
    obtain ⟨rs, e2, h⟩ := ob h
    cases h
    rw [List.nodup_cons] at hi ⊢
    refine ⟨fun hm => ?_, ih e2 hi.2⟩
    obtain ⟨j, hj, e⟩ := List.mem_iff_getElem.mp hm
    have hj' : j < is.length := by rw [← getAll_len e2]; exact hj
    obtain ⟨e3, z, e4⟩ := getAll_get (j := j) (i := is[j]) e2 (List.getElem?_eq_getElem hj')
    rw [List.getElem?_eq_getElem hj, e, e4] at e3
    cases e3
    have : is[j] = i := (List.getElem?_inj (List.getElem?_eq_some_iff.mp e4).1 hx).mp (e4.trans e1.symm)
    exact hi.1 (by rw [← this]; exact List.getElem_mem hj')
mutual
theorem rp_und : ∀ (x : P) (v : V), RP K H α x v → x.und α.length = true
  | .non, _, _ => by simp [P.und]
  | .bl _, _, _ => by simp [P.und]
  | .int _, _, _ => by simp [P.und]
  | .str _, _, _ => by simp [P.und]
  | .tup l, v, h => by
    unfold RP at h
    obtain ⟨a, vs, _, _, r⟩ := h
    unfold P.und
    exact rps_und l vs r
  | .ref i, v, h => by
    unfold RP at h
    obtain ⟨a, e, _⟩ := h
    unfold P.und
    exact decide_eq_true (List.getElem?_eq_some_iff.mp e).1
theorem rps_und : ∀ (xs : List P) (vs : List V), RPs K H α xs vs → P.unds α.length xs = true
  | [], _, _ => by simp [P.unds]
  | x :: xs, v :: vs, h => by
    unfold RPs at h
    unfold P.unds
    rw [rp_und x v h.1, rps_und xs vs h.2]; rfl
  | _ :: _, [], h => by unfold RPs at h; exact h.elim
end
mutual
theorem rp_back (hp : Pre α α') : ∀ (x : P) (v : V), x.und α.length = true → RP K H α' x v → RP K H α x v
  | .non, _, _, h => h
  | .bl _, _, _, h => h
  | .int _, _, _, h => h
  | .str _, _, _, h => h
  | .tup l, v, u, h => by
    unfold P.und at u
    unfold RP at h ⊢
    obtain ⟨a, vs, e, q, r⟩ := h
    exact ⟨a, vs, e, q, rps_back hp l vs u r⟩
  | .ref i, v, u, h => by
    unfold P.und at u
    have hi := of_decide_eq_true u
    unfold RP at h ⊢
    obtain ⟨a, e, q⟩ := h
    have e2 := hp i _ (List.getElem?_eq_getElem hi)
    rw [e] at e2
    cases e2
    exact ⟨_, List.getElem?_eq_getElem hi, q⟩
theorem rps_back (hp : Pre α α') : ∀ (xs : List P) (vs : List V), P.unds α.length xs = true → RPs K H α' xs vs → RPs K H α xs vs
  | [], [], _, _ => by unfold RPs; trivial
  | x :: xs, v :: vs, u, h => by
    unfold P.unds at u
    rw [Bool.and_eq_true] at u
    unfold RPs at h ⊢
    exact ⟨rp_back hp x v u.1 h.1, rps_back hp xs vs u.2 h.2⟩
  | [], _ :: _, _, h => by unfold RPs at h; exact h.elim
  | _ :: _, [], _, h => by unfold RPs at h; exact h.elim
end
theorem unds_all : ∀ {n : Nat} {xs : List P}, xs.all (P.und n) = true → P.unds n xs = true
  | _, [], _ => by simp [P.unds]
  | n, x :: xs, h => by
    rw [List.all_cons, Bool.and_eq_true] at h
    unfold P.unds
    rw [h.1, unds_all h.2]; rfl
theorem call_ok {as : List D} {vs : List V} {w : List D → Mem → Option (D × Mem)} {d0 d : D} {M1 : Mem} {Q : VK} {E : XK} {np : Nat} (m : RM K H α M) (t : TabAll H) (tk : Trk K H) (r : RDs K H α as vs) (hl : vs.length = np)
    (hw : w as M = some (d0, M1)) (ho : back M d0 M1 = (d, M')) (q : ∀ v H' α', Nx K α H α' H' M' → RD K H' α' d v → Q v H') : spI K np w vs H Q E := by
  refine ⟨hl, α, as, M, d0, M1, m, t, tk, r, hw, fun v H' α' n rd => ?_⟩
  unfold back at ho
  split at ho
  · rename_i hc
    cases ho
    rw [Bool.and_eq_true] at hc
    obtain ⟨c1, c2⟩ := hc
    rw [← m.len] at c1
    have hle : α.length ≤ α'.length := by
      obtain ⟨β, e, _⟩ := n.ext
      rw [e, List.length_append]; omega
    have hM1 : M.length ≤ M1.length := by rw [← m.len, ← n.mem.len]; exact hle
    refine q v H' α ⟨n.grow, ⟨[], by simp, fun b h => by simp at h⟩, ⟨m.nd, by rw [List.length_take, m.len]; omega, fun i a xs e1 e2 => ?_⟩, n.tab⟩ ?_
    · have hi : i < M.length := by rw [← m.len]; exact (List.getElem?_eq_some_iff.mp e1).1
      rw [List.getElem?_take_of_lt hi] at e2
      obtain ⟨us, g1, g2⟩ := n.mem.cell i a xs (n.pre i a e1) e2
      refine ⟨us, g1, rps_back n.pre xs us ?_ g2⟩
      have c3 := List.all_eq_true.mp c2 i (List.mem_range.mpr hi)
      rw [Bool.or_eq_true] at c3
      rcases c3 with c3 | c3
      · have c3 := of_decide_eq_true c3
        rw [e2] at c3
        obtain ⟨ws, _, g3⟩ := m.cell i a xs e1 c3.symm
        exact rps_und xs ws g3
      · rw [e2] at c3
        rw [m.len]
        exact unds_all c3
    · cases d0 with
      | p x => exact rp_back n.pre x v c1 rd
      | scr xs =>
        obtain ⟨a, vs, e, h, r⟩ := rd
        refine ⟨a, vs, e, ?_, rps_back n.pre xs vs c1 r⟩
        rcases h with ⟨h, hn⟩ | h
        · refine .inl ⟨h, fun z => hn ?_⟩
          obtain ⟨β, e, _⟩ := n.ext
          rw [e]; exact List.mem_append_left _ z
        · exact .inr h
  · cases ho
    exact q v H' α' n rd
end
/-- no exception ever comes out -/
def CXF : CXT := fun _ _ _ _ _ _ => False
theorem passF {X : Cx} {E : XK} : Passes CXF X E := fun _ _ _ _ _ _ _ h => h.elim
section
variable {X : Cx} {fs : Env → Mem → Option (List D × Mem)} {e : Expr} {es : List Expr} {p pos : Pos} {k : Nat} {f : Addr} {fd : FuncData} {ps ks : List Str} {x : Str} {w : List D → Mem → Option (D × Mem)}
def callF (w : List D → Mem → Option (D × Mem)) (ix : List Nat) (fs : Env → Mem → Option (List D × Mem)) : Env → Mem → Option (D × Mem) := fun ρ M => do
  let (ds, M) ← fs ρ M
  let as ← getAll ds ix
  let (d, M') ← w as M
  some (back M d M')
theorem rds_len {K : PySem.W.Frag} {H : Hp} {α : List Addr} : ∀ {ds : List D} {vs : List V}, RDs K H α ds vs → ds.length = vs.length
  | [], [], _ => rfl
  | _ :: ds, _ :: vs, h => by rw [List.length_cons, List.length_cons, rds_len h.2]
  | [], _ :: _, h => h.elim
  | _ :: _, [], h => h.elim
theorem rds_get {K : PySem.W.Frag} {H : Hp} {α : List Addr} : ∀ {ds : List D} {vs : List V} {i : Nat} {d : D}, RDs K H α ds vs → ds[i]? = some d → ∃ v, vs[i]? = some v ∧ RD K H α d v
  | [], _, _, _, _, e => by simp at e
  | d :: ds, v :: vs, 0, d', h, e => by simp at e; subst e; exact ⟨v, rfl, h.1⟩
  | d :: ds, v :: vs, i + 1, d', h, e => by simpa using rds_get h.2 (by simpa using e)
  | _ :: _, [], _, _, h, _ => h.elim
theorem rds_all {K : PySem.W.Frag} {H : Hp} {α : List Addr} {ds : List D} {vs : List V} (h : RDs K H α ds vs) : ∀ {ix : List Nat} {as : List D}, getAll ds ix = some as → ∃ us, getAll vs ix = some us ∧ RDs K H α as us
  | [], as, e => by cases e; exact ⟨[], rfl, trivial⟩
  | i :: ix, as, e => by
    obtain ⟨d, e1, e⟩ := ob (show (do
      let x ← ds[i]?
      let rs ← getAll ds ix
      some (x :: rs)) = some as from e)
    obtain ⟨rs, e2, e⟩ := ob e
    cases e
    obtain ⟨v, g1, g2⟩ := rds_get h e1
    obtain ⟨us, g3, g4⟩ := rds_all h e2
    exact ⟨v :: us, by show (vs[i]? >>= _) = _; rw [g1]; show (getAll vs ix >>= _) = _; rw [g3]; rfl, g2, g4⟩
theorem getAll_id {A : Type} (xs : List A) : getAll xs (List.range xs.length) = some xs := by
  have key : ∀ (ys pre : List A), getAll (pre ++ ys) (List.range' pre.length ys.length) = some ys := by
    intro ys
    induction ys with
    | nil => intro pre; rfl
    | cons y ys ih =>
      intro pre
      rw [List.length_cons, List.range'_succ]
      show ((pre ++ y :: ys)[pre.length]? >>= _) = _
      rw [List.getElem?_append_right (Nat.le_refl _), Nat.sub_self]
      have := ih (pre ++ [y])
      rw [List.append_assoc, List.singleton_append, List.length_append, List.length_singleton] at this
      show (getAll (pre ++ y :: ys) (List.range' (pre.length + 1) ys.length) >>= _) = _
      rw [this]; rfl
  have := key xs []
  rw [List.nil_append] at this
  rw [List.range_eq_range']
  exact this
/-- f(a, ..) all by place -/
theorem s_call (F : FnOk X.prog X.w X.K X.mg X.base CXF k f fd ps (spI X.K ps.length w)) (hr : Room k X.A) (hg : Gl X x) (hm : X.mg x = some (.ref f)) (hk : PySem.W.keepIn X.K (.ref f) = true) (hb : Binds X.K fd ps [])
    (ha : PA X (e :: es) (tIA X fs)) (hdb : (x == ("__debug__" : Str)) = false) (he : starEach (e :: es) X.env = (false, eval e X.env) :: starEach es X.env) (hpl : (backTo pos (starEach es X.env)).any (·.1) = false)
    (hn : (e :: es).length = ps.length) (h1 : ∀ ρ M ds M', fs ρ M = some (ds, M') → ds.length = (e :: es).length) :
    PE X (.Call (.Name x p) (e :: es) [] pos) (tI X (callF w (List.range ps.length) fs)) := (pe_call (E := fun _ _ _ => False) F hr hg hm hk hb .nil passF ha hdb he hpl).weak fun σ H Q h => by
  obtain ⟨ρ, M, α, d, M', r, e0, q⟩ := h
  obtain ⟨⟨ds, M1⟩, e1, e0⟩ := ob e0
  obtain ⟨as, e2, e0⟩ := ob e0
  obtain ⟨⟨d0, Mc⟩, e4, e0⟩ := ob e0
  have e9 := Option.some.inj e0
  have hl := h1 _ _ _ _ e1
  rw [← hn, ← hl, getAll_id] at e2
  cases e2
  refine tIA.use r e1 fun vs H1 α1 n1 rd r1 => ?_
  rw [List.append_nil]
  refine call_ok r1.mem r1.tab r1.trk rd ?_ e4 e9 fun v H' α' n d => q v H' α' (n1.trans r.mem n) d
  rw [← rds_len rd, hl, hn]
/-- f(k = a, ..) all by name -/
theorem pe_callK0 {CX : CXT} {E : XK} {sp : Sp} {kws : List Keyword} {tk : TA} {g : List Value → List Value → List Value} {gV : List V → List V → List V} (F : FnOk X.prog X.w X.K X.mg X.base CX k f fd ps sp) (hr : Room k X.A) (hg : Gl X x) (hm : X.mg x = some (.ref f)) (hk : PySem.W.keepIn X.K (.ref f) = true) (hb : KBinds X.K fd ps ks g gV) (hx : Passes CX X E)
    (hkw : PK X kws tk) (hall : (backToKw pos (keywordEach kws X.env)).all (·.1.isSome) = true) (hks : (backToKw pos (keywordEach kws X.env)).filterMap (·.1) = ks)
    (hdb : (x == ("__debug__" : Str)) = false) (hpl : ((backTo pos (starEach [] X.env)).any (·.1) || (backToKw pos (keywordEach kws X.env)).any (·.1.isNone)) = false) :
    PE X (.Call (.Name x p) [] kws pos) (tCallK sp gV E tNil tk) := by
  refine ⟨fun pins s σ H Q I h => ?_⟩
  refine wpAny_Call_Name_kw (ld_glob I hg hm ?_ hdb)
  refine PySem.W.callWith_KW0 (h₀ := X.base) I.ok.mod.kin hk hall (thn (hkw.run pos pins s σ H _ I h) fun ws s2 ⟨zs, H2, I2, rz, q2⟩ => ⟨I2.kIn, ?_⟩) hpl
  rw [hks]
  exact run_fnk (us := []) (vs := []) F hr hb hx I2 .nil rz q2
def tIK := @tIA
theorem k_nil : PK X [] (tIA X fun _ M => some ([], M)) := ⟨fun pos pins s σ H Q I h => pk_nil.run pos pins s σ H Q I (by
  obtain ⟨ρ, M, α, d, M', r0, e, q⟩ := h
  cases e
  exact q [] H α (Nx.refl r0.mem r0.tab) trivial)⟩
theorem k_cons {fa : Env → Mem → Option (D × Mem)} {kws : List Keyword} {nm : Option Str} {kpos : Pos} (ha : PE X e (tI X fa)) (hs : PK X kws (tIA X fs)) : PK X (⟨nm, e, kpos⟩ :: kws) (tIA X fun ρ M => do
      let (x, M) ← fa ρ M
      let (xs, M) ← fs ρ M
      some (x :: xs, M)) := ⟨fun pos pins s σ H Q I h => (pk_cons ha hs).run pos pins s σ H Q I (by
  obtain ⟨ρ, M, α, d, M', r0, e, q⟩ := h
  obtain ⟨⟨x, M1⟩, e1, e⟩ := ob e
  obtain ⟨⟨xs, M2⟩, e2, e⟩ := ob e
  cases e
  exact tI.use r0 e1 fun v H1 α1 n1 d1 r1 => tIA.use r1 e2 fun vs H2 α2 n2 d2 r2 => q _ H2 α2 (n1.trans r0.mem n2) ⟨n2.rd r1.mem d1, d2⟩)⟩
/-- the keywords ks, each parameter once: the order -/
def ixOf (ps ks : List Str) : List Nat := ps.map fun p => ks.findIdx (· == p)
def gKs (ps ks : List Str) {A : Type} (us ws : List A) : List A := match us with
  | [] => (getAll ws (ixOf ps ks)).getD []
  | _ => []
theorem s_callk {kws : List Keyword} (F : FnOk X.prog X.w X.K X.mg X.base CXF k f fd ps (spI X.K ps.length w)) (hr : Room k X.A) (hg : Gl X x) (hm : X.mg x = some (.ref f)) (hk : PySem.W.keepIn X.K (.ref f) = true)
    (hb : KBinds X.K fd ps ks (gKs ps ks) (gKs ps ks))
    (hkw : PK X kws (tIA X fs)) (hall : (backToKw pos (keywordEach kws X.env)).all (·.1.isSome) = true) (hks : (backToKw pos (keywordEach kws X.env)).filterMap (·.1) = ks)
    (hdb : (x == ("__debug__" : Str)) = false) (hpl : ((backTo pos (starEach [] X.env)).any (·.1) || (backToKw pos (keywordEach kws X.env)).any (·.1.isNone)) = false) :
    PE X (.Call (.Name x p) [] kws pos) (tI X (callF w (ixOf ps ks) fs)) := (pe_callK0 (E := fun _ _ _ => False) F hr hg hm hk hb passF hkw hall hks hdb hpl).weak fun σ H Q h => by
  obtain ⟨ρ, M, α, d, M', r, e0, q⟩ := h
  obtain ⟨⟨ds, M1⟩, e1, e0⟩ := ob e0
  obtain ⟨as, e2, e0⟩ := ob e0
  obtain ⟨⟨d0, Mc⟩, e4, e0⟩ := ob e0
  have e9 := Option.some.inj e0
  refine tIA.use r e1 fun vs H1 α1 n1 rd r1 => ?_
  obtain ⟨us, g1, g2⟩ := rds_all rd e2
  show spI X.K ps.length w ((getAll vs (ixOf ps ks)).getD []) H1 Q _
  rw [g1]
  refine call_ok r1.mem r1.tab r1.trk g2 ?_ e4 e9 fun v H' α' n d => q v H' α' (n1.trans r.mem n) d
  show us.length = _
  rw [getAll_len g1]
  simp [ixOf]
end
/-- a def's promise from its body -/
theorem fn_I {P : Program} {w : World} {K : PySem.W.Frag} {mg : Str → Option Value} {base : Heap} {k : Nat} {f : Addr} {name qual : Str} {params : Arguments} {body : List Stmt} {scope : Scope} {dV kV doc pm cdv ct oc : Value} {an od : Option Addr}
    {osl : Array (Option Value)} {N ps : List Str} {W : List D → Mem → Option (D × Mem)} {fb : Env → Mem → Option Out} (lk : K.lookup f = some ⟨oc, od, .func (PySem.W.fnOf name qual params body scope dV kV doc pm an cdv ct), osl⟩) (hcd : PySem.W.codeIn K cdv qual = true) (S : FnScope N ps scope)
    (hbase : K.In base) {c Pt : Addr} (hcd2 : cdv = .ref c) (hct : PySem.W.codeHdIn K c Pt = true)
    (hW : ∀ ds M d M', ds.length = ps.length → W ds M = some (d, M') → ∃ o, fb (ds.map some ++ List.replicate (N.length - ps.length) none) M = some o ∧ fin o = some (d, M'))
    (hbody : ∀ (A : Around) (outer : List PySem.Env) (s : Shared) (H : Hp) (E : XK), Room k (A.deeper (envOfC qual scope s.heap.objs.size f cdv)) →
      PSs (cxOf CXF P w K mg base N qual scope f cdv A outer s H E) body (tS (cxOf CXF P w K mg base N qual scope f cdv A outer s H E) fb)) :
    FnOk P w K mg base CXF (k + 1) f (PySem.W.fnOf name qual params body scope dV kV doc pm an cdv ct) ps (spI K ps.length W) := by
  refine fn_of lk hcd S (fun vs H Q E h => h.1) fun A outer s H vs Q E hr h => ?_
  refine ⟨_, hbody A outer s H E hr, ?_⟩
  obtain ⟨hl, α, ds, M, d, M', m, t, tk, rd, hw, q⟩ := h
  have hdl := rds_len rd
  have hch := PySem.W.codeHd_of_K hbase hct
  have hne : c ≠ Pt := by obtain ⟨_, _, _, _, _, _, _, _, _, _, _, _, _, _, _, _, _, _, hne⟩ := hch; exact hne
  obtain ⟨o, h1, h2⟩ := hW ds M d M' (by rw [hdl, hl]) hw
  refine ⟨_, M, α, o, ⟨?_, m, t, ⟨c, Pt, hcd2, hne, tk c Pt hct, .inl hch⟩, tk⟩, h1, ?_⟩
  · have hpl : ps.length ≤ N.length := by have := congrArg List.length S.pre; rw [List.length_take] at this; omega
    refine ⟨?_, fun i d' hi => ?_⟩
    · unfold L2.start
      simp only [List.length_append, List.length_map, List.length_replicate, hdl, hl]
    · by_cases hlt : i < ds.length
      · rw [List.getElem?_append_left (by simpa using hlt), List.getElem?_map] at hi
        obtain ⟨d2, e1, e2⟩ := Option.map_eq_some_iff.mp hi
        cases e2
        obtain ⟨v, g1, g2⟩ := rds_get rd e1
        refine ⟨v, ?_, g2⟩
        unfold L2.start
        rw [List.getElem?_append_left (by rw [List.length_map, ← hdl]; exact hlt), List.getElem?_map, g1]
        rfl
      · rw [List.getElem?_append_right (by simpa using hlt), List.getElem?_replicate] at hi
        split at hi <;> cases hi
  · cases o with
    | rt d2 M2 => cases h2; exact q
    | nx ρ2 M2 => cases h2; exact fun σ' H' α' n _ => q .non H' α' n rfl
    | bk _ _ => cases h2
    | ct _ _ => cases h2
end IX
end

section
set_option Elab.async false
set_option autoImplicit false
set_option linter.all false
set_option maxRecDepth 100000
set_option maxHeartbeats 4000000
/-! From the program's text to the small language. -/
namespace IX
open PySem PySem.Spec PyProof.Rows L2 GX
/-- what is known of the module: constants; defs by number, with parameters and the keyword orders that are called -/
structure Pg where
  G : List (Str × P)
  F : List (Str × (Nat × List Str × List (List Str)))
def bltN : List Str := ["len", "abs", "int", "bool", "max", "min", "sum", "tuple", "list", "isinstance", "all", "any", "range", "enumerate", "zip", "str"]
def slotOf (N : List Str) (x : Str) : Option Nat := N.findIdx? (· == x)
def okName (x : Str) : Bool := !(x == ("__debug__" : Str)) && !(x == ("__classdict__" : Str))
def isVis (sc : Scope) (x : Str) : Bool := match sc.names.lookup x with
  | some .local | some .cell | some .free => true
  | _ => false
def isLoc (sc : Scope) (x : Str) : Bool := match sc.names.lookup x with
  | some .local | some .cell => true
  | _ => false
def isGl (sc : Scope) (x : Str) : Bool := match sc.names.lookup x with
  | some .globalImplicit => true
  | _ => false
def cstP : Const → Option P
  | .none => some .non
  | .bool b => some (.bl b)
  | .int i => some (.int i)
  | .str x => some (.str x)
  | _ => none
def opB : Operator → Option BO
  | .Add => some .add | .Sub => some .sub | .Mult => some .mul | .FloorDiv => some .fdiv | .Mod => some .mod | .Pow => some .pow
  | _ => none
def opC : CmpOp → CO
  | .Eq => .eq | .NotEq => .ne | .Lt => .lt | .LtE => .le | .Gt => .gt | .GtE => .ge | .Is => .is | .IsNot => .isnot | .In => .isin | .NotIn => .notin
def notStar : Expr → Bool
  | .Starred _ _ => false
  | _ => true
def notSlice : Expr → Bool
  | .Slice _ _ _ _ => false
  | _ => true
def notSet : Expr → Bool
  | .Set _ _ _ => false
  | .List _ _ => false
  | _ => true
def plainT : Expr → Bool
  | .Name _ _ | .Call _ _ _ _ | .Subscript _ _ _ | .BinOp _ _ _ _ | .Constant _ _ _ => true
  | _ => false
def ownOf (N : List Str) (scope : Scope) : List (Str × Nat) := scope.names.filterMap fun y => match y.2 with
  | .local | .cell => (slotOf N y.1).map fun i => (y.1, i)
  | _ => none
def isM1 : Expr → Bool
  | .UnaryOp .USub (.Constant (.int i) _ _) _ => i == 1
  | _ => false
def biOf (x : Str) : Option BI := (List.lookup x ([("len", .len), ("abs", .abs), ("int", .int), ("bool", .bool), ("max", .max), ("min", .min), ("sum", .sum), ("tuple", .tuple), ("list", .list)] : List (Str × BI)))
def gkOf (x : Str) : Option GK := (List.lookup x ([("tuple", .tuple), ("sum", .sum), ("all", .all), ("any", .any)] : List (Str × GK)))
def tyOf (x : Str) : Option BI := (List.lookup x ([("int", .isint), ("bool", .isbool), ("tuple", .istup), ("str", .isstr)] : List (Str × BI)))
def subB (t : T) (own : List (Str × Nat)) : Bool := t.slots.all fun i => (own.map (·.2)).contains i
mutual
def trG (N : List Str) (sc : Scope) : Nat → Expr → Option T
  | 0, _ => none
  | n + 1, e => match e with
    | .Name x _ => if isLoc sc x then (slotOf N x).map .nm else none
    | .Tuple es _ _ => (trGs N sc n es).map .tp
    | _ => none
termination_by structural n => n
def trGs (N : List Str) (sc : Scope) : Nat → List Expr → Option (List T)
  | 0, _ => none
  | _ + 1, [] => some []
  | n + 1, e :: es => if notStar e then (trG N sc n e).bind fun t => (trGs N sc n es).map fun ts => t :: ts else none
termination_by structural n => n
end
def okBase : Expr → Bool
  | .Name _ _ => true
  | .Subscript _ _ _ => true
  | _ => false
def mtOf (x : Str) (k : Nat) : Option MT := if x == ("pop" : Str) then (if k = 0 then some .pop else some .popi) else (List.lookup x ([("append", .append), ("extend", .extend), ("insert", .insert), ("reverse", .reverse), ("remove", .remove)] : List (Str × MT)))
mutual
def trE (π : Pg) : Nat → Nat → List Str → Scope → Expr → Option E
  | 0, _, _, _, _ => none
  | n + 1, g, N, sc, e => match e with
    | .Constant c _ _ => (cstP c).map .c
    | .Name x _ => if okName x then (if isVis sc x then (slotOf N x).map .v else if isGl sc x then (π.G.lookup x).map fun _ => .g x else none) else none
    | .BinOp a o b _ => (opB o).bind fun o => (trE π n g N sc a).bind fun A => (trE π n g N sc b).map fun B => .bin o A B
    | .UnaryOp .USub a _ => (trE π n g N sc a).map .neg
    | .UnaryOp .Not a _ => (trE π n g N sc a).map .not
    | .BoolOp .And (e :: es) _ => (trEs π n g N sc (e :: es)).map .and
    | .BoolOp .Or (e :: es) _ => (trEs π n g N sc (e :: es)).map .or
    | .Compare a [o] [b] _ => if behindInMarks (coOp (opC o)) b then none else (trE π n g N sc a).bind fun A => (trE π n g N sc b).map fun B => .cmp (opC o) A B
    | .Compare a [o, o'] [b, c] _ => if lastMarks [coOp (opC o), coOp (opC o')] [b, c] then none else (trE π n g N sc a).bind fun A => (trE π n g N sc b).bind fun B => (trE π n g N sc c).map fun C => .cmp2 (opC o) (opC o') A B C
    | .IfExp c a b _ => (trT π n g N sc c).bind fun C => (trE π n g N sc a).bind fun A => (trE π n g N sc b).map fun B => .ife C A B
    | .Tuple es _ _ => (trEs π n g N sc es).map .tup
    | .List es _ => (trEs π n g N sc es).map .lst
    | .Subscript a (.Slice lo hi (some st) _) _ => if lo.isNone && hi.isNone && isM1 st then (trE π n g N sc a).map fun A => .bi .rv [A] else none
    | .Subscript a (.Slice lo hi none _) _ => (trE π n g N sc a).bind fun A => (trO π n g N sc lo).bind fun L => (trO π n g N sc hi).map fun H => .slc A L H
    | .Subscript a b _ => if notSlice b then (trE π n g N sc a).bind fun A => (trE π n g N sc b).map fun B => .idx A B else none
    | .Call (.Attribute o x apos) args [] pos => if apos.endLine == pos.line && okBase o then (mtOf x args.length).bind fun m => if okM m args.length && mtNm m == x then (trE π n g N sc o).bind fun O => (trEs π n g N sc args).map fun l => .mt m O l else none else none
    | .Call (.Name x _) args kws _ => if isGl sc x && okName x then trC π n g N sc x args kws else none
    | .ListComp elt [⟨tg, iter, ifs, 0⟩] scope _ =>
      let own := ownOf N scope
      if blkC N sc scope own && notSet iter then (trI π n g N sc tg iter).bind fun q => (trG N scope n tg).bind fun t => (trTs π n g N (relS scope sc) ifs).bind fun is => (trE π n g N (relS scope sc) elt).bind fun A => if subB t own then some (.lc (own.map (·.2)) A t q.1 q.2 is) else none else none
    | .ListComp elt [⟨tg, iter, ifs, 0⟩, ⟨tg1, iter1, ifs1, 0⟩] scope _ =>
      let own := ownOf N scope
      if blkC N sc scope own && notSet iter && notSet iter1 then (trI π n g N sc tg iter).bind fun q => (trG N scope n tg).bind fun t => (trTs π n g N (relS scope sc) ifs).bind fun is => (trI π n g N (relS scope sc) tg1 iter1).bind fun q1 => (trG N scope n tg1).bind fun t1 =>
        (trTs π n g N (relS scope sc) ifs1).bind fun is1 => (trE π n g N (relS scope sc) elt).bind fun A => if subB t own && subB t1 own then some (.lc2 (own.map (·.2)) A t q.1 q.2 is t1.slots t1 q1.1 q1.2 is1) else none else none
    | _ => none
termination_by structural n => n
def trC (π : Pg) : Nat → Nat → List Str → Scope → Str → List Expr → List Keyword → Option E
  | 0, _, _, _, _, _, _ => none
  | n + 1, g, N, sc, x, args, kws => match π.F.lookup x with
    | some (i, ps, kss) => match args, kws with
      | e :: es, [] => if (e :: es).length == ps.length then (trEs π n g N sc (e :: es)).map fun l => .call i l (List.range ps.length) else none
      | [], kws => if kws.all (fun k => k.arg.isSome) && kss.contains (kws.filterMap (·.arg)) then (trKs π n g N sc kws).map fun l => .call i l (ixOf ps (kws.filterMap (·.arg))) else none
      | _, _ => none
    | none => match args, kws with
      | [a, .Name t _], [] => if x == ("isinstance" : Str) then (if isGl sc t && okName t && notStar a then (tyOf t).bind fun b => (trE π n g N sc a).map fun A => .bi b [A] else none)
          else (biOf x).bind fun b => (trEs π n g N sc args).map fun l => .bi b l
      | [.GeneratorExp elt [⟨tg, iter, ifs, 0⟩] scope _], [] => match g with
        | 0 => none
        | g + 1 =>
          let own := ownOf N scope
          if blkC N sc scope own && notSet iter && !scope.isCoroutine && decide (scope.names.lookup (".0" : Str) = some NameKind.local) then (gkOf x).bind fun gk => (trI π n (g + 1) N sc tg iter).bind fun q => (trG N scope n tg).bind fun t => (trTs π n g N scope ifs).bind fun is => (trE π n g N scope elt).bind fun A =>
            if subB t own then some (.gen gk (own.map (·.2)) A t q.1 q.2 is) else none else none
      | e :: es, [] => (biOf x).bind fun b => (trEs π n g N sc (e :: es)).map fun l => .bi b l
      | _, _ => none
termination_by structural n => n
def trT (π : Pg) : Nat → Nat → List Str → Scope → Expr → Option E
  | 0, _, _, _, _ => none
  | n + 1, g, N, sc, e => match e with
    | .BoolOp .And (e :: es) _ => (trTl π n g N sc (e :: es)).map .and
    | .BoolOp .Or (e :: es) _ => (trTl π n g N sc (e :: es)).map .or
    | .UnaryOp .Not a _ => (trT π n g N sc a).map .not
    | .Compare a [o] [b] _ => if behindInMarks (coOp (opC o)) b then none else (trE π n g N sc a).bind fun A => (trE π n g N sc b).map fun B => .cmp (opC o) A B
    | .Compare a [o, o'] [b, c] _ => if lastMarks [coOp (opC o), coOp (opC o')] [b, c] then none else (trE π n g N sc a).bind fun A => (trE π n g N sc b).bind fun B => (trE π n g N sc c).map fun C => .cmp2 (opC o) (opC o') A B C
    | e => if plainT e then (trE π n g N sc e).map .tru else none
termination_by structural n => n
def trEs (π : Pg) : Nat → Nat → List Str → Scope → List Expr → Option (List E)
  | 0, _, _, _, _ => none
  | _ + 1, _, _, _, [] => some []
  | n + 1, g, N, sc, e :: es => if notStar e then (trE π n g N sc e).bind fun A => (trEs π n g N sc es).map fun l => A :: l else none
termination_by structural n => n
def trKs (π : Pg) : Nat → Nat → List Str → Scope → List Keyword → Option (List E)
  | 0, _, _, _, _ => none
  | _ + 1, _, _, _, [] => some []
  | n + 1, g, N, sc, ⟨_, e, _⟩ :: es => (trE π n g N sc e).bind fun A => (trKs π n g N sc es).map fun l => A :: l
termination_by structural n => n
def trTl (π : Pg) : Nat → Nat → List Str → Scope → List Expr → Option (List E)
  | 0, _, _, _, _ => none
  | _ + 1, _, _, _, [] => some []
  | n + 1, g, N, sc, e :: es => (trT π n g N sc e).bind fun A => (trTl π n g N sc es).map fun l => A :: l
termination_by structural n => n
def trTs (π : Pg) : Nat → Nat → List Str → Scope → List Expr → Option (List E)
  | 0, _, _, _, _ => none
  | _ + 1, _, _, _, [] => some []
  | n + 1, g, N, sc, [c] => (trT π n g N sc c).map fun A => [A]
  | _ + 1, _, _, _, _ => none
termination_by structural n => n
def trO (π : Pg) : Nat → Nat → List Str → Scope → Option Expr → Option (Option E)
  | 0, _, _, _, _ => none
  | _ + 1, _, _, _, none => some none
  | n + 1, g, N, sc, some e => (trE π n g N sc e).map some
termination_by structural n => n
def trI (π : Pg) : Nat → Nat → List Str → Scope → Expr → Expr → Option (IK × List E)
  | 0, _, _, _, _, _ => none
  | n + 1, g, N, sc, tg, iter => match iter with
    | .Call (.Name x _) args [] _ =>
      if x == ("range" : Str) && isGl sc x && (π.F.lookup x).isNone then (match args with
        | [a] => (trEs π n g N sc [a]).map fun l => (.rng, l)
        | [a, b] => (trEs π n g N sc [a, b]).map fun l => (.rng, l)
        | _ => none)
      else if x == ("enumerate" : Str) && isGl sc x && (π.F.lookup x).isNone then (match tg, args with
        | .Tuple _ _ _, [a] => (trEs π n g N sc [a]).map fun l => (.enm, l)
        | _, _ => none)
      else if x == ("zip" : Str) && isGl sc x && (π.F.lookup x).isNone then (match tg, args with
        | .Tuple _ _ _, [a, b] => (trEs π n g N sc [a, b]).map fun l => (.zip, l)
        | _, _ => none)
      else (trE π n g N sc iter).map fun A => (.seq, [A])
    | iter => (trE π n g N sc iter).map fun A => (.seq, [A])
termination_by structural n => n
end
/-! statements -/
def notComp : Expr → Bool
  | .ListComp _ _ _ _ | .SetComp _ _ _ _ | .DictComp _ _ _ _ _ => false
  | _ => true
def swB (sc : Scope) (t : Str) (p : Pos) (e : Expr) : Bool := match e with
  | .ListComp _ _ s q => (match sc.names.lookup t with | some .local => true | _ => false) && p.line == q.line && !(s.names.any fun (n, k) => n == t && (k == .local || k == .cell))
  | _ => false
def locN (sc : Scope) (l : Nat) : Expr → Option Str
  | .Name id pos => if (match sc.names.lookup id with | some .local => true | _ => false) && pos.line == l then some id else none
  | _ => none
/-- a pair, a triple of plain names, stored from the right -/
def trP (π : Pg) (n g : Nat) (N : List Str) (sc : Scope) (ts vs : List Expr) : Option S := match ts, vs with
  | [.Name x px, .Name y py], [a, b] =>
    (slotOf N x).bind fun i => (slotOf N y).bind fun j => if i != j && (locN sc px.line (.Name x px)).isSome && (locN sc px.line (.Name y py)).isSome && notStar a && notStar b && !(foldedForSure 8 a && foldedForSure 8 b) && !(constantsAlone 8 a && constantsAlone 8 b) then
      (trEs π n g N sc [a, b]).map fun l => .par [i, j] l else none
  | [.Name x px, .Name y py, .Name z pz], [a, b, c] =>
    (slotOf N x).bind fun i => (slotOf N y).bind fun j => (slotOf N z).bind fun l => if i != j && i != l && j != l && (locN sc px.line (.Name x px)).isSome && (locN sc px.line (.Name y py)).isSome && (locN sc px.line (.Name z pz)).isSome && notStar a && notStar b && notStar c &&
        !(foldedForSure 8 a && foldedForSure 8 b && foldedForSure 8 c) && !(constantsAlone 8 a && constantsAlone 8 b && constantsAlone 8 c) then
      (trEs π n g N sc [a, b, c]).map fun q => .par [i, j, l] q else none
  | _, _ => none
/-- one of the names is no plain local -/
def anyOff (sc : Scope) (ts : List Expr) : Bool := ts.any fun t => (locN sc ((ts.head?.map (·.pos.line)).getD 0) t).isNone
/-- target = e -/
def trA (π : Pg) (n g : Nat) (N : List Str) (sc : Scope) (tg e : Expr) : Option S := match tg with
    | .Name x _ => if isLoc sc x then (slotOf N x).bind fun i => (trE π n g N sc e).map fun A => .set (.nm i) A else none
    | .Subscript o i _ => if notSlice i then (trE π n g N sc o).bind fun O => (trE π n g N sc i).bind fun I => (trE π n g N sc e).map fun A => .seti O I A else none
    | .Tuple ts k tp => match e with
      | .Tuple vs k2 tp2 => if anyOff sc ts || vs.all (foldedForSure 8) then (trG N sc n (.Tuple ts k tp)).bind fun t => (trE π n g N sc e).map fun A => .set t A else trP π n g N sc ts vs
      | e => if notComp e then (trG N sc n (.Tuple ts k tp)).bind fun t => (trE π n g N sc e).map fun A => .set t A else none
    | _ => none
mutual
def trS (π : Pg) : Nat → Nat → List Str → Scope → Stmt → Option S
  | 0, _, _, _, _ => none
  | n + 1, g, N, sc, st => match st with
    | .Expr (.Constant (.str _) _ _) _ => some .pas
    | .Expr e _ => if notComp e then (trE π n g N sc e).map .ex else none
    | .Return none _ => some .retn
    | .Return (some e) _ => (trE π n g N sc e).map .ret
    | .Pass _ => some .pas
    | .Break _ => some .brk
    | .Continue _ => some .cnt
    | .If c a b _ => (trT π n g N sc c).bind fun C => (trSs π n g N sc a).bind fun A => (trSs π n g N sc b).map fun B => .ife C A B
    | .While c b [] _ => (trT π n g N sc c).bind fun C => (trSs π n g N sc b).map fun B => .whl C B
    | .For tg iter b [] _ => if notSet iter then (trI π n g N sc tg iter).bind fun q => (trG N sc n tg).bind fun t => (trSs π n g N sc b).map fun B => .loop t q.1 q.2 B else none
    | .AugAssign (.Name x _) o e _ => if isLoc sc x then (slotOf N x).bind fun i => (opB o).bind fun o => (trE π n g N sc e).map fun A => .aug i o A else none
    | .AugAssign (.Subscript a i _) o e _ => if notSlice i then (opB o).bind fun o => (trE π n g N sc a).bind fun A => (trE π n g N sc i).bind fun I => (trE π n g N sc e).map fun B => .augi A I o B else none
    | .Assign [tg] e pos => trA π n g N sc tg e
    | _ => none
termination_by structural n => n
def trSs (π : Pg) : Nat → Nat → List Str → Scope → List Stmt → Option (List S)
  | 0, _, _, _, _ => none
  | _ + 1, _, _, _, [] => some []
  | n + 1, g, N, sc, s :: ss => (trSs π n g N sc ss).map fun l => (trS π n g N sc s).getD .stk :: l
termination_by structural n => n
end
end IX
end

section
set_option Elab.async false
set_option autoImplicit false
set_option linter.all false
set_option maxRecDepth 100000
set_option maxHeartbeats 4000000
/-! The translation is sound: expressions. -/
namespace IX
open PySem PySem.Spec PyProof.Rows L2 GX
structure CtxOk (π : Pg) (W : Wd) (lv g : Nat) (N : List Str) (sc : Scope) (X : Cx) : Prop where
  hN : X.N = N
  hsc : X.env.scope = sc
  nd : N.Nodup
  room : Room (lv + g) X.A
  calm : X.calm = true
  bm : BmAt X.base X.mg
  blt : ∀ x ∈ bltN, X.mg x = none
  con : ∀ x p, π.G.lookup x = some p → ∃ u v, X.mg x = some u ∧ RelV v u ∧ ∀ H α, RP X.K H α p v
  fns : ∀ x i ps kss, π.F.lookup x = some (i, ps, kss) → ∃ f fd, X.mg x = some (.ref f) ∧ PySem.W.keepIn X.K (.ref f) = true ∧ FnOk X.prog X.w X.K X.mg X.base CXF lv f fd ps (spI X.K ps.length (W i)) ∧ Binds X.K fd ps [] ∧
    ∀ ks ∈ kss, KBinds X.K fd ps ks (gKs ps ks) (gKs ps ks)
section
variable {e : Expr} {es : List Expr} {env : PySem.Env} {pos : Pos}
theorem star_cons (h : notStar e = true) : starEach (e :: es) env = (false, eval e env) :: starEach es env := by
  cases e <;> first | rfl | cases h
theorem star_any : ∀ {es : List Expr}, es.all notStar = true → (backTo pos (starEach es env)).any (·.1) = false
  | [], _ => rfl
  | e :: es, h => by
    rw [List.all_cons, Bool.and_eq_true] at h
    rw [star_cons h.1]
    show (false || (backTo pos (starEach es env)).any (·.1)) = false
    rw [star_any h.2]; rfl
theorem asg_cons (h : notStar e = true) : assignEach (e :: es) env = (false, assign e env) :: assignEach es env := by
  cases e <;> first | rfl | cases h
theorem asg_len : ∀ {es : List Expr}, es.all notStar = true → (assignEach es env).length = es.length ∧ (assignEach es env).findIdx? (·.1) = none
  | [], _ => ⟨rfl, rfl⟩
  | e :: es, h => by
    rw [List.all_cons, Bool.and_eq_true] at h
    rw [asg_cons h.1]
    have := asg_len (es := es) h.2
    exact ⟨by rw [List.length_cons, List.length_cons, this.1], by rw [List.findIdx?_cons]; simp [this.2]⟩
theorem plain_ix (h : notSlice e = true) : PlainIx e := by
  cases e <;> first | (intro _ _; rfl) | cases h
theorem set_fold (h : notSet e = true) : ∀ x, foldedSetIterable e env x = pure x := by
  cases e <;> first | (intro _; rfl) | cases h
theorem gen_fold (h : notSet e = true) : ∀ x, genFold e env x = pure x := by
  cases e <;> first | (intro _; rfl) | cases h
theorem plain_test (h : plainT e = true) : ∀ whole, isTrue e env whole = (do let v ← whole; standAt e.pos; holding [v] (truthy v)) := by
  cases e <;> first | (intro _; rfl) | cases h
end
section
variable {π : Pg} {W : Wd} {lv g : Nat} {N : List Str} {sc scope : Scope} {X : Cx}
theorem findIdx_get {N : List Str} {x : Str} {i : Nat} (h : slotOf N x = some i) : N[i]? = some x := by
  unfold slotOf at h
  obtain ⟨h1, h2, _⟩ := List.findIdx?_eq_some_iff_getElem.mp h
  rw [List.getElem?_eq_getElem h1]
  exact congrArg some (beq_iff_eq.mp h2)
theorem vis_ok {x : Str} (h : isVis sc x = true) : Vis sc x := by
  unfold isVis at h
  unfold Vis
  split at h <;> first | (rename_i e; first | exact .inl e | exact .inr (.inl e) | exact .inr (.inr e)) | cases h
theorem loc_ok {x : Str} (h : isLoc sc x = true) : L2.Loc sc x := by
  unfold isLoc at h
  unfold L2.Loc
  split at h <;> first | (rename_i e; first | exact .inl e | exact .inr e) | cases h
theorem gl_ok (C : CtxOk π W lv g N sc X) {x : Str} (h : isGl sc x = true) : Gl X x := by
  unfold isGl at h
  show X.env.scope.names.lookup x = _
  rw [C.hsc]
  split at h <;> first | assumption | cases h
theorem okn_ok {x : Str} (h : okName x = true) : (x == ("__debug__" : Str)) = false ∧ (x == ("__classdict__" : Str)) = false := by
  unfold okName at h
  rw [Bool.and_eq_true] at h
  exact ⟨by simpa using h.1, by simpa using h.2⟩
theorem CtxOk.blk (C : CtxOk π W lv g N sc X) (s : Shared) (H : Hp) (c : Addr) (cl : List (Str × Addr)) (fp : List Addr) : CtxOk π W lv g N (relS scope sc) (X.blk s H scope (compEnvC scope cl c X.env) fp) :=
  ⟨C.hN, by rw [← C.hsc]; rfl, C.nd, C.room, C.calm, C.bm, C.blt, C.con, C.fns⟩
theorem room_gen {k : Nat} {A : Around} (r : Room (k + 1) A) (gk : GK) (cenv : PySem.Env) : Room k ((GKA A gk).deeper cenv) := by
  have h1 := r.hd
  have h2 := r.dp
  have h3 := r.un
  cases gk
  · exact ⟨h1, by show A.depth + 1 + 3 * k + 5 < _; omega, by show A.units + 1 + 1 + 1 + 1 + 3 + 16 * k + 200 < _; omega⟩
  all_goals exact ⟨h1, by show A.depth + 1 + 3 * k + 5 < _; omega, by show A.units + 1 + 1 + 3 + 16 * k + 200 < _; omega⟩
theorem CtxOk.gen (C : CtxOk π W lv (g + 1) N sc X) {Xg : Cx} {H : Hp} {gk : GK} (h : IsG X Xg (GKA X.A gk) H scope) : CtxOk π W lv g N scope Xg := by
  obtain ⟨s4, cl, L, cv, fp, pn, rfl, _⟩ := h
  exact ⟨C.hN, rfl, C.nd, room_gen (k := lv + g) C.room gk _, C.calm, C.bm, C.blt, C.con, C.fns⟩
theorem CtxOk.units (C : CtxOk π W lv g N sc X) : X.A.units + 65 < cLine := by have := C.room.un; omega
abbrev Gf (π : Pg) : Str → Option P := fun x => π.G.lookup x
def AllE (X : Cx) (W : Wd) (G : Str → Option P) : List Expr → List E → Prop
  | [], [] => True
  | e :: es, A :: l => notStar e = true ∧ PE X e (tI X (evE W G A)) ∧ AllE X W G es l
  | _, _ => False
def AllT (X : Cx) (W : Wd) (G : Str → Option P) : List Expr → List E → Prop
  | [], [] => True
  | e :: es, A :: l => PT X e (tIT X (evT W G A)) ∧ AllT X W G es l
  | _, _ => False
theorem AllE.star {G : Str → Option P} : ∀ {es : List Expr} {l : List E}, AllE X W G es l → es.all notStar = true
  | [], [], _ => rfl
  | e :: es, A :: l, h => by rw [List.all_cons, h.1, AllE.star h.2.2]; rfl
  | [], _ :: _, h => h.elim
  | _ :: _, [], h => h.elim
theorem AllE.len {G : Str → Option P} : ∀ {es : List Expr} {l : List E}, AllE X W G es l → es.length = l.length
  | [], [], _ => rfl
  | e :: es, A :: l, h => by rw [List.length_cons, List.length_cons, AllE.len h.2.2]
  | [], _ :: _, h => h.elim
  | _ :: _, [], h => h.elim
theorem AllE.pa {G : Str → Option P} : ∀ {es : List Expr} {l : List E}, AllE X W G es l → PA X es (tIA X (evEs W G l))
  | [], [], _ => a_nil
  | e :: es, A :: l, h => a_cons h.2.1 (AllE.pa h.2.2) (star_cons h.1)
  | [], _ :: _, h => h.elim
  | _ :: _, [], h => h.elim
theorem evEs_len {G : Str → Option P} : ∀ {l : List E} {ρ : Env} {M M' : Mem} {ds : List D}, evEs W G l ρ M = some (ds, M') → ds.length = l.length
  | [], _, _, _, _, h => by cases h; rfl
  | A :: l, ρ, M, M', ds, h => by
    obtain ⟨⟨x, M1⟩, e1, h⟩ := ob (show (do
      let (x, M) ← evE W G A ρ M
      let (xs, M) ← evEs W G l ρ M
      some (x :: xs, M)) = some (ds, M') from h)
    obtain ⟨⟨xs, M2⟩, e2, h⟩ := ob h
    cases h
    rw [List.length_cons, List.length_cons, evEs_len e2]
theorem AllE.and {G : Str → Option P} {pos : Pos} : ∀ {es : List Expr} {e : Expr} {A : E} {l : List E}, AllE X W G (e :: es) (A :: l) → PE X (.BoolOp .And (e :: es) pos) (tI X (evAnd W G (A :: l)))
  | [], e, A, [], h => s_and1 h.2.1
  | b :: es, e, A, B :: l, h => s_and h.2.1 (AllE.and h.2.2)
  | [], _, _, _ :: _, h => h.2.2.elim
  | _ :: _, _, _, [], h => h.2.2.elim
theorem AllE.or {G : Str → Option P} {pos : Pos} : ∀ {es : List Expr} {e : Expr} {A : E} {l : List E}, AllE X W G (e :: es) (A :: l) → PE X (.BoolOp .Or (e :: es) pos) (tI X (evOr W G (A :: l)))
  | [], e, A, [], h => s_or1 h.2.1
  | b :: es, e, A, B :: l, h => s_or h.2.1 (AllE.or h.2.2)
  | [], _, _, _ :: _, h => h.2.2.elim
  | _ :: _, _, _, [], h => h.2.2.elim
theorem AllT.and {G : Str → Option P} {pos : Pos} : ∀ {es : List Expr} {e : Expr} {A : E} {l : List E}, AllT X W G (e :: es) (A :: l) → PW X (.BoolOp .And (e :: es) pos) (tIT X (evTAnd W G (A :: l)))
  | [], e, A, [], h => t_and1 h.1
  | b :: es, e, A, B :: l, h => t_and h.1 (AllT.and h.2)
  | [], _, _, _ :: _, h => h.2.elim
  | _ :: _, _, _, [], h => h.2.elim
theorem AllT.or {G : Str → Option P} {pos : Pos} : ∀ {es : List Expr} {e : Expr} {A : E} {l : List E}, AllT X W G (e :: es) (A :: l) → PW X (.BoolOp .Or (e :: es) pos) (tIT X (evTOr W G (A :: l)))
  | [], e, A, [], h => t_or1 h.1
  | b :: es, e, A, B :: l, h => t_or h.1 (AllT.or h.2)
  | [], _, _, _ :: _, h => h.2.elim
  | _ :: _, _, _, [], h => h.2.elim
/-- the names that may be stored -/
def TgOk (tsc : Scope) (X : Cx) : Prop := ∀ x, isLoc tsc x = true → L2.Loc X.env.scope x ∧ (X.fn x = true ∨ X.env.scope.names.lookup x = some .local)
theorem tg_fn (C : CtxOk π W lv g N sc X) (h : ∀ x, X.fn x = true) : TgOk sc X := fun x hx => ⟨by rw [C.hsc]; exact loc_ok hx, .inl (h x)⟩
theorem tg_blk {scope : Scope} (s : Shared) (H : Hp) (c : Addr) (cl : List (Str × Addr)) (fp : List Addr) : TgOk scope (X.blk s H scope (compEnvC scope cl c X.env) fp) := fun x hx => by
  rcases loc_ok hx with h | h
  · have := lookup_relS_keep (sc := X.env.scope) (by decide) h
    exact ⟨.inl this, .inr this⟩
  · have := lookup_relS_keep (sc := X.env.scope) (by decide) h
    exact ⟨.inr this, .inl (by show (scope.names.lookup x == some NameKind.cell) = true; rw [h]; rfl)⟩
theorem tg_gen {Xg : Cx} {Ac : Around} {H : Hp} (h : IsG X Xg Ac H scope) : TgOk scope Xg := fun x hx => by
  obtain ⟨s4, cl, L, cv, fp, pn, rfl, _⟩ := h
  rcases loc_ok hx with h | h
  · exact ⟨.inl h, .inr h⟩
  · exact ⟨.inr h, .inl (by show (scope.names.lookup x == some NameKind.cell) = true; rw [h]; rfl)⟩
/-- targets -/
theorem trG_ok : ∀ n, (∀ {e : Expr} {t : T} {X : Cx} {sc0 : Scope}, CtxOk π W lv g N sc0 X → TgOk sc X → trG N sc n e = some t → PG X e (tGp X t)) ∧
    (∀ {es : List Expr} {ts : List T} {X : Cx} {sc0 : Scope}, CtxOk π W lv g N sc0 X → TgOk sc X → trGs N sc n es = some ts → PGs X es (tGs X ts) ∧ es.all notStar = true ∧ es.length = ts.length)
  | 0 => ⟨fun _ _ h => (by cases h), fun _ _ h => (by cases h)⟩
  | n + 1 => by
    obtain ⟨ih1, ih2⟩ := trG_ok n
    refine ⟨fun {e t X sc0} C K h => ?_, fun {es ts X sc0} C K h => ?_⟩
    · cases e with
      | Name x pos =>
        have h : (if isLoc sc x then (slotOf N x).map T.nm else none) = some t := h
        split at h <;> try contradiction
        rename_i hl
        obtain ⟨i, e1, rfl⟩ := Option.map_eq_some_iff.mp h
        exact g_nm (by rw [C.hN]; exact C.nd) (by rw [C.hN]; exact findIdx_get e1) (K x hl).1 (K x hl).2
      | Tuple es k pos =>
        obtain ⟨ts, e1, rfl⟩ := Option.map_eq_some_iff.mp (show (trGs N sc n es).map T.tp = some t from h)
        obtain ⟨h1, h2, h3⟩ := ih2 C K e1
        have := asg_len (env := X.env) h2
        exact g_tp C.calm h1 (by rw [this.1]; exact h3) this.2
      | _ => cases h
    · cases es with
      | nil => cases h; exact ⟨gs_nil, rfl, rfl⟩
      | cons e es =>
        have h : (if notStar e then (trG N sc n e).bind fun t => (trGs N sc n es).map fun ts => t :: ts else none) = some ts := h
        split at h <;> try contradiction
        rename_i hs
        obtain ⟨t, e1, h⟩ := Option.bind_eq_some_iff.mp h
        obtain ⟨ts', e2, rfl⟩ := Option.map_eq_some_iff.mp h
        obtain ⟨h1, h2, h3⟩ := ih2 C K e2
        exact ⟨gs_cons (ih1 C K e1) h1 (by rw [asg_cons hs]; rfl), by rw [List.all_cons, hs, h2]; rfl, by rw [List.length_cons, List.length_cons, h3]⟩
theorem sub_ok {t : T} {own : List (Str × Nat)} (h : subB t own = true) : ∀ i ∈ t.slots, i ∈ own.map (·.2) := fun i hi => by
  have := List.all_eq_true.mp h i hi
  simpa using this
theorem opc_ok (o : CmpOp) : coOp (opC o) = o := by cases o <;> rfl
theorem s_ops {o : Operator} {bo : BO} (h : opB o = some bo) : ∃ r : Cx → R2, (∀ X : Cx, OpR X (binaryOp o) (r X)) ∧ ∀ X : Cx, OpI X (r X) (binop bo) := by
  cases o <;> cases h
  · exact ⟨fun X => _, fun X => or_add, fun X => oi_add⟩
  · exact ⟨fun X => _, fun X => op_sub, fun X => oi_sub⟩
  · exact ⟨fun X => _, fun X => or_mul, fun X => oi_mul⟩
  · exact ⟨fun X => _, fun X => op_modN, fun X => oi_mod⟩
  · exact ⟨fun X => _, fun X => op_pow, fun X => oi_pow⟩
  · exact ⟨fun X => _, fun X => or_div, fun X => oi_div⟩
structure Snd (π : Pg) (W : Wd) (lv n : Nat) : Prop where
  e : ∀ {g : Nat} {N : List Str} {sc : Scope} {e : Expr} {A : E} {X : Cx}, CtxOk π W lv g N sc X → trE π n g N sc e = some A → PE X e (tI X (evE W (Gf π) A))
  c : ∀ {g : Nat} {N : List Str} {sc : Scope} {x : Str} {args : List Expr} {kws : List Keyword} {A : E} {X : Cx} {p pos : Pos}, CtxOk π W lv g N sc X → isGl sc x = true → okName x = true → trC π n g N sc x args kws = some A → PE X (.Call (.Name x p) args kws pos) (tI X (evE W (Gf π) A))
  t : ∀ {g : Nat} {N : List Str} {sc : Scope} {e : Expr} {A : E} {X : Cx}, CtxOk π W lv g N sc X → trT π n g N sc e = some A → PT X e (tIT X (evT W (Gf π) A))
  es : ∀ {g : Nat} {N : List Str} {sc : Scope} {es : List Expr} {l : List E} {X : Cx}, CtxOk π W lv g N sc X → trEs π n g N sc es = some l → AllE X W (Gf π) es l
  ks : ∀ {g : Nat} {N : List Str} {sc : Scope} {kws : List Keyword} {l : List E} {X : Cx}, CtxOk π W lv g N sc X → trKs π n g N sc kws = some l → PK X kws (tIA X (evEs W (Gf π) l))
  tl : ∀ {g : Nat} {N : List Str} {sc : Scope} {es : List Expr} {l : List E} {X : Cx}, CtxOk π W lv g N sc X → trTl π n g N sc es = some l → AllT X W (Gf π) es l
  ts : ∀ {g : Nat} {N : List Str} {sc : Scope} {es : List Expr} {l : List E} {X : Cx}, CtxOk π W lv g N sc X → trTs π n g N sc es = some l → PTs X es (tIT X (evIfs W (Gf π) l))
  o : ∀ {g : Nat} {N : List Str} {sc : Scope} {e : Option Expr} {A : Option E} {X : Cx}, CtxOk π W lv g N sc X → trO π n g N sc e = some A → PO X e (tIO X (evO W (Gf π) A))
  i : ∀ {g : Nat} {N : List Str} {sc : Scope} {tg iter : Expr} {q : IK × List E} {X : Cx}, CtxOk π W lv g N sc X → trI π n g N sc tg iter = some q → PI X tg iter (iS X q.1 (evEs W (Gf π) q.2))
variable {n : Nat}
theorem snd_es (S : Snd π W lv n) {es : List Expr} {l : List E} (C : CtxOk π W lv g N sc X) (h : trEs π (n + 1) g N sc es = some l) : AllE X W (Gf π) es l := by
  cases es with
  | nil => cases h; exact trivial
  | cons e es =>
    have h : (if notStar e then (trE π n g N sc e).bind fun A => (trEs π n g N sc es).map fun l => A :: l else none) = some l := h
    split at h <;> try contradiction
    rename_i hs
    obtain ⟨A, e1, h⟩ := Option.bind_eq_some_iff.mp h
    obtain ⟨l', e2, rfl⟩ := Option.map_eq_some_iff.mp h
    exact ⟨hs, S.e C e1, S.es C e2⟩
theorem snd_ks (S : Snd π W lv n) {kws : List Keyword} {l : List E} (C : CtxOk π W lv g N sc X) (h : trKs π (n + 1) g N sc kws = some l) : PK X kws (tIA X (evEs W (Gf π) l)) := by
  cases kws with
  | nil => cases h; exact k_nil
  | cons k kws =>
    obtain ⟨nm, e, kp⟩ := k
    obtain ⟨A, e1, h⟩ := Option.bind_eq_some_iff.mp (show ((trE π n g N sc e).bind fun A => (trKs π n g N sc kws).map fun l => A :: l) = some l from h)
    obtain ⟨l', e2, rfl⟩ := Option.map_eq_some_iff.mp h
    exact k_cons (S.e C e1) (S.ks C e2)
theorem snd_tl (S : Snd π W lv n) {es : List Expr} {l : List E} (C : CtxOk π W lv g N sc X) (h : trTl π (n + 1) g N sc es = some l) : AllT X W (Gf π) es l := by
  cases es with
  | nil => cases h; exact trivial
  | cons e es =>
    obtain ⟨A, e1, h⟩ := Option.bind_eq_some_iff.mp (show ((trT π n g N sc e).bind fun A => (trTl π n g N sc es).map fun l => A :: l) = some l from h)
    obtain ⟨l', e2, rfl⟩ := Option.map_eq_some_iff.mp h
    exact ⟨S.t C e1, S.tl C e2⟩
theorem snd_ts (S : Snd π W lv n) {es : List Expr} {l : List E} (C : CtxOk π W lv g N sc X) (h : trTs π (n + 1) g N sc es = some l) : PTs X es (tIT X (evIfs W (Gf π) l)) := by
  match es, h with
  | [], h =>
    cases h
    refine ⟨fun pins s σ H Q I hw => pts_nil.run pins s σ H Q I ?_⟩
    obtain ⟨ρ, M, α, b, M', r, e, q⟩ := hw
    cases e
    exact q H α (Nx.refl r.mem r.tab)
  | [c], h =>
    obtain ⟨A, e1, rfl⟩ := Option.map_eq_some_iff.mp (show (trT π n g N sc c).map (fun A => [A]) = some l from h)
    exact pts_one (S.t C e1)
  | _ :: _ :: _, h => cases h
theorem snd_o (S : Snd π W lv n) {e : Option Expr} {A : Option E} (C : CtxOk π W lv g N sc X) (h : trO π (n + 1) g N sc e = some A) : PO X e (tIO X (evO W (Gf π) A)) := by
  cases e with
  | none => cases h; exact o_none
  | some e =>
    obtain ⟨A', e1, rfl⟩ := Option.map_eq_some_iff.mp (show (trE π n g N sc e).map some = some A from h)
    exact o_some (S.e C e1)
theorem snd_t (S : Snd π W lv n) {e : Expr} {A : E} (C : CtxOk π W lv g N sc X) (h : trT π (n + 1) g N sc e = some A) : PT X e (tIT X (evT W (Gf π) A)) := by
  have plain : ∀ e : Expr, (if plainT e then (trE π n g N sc e).map E.tru else none) = some A → PT X e (tIT X (evT W (Gf π) A)) := fun e h => by
    split at h <;> try contradiction
    rename_i hp
    obtain ⟨B, e1, rfl⟩ := Option.map_eq_some_iff.mp h
    exact t_tru (S.e C e1) (plain_test hp)
  cases e with
  | BoolOp op es pos =>
    cases es with
    | nil => cases op <;> cases h
    | cons e es =>
      cases op with
      | And =>
        obtain ⟨l, e1, rfl⟩ := Option.map_eq_some_iff.mp (show (trTl π n g N sc (e :: es)).map E.and = some A from h)
        have := S.tl C e1
        cases l with
        | nil => exact this.elim
        | cons B l => exact (AllT.and this).pt
      | Or =>
        obtain ⟨l, e1, rfl⟩ := Option.map_eq_some_iff.mp (show (trTl π n g N sc (e :: es)).map E.or = some A from h)
        have := S.tl C e1
        cases l with
        | nil => exact this.elim
        | cons B l => exact (AllT.or this).pt
  | UnaryOp op a pos =>
    cases op with
    | Not =>
      obtain ⟨B, e1, rfl⟩ := Option.map_eq_some_iff.mp (show (trT π n g N sc a).map E.not = some A from h)
      exact t_not (S.t C e1)
    | _ => exact plain _ h
  | Compare a ops bs pos =>
    match ops, bs, h with
    | [o], [b], h =>
      have h : (if behindInMarks (coOp (opC o)) b then none else (trE π n g N sc a).bind fun A => (trE π n g N sc b).map fun B => E.cmp (opC o) A B) = some A := h
      split at h <;> try contradiction
      rename_i hb
      obtain ⟨A1, e1, h⟩ := Option.bind_eq_some_iff.mp h
      obtain ⟨B1, e2, rfl⟩ := Option.map_eq_some_iff.mp h
      have := t_cmp (pos := pos) (o := opC o) C.units (S.e C e1) (S.e C e2) (by simpa using hb)
      rw [opc_ok] at this
      exact this
    | [o, o'], [b, c], h =>
      have h : (if lastMarks [coOp (opC o), coOp (opC o')] [b, c] then none else (trE π n g N sc a).bind fun A => (trE π n g N sc b).bind fun B => (trE π n g N sc c).map fun C => E.cmp2 (opC o) (opC o') A B C) = some A := h
      split at h <;> try contradiction
      rename_i hb
      obtain ⟨A1, e1, h⟩ := Option.bind_eq_some_iff.mp h
      obtain ⟨B1, e2, h⟩ := Option.bind_eq_some_iff.mp h
      obtain ⟨C1, e3, rfl⟩ := Option.map_eq_some_iff.mp h
      have := t_cmp2 (pos := pos) (o := opC o) (o' := opC o') C.units (S.e C e1) (S.e C e2) (S.e C e3) (by simpa using hb)
      rw [opc_ok, opc_ok] at this
      exact this
    | [], _, h => cases h
    | [_], [], h => cases h
    | [_], _ :: _ :: _, h => cases h
    | [_, _], [], h => cases h
    | [_, _], [_], h => cases h
    | [_, _], _ :: _ :: _ :: _, h => cases h
    | _ :: _ :: _ :: _, _, h => cases h
  | _ => exact plain _ h
end
end IX
end

section
set_option Elab.async false
set_option autoImplicit false
set_option linter.all false
set_option maxRecDepth 100000
set_option maxHeartbeats 4000000
/-! The translation is sound: expressions, the rest. -/
namespace IX
open PySem PySem.Spec PyProof.Rows L2 GX
section
variable {π : Pg} {W : Wd} {lv g : Nat} {N : List Str} {sc scope : Scope} {X : Cx} {n : Nat}
theorem CtxOk.len1 {G : Str → Option P} {A : E} : ∀ ρ M ds M', evEs W G [A] ρ M = some (ds, M') → ds.length = 1 := fun _ _ _ _ h => evEs_len h
theorem snd_i (S : Snd π W lv n) {tg iter : Expr} {q : IK × List E} (C : CtxOk π W lv g N sc X) (h : trI π (n + 1) g N sc tg iter = some q) : PI X tg iter (iS X q.1 (evEs W (Gf π) q.2)) := by
  have seq : ∀ iter : Expr, (trE π n g N sc iter).map (fun A => (IK.seq, [A])) = some q → PI X tg iter (iS X q.1 (evEs W (Gf π) q.2)) := fun iter h => by
    obtain ⟨A, e1, rfl⟩ := Option.map_eq_some_iff.mp h
    exact i_seq (S.e C e1)
  cases iter with
  | Call f args kws pos =>
    cases f with
    | Name x p =>
      cases kws with
      | cons _ _ => exact seq _ h
      | nil =>
        replace h : (if x == ("range" : Str) && isGl sc x && (π.F.lookup x).isNone then (match (generalizing := false) args with
            | [a] => (trEs π n g N sc [a]).map fun l => (IK.rng, l)
            | [a, b] => (trEs π n g N sc [a, b]).map fun l => (IK.rng, l)
            | _ => none)
          else if x == ("enumerate" : Str) && isGl sc x && (π.F.lookup x).isNone then (match (generalizing := false) tg, args with
            | .Tuple _ _ _, [a] => (trEs π n g N sc [a]).map fun l => (IK.enm, l)
            | _, _ => none)
          else if x == ("zip" : Str) && isGl sc x && (π.F.lookup x).isNone then (match (generalizing := false) tg, args with
            | .Tuple _ _ _, [a, b] => (trEs π n g N sc [a, b]).map fun l => (IK.zip, l)
            | _, _ => none)
          else (trE π n g N sc (.Call (.Name x p) args [] pos)).map fun A => (IK.seq, [A])) = some q := h
        split at h
        · rename_i hc
          simp only [Bool.and_eq_true] at hc
          obtain ⟨⟨h1, h2⟩, _⟩ := hc
          obtain rfl := beq_iff_eq.mp h1
          have hg := gl_ok C h2
          have hm : X.mg "range" = none := C.blt _ (by simp [bltN])
          split at h <;> try contradiction
          · obtain ⟨l, e1, rfl⟩ := Option.map_eq_some_iff.mp h
            have al := S.es C e1
            have hl := al.len
            have hst := al.star
            rw [List.all_cons, Bool.and_eq_true] at hst
            exact i_rng1 hg hm al.pa (star_cons (es := []) hst.1) fun ρ M ds M' hh => by rw [evEs_len hh, ← hl]; rfl
          · obtain ⟨l, e1, rfl⟩ := Option.map_eq_some_iff.mp h
            have al := S.es C e1
            have hl := al.len
            have hst := al.star
            rw [List.all_cons, Bool.and_eq_true, List.all_cons, Bool.and_eq_true] at hst
            have hb := star_cons (env := X.env) (es := []) hst.2.1
            exact i_rng2 hg hm al.pa (by rw [star_cons hst.1, hb]; rfl) hb fun ρ M ds M' hh => by rw [evEs_len hh, ← hl]; rfl
        · split at h
          · rename_i hc
            simp only [Bool.and_eq_true] at hc
            obtain ⟨⟨h1, h2⟩, _⟩ := hc
            obtain rfl := beq_iff_eq.mp h1
            have hg := gl_ok C h2
            have hm : X.mg "enumerate" = none := C.blt _ (by simp [bltN])
            split at h <;> try contradiction
            obtain ⟨l, e1, rfl⟩ := Option.map_eq_some_iff.mp h
            have al := S.es C e1
            have hl := al.len
            have hst := al.star
            rw [List.all_cons, Bool.and_eq_true] at hst
            exact i_enm hg hm al.pa (star_cons (es := []) hst.1) fun ρ M ds M' hh => by rw [evEs_len hh, ← hl]; rfl
          · split at h
            · rename_i hc
              simp only [Bool.and_eq_true] at hc
              obtain ⟨⟨h1, h2⟩, _⟩ := hc
              obtain rfl := beq_iff_eq.mp h1
              have hg := gl_ok C h2
              have hm : X.mg "zip" = none := C.blt _ (by simp [bltN])
              split at h <;> try contradiction
              obtain ⟨l, e1, rfl⟩ := Option.map_eq_some_iff.mp h
              have al := S.es C e1
              have hl := al.len
              have hst := al.star
              rw [List.all_cons, Bool.and_eq_true] at hst
              exact i_zip hg hm al.pa (star_cons hst.1) (star_any hst.2) fun ρ M ds M' hh => by rw [evEs_len hh, ← hl]; rfl
            · exact seq _ h
    | _ => exact seq _ h
  | _ => exact seq _ h
theorem bi_ok {x : Str} {b : BI} (h : biOf x = some b) {e : Expr} {es : List Expr} {l : List E} {p pos : Pos} (C : CtxOk π W lv g N sc X) (hg : Gl X x) (al : AllE X W (Gf π) (e :: es) l) :
    PE X (.Call (.Name x p) (e :: es) [] pos) (tI X (evE W (Gf π) (.bi b l))) := by
  have hst := al.star
  rw [List.all_cons, Bool.and_eq_true] at hst
  have st := star_cons (env := X.env) (es := es) hst.1
  have sa := star_any (env := X.env) (pos := pos) hst.2
  unfold biOf at h
  simp only [List.lookup] at h
  repeat' split at h
  all_goals first | (cases h; done) | skip
  all_goals (rename_i hx; obtain rfl := beq_iff_eq.mp hx; cases h)
  · exact s_cb (pe_callB call_len_seq hg (C.blt _ (by simp [bltN])) boot_len al.pa (by decide) (by decide) st sa) ci_len
  · exact s_cb (pe_callB call_abs hg (C.blt _ (by simp [bltN])) boot_abs al.pa (by decide) (by decide) st sa) ci_abs
  · exact s_cb (pe_callTy call_int1 hg (C.blt _ (by simp [bltN])) boot_int al.pa (by decide) (by decide) st sa) ci_int
  · exact s_cb (pe_callTy call_bool1 hg (C.blt _ (by simp [bltN])) boot_bool al.pa (by decide) (by decide) st sa) ci_bool
  · exact s_cb (pe_callB (CallR.or (call_max2 C.calm) (CallR.or (cr_max C.calm) (E1.cr_maxT C.calm C.room.units))) hg (C.blt _ (by simp [bltN])) boot_max al.pa (by decide) (by decide) st sa) ci_max
  · exact s_cb (pe_callB (CallR.or (call_min2 C.calm) (CallR.or (cr_min C.calm) (E1.cr_minT C.calm C.room.units))) hg (C.blt _ (by simp [bltN])) boot_min al.pa (by decide) (by decide) st sa) ci_min
  · exact s_cb (pe_callB (CallR.or (cr_sum C.calm) (E1.cr_sumT C.calm)) hg (C.blt _ (by simp [bltN])) boot_sum al.pa (by decide) (by decide) st sa) ci_sum
  · exact s_cb (pe_callTy call_tuple_of hg (C.blt _ (by simp [bltN])) boot_tuple al.pa (by decide) (by decide) st sa) ci_tuple
  · exact s_cb (pe_callTy call_list_of hg (C.blt _ (by simp [bltN])) boot_list al.pa (by decide) (by decide) st sa) ci_list
end
end IX
end

section
set_option Elab.async false
set_option autoImplicit false
set_option linter.all false
set_option maxRecDepth 100000
set_option maxHeartbeats 4000000
/-! The translation is sound: calls, expressions, together. -/
namespace IX
open PySem PySem.Spec PyProof.Rows L2 GX
section
variable {π : Pg} {W : Wd} {lv g : Nat} {N : List Str} {sc scope : Scope} {X : Cx} {n : Nat}
theorem room_lv (C : CtxOk π W lv g N sc X) : Room lv X.A := C.room.mono (Nat.le_add_right _ _)
theorem kws_names : ∀ (kws : List Keyword) (pos : Pos), kws.all (fun k => k.arg.isSome) = true → (backToKw pos (keywordEach kws X.env)).all (·.1.isSome) = true ∧ (backToKw pos (keywordEach kws X.env)).filterMap (·.1) = kws.filterMap (·.arg) ∧
    (backToKw pos (keywordEach kws X.env)).any (·.1.isNone) = false
  | [], _, _ => ⟨rfl, rfl, rfl⟩
  | ⟨nm, e, kp⟩ :: kws, pos, h => by
    rw [List.all_cons, Bool.and_eq_true] at h
    obtain ⟨h1, h2, h3⟩ := kws_names kws pos h.2
    have hn : nm.isSome = true := h.1
    refine ⟨?_, ?_, ?_⟩
    · show (nm.isSome && (backToKw pos (keywordEach kws X.env)).all (·.1.isSome)) = true
      rw [hn, h1]; rfl
    · show List.filterMap (·.1) ((nm, _) :: backToKw pos (keywordEach kws X.env)) = List.filterMap (·.arg) (⟨nm, e, kp⟩ :: kws)
      rw [List.filterMap_cons, List.filterMap_cons, h2]
    · show (nm.isNone || (backToKw pos (keywordEach kws X.env)).any (·.1.isNone)) = false
      rw [h3]
      cases nm with
      | none => cases hn
      | some _ => rfl
theorem ty_bltn {t : Str} {b : BI} (h : tyOf t = some b) (C : CtxOk π W lv g N sc X) (hg : Gl X t) (hms : X.mg "str" = none) : ∃ T, isT b = some T ∧ ∀ p2, PE X (.Name t p2) (tC (.ty T)) := by
  unfold tyOf at h
  simp only [List.lookup] at h
  repeat' split at h
  all_goals first | (cases h; done) | skip
  all_goals (rename_i hx; obtain rfl := beq_iff_eq.mp hx; cases h)
  · exact ⟨"int", rfl, fun p2 => pe_bltn hg (C.blt _ (by simp [bltN])) boot_int rfl⟩
  · exact ⟨"bool", rfl, fun p2 => pe_bltn hg (C.blt _ (by simp [bltN])) boot_bool rfl⟩
  · exact ⟨"tuple", rfl, fun p2 => pe_bltn hg (C.blt _ (by simp [bltN])) boot_tuple rfl⟩
  · exact ⟨"str", rfl, fun p2 => pe_bltn hg hms boot_str rfl⟩
theorem gk_name {x : Str} {gk : GK} (h : gkOf x = some gk) : x = GKn gk := by
  unfold gkOf at h
  simp only [List.lookup] at h
  repeat' split at h
  all_goals first | (cases h; done) | skip
  all_goals (rename_i hx; obtain rfl := beq_iff_eq.mp hx; cases h; rfl)
theorem own_sub {own : List (Str × Nat)} {t : T} (h : subB t own = true) : ∀ i ∈ t.slots, i ∈ own.map (·.2) := sub_ok h
theorem snd_c (S : Snd π W lv n) {x : Str} {args : List Expr} {kws : List Keyword} {A : E} {p pos : Pos} (C : CtxOk π W lv g N sc X) (hgl : isGl sc x = true) (hn : okName x = true) (h : trC π (n + 1) g N sc x args kws = some A) :
    PE X (.Call (.Name x p) args kws pos) (tI X (evE W (Gf π) A)) := by
  have hg := gl_ok C hgl
  have hdb := (okn_ok hn).1
  replace h : (match (generalizing := false) π.F.lookup x with
    | some (i, ps, kss) => (match (generalizing := false) args, kws with
      | e :: es, [] => if (e :: es).length == ps.length then (trEs π n g N sc (e :: es)).map fun l => E.call i l (List.range ps.length) else none
      | [], kws => if kws.all (fun k => k.arg.isSome) && kss.contains (kws.filterMap (·.arg)) then (trKs π n g N sc kws).map fun l => E.call i l (ixOf ps (kws.filterMap (·.arg))) else none
      | _, _ => none)
    | none => (match (generalizing := false) args, kws with
      | [a, .Name t _], [] => if x == ("isinstance" : Str) then (if isGl sc t && okName t && notStar a then (tyOf t).bind fun b => (trE π n g N sc a).map fun A => E.bi b [A] else none)
          else (biOf x).bind fun b => (trEs π n g N sc args).map fun l => E.bi b l
      | [.GeneratorExp elt [⟨tg, iter, ifs, 0⟩] scope _], [] => (match (generalizing := false) g with
        | 0 => none
        | g + 1 =>
          if blkC N sc scope (ownOf N scope) && notSet iter && !scope.isCoroutine && decide (scope.names.lookup (".0" : Str) = some NameKind.local) then (gkOf x).bind fun gk => (trI π n (g + 1) N sc tg iter).bind fun q => (trG N scope n tg).bind fun t => (trTs π n g N scope ifs).bind fun is => (trE π n g N scope elt).bind fun A =>
            if subB t (ownOf N scope) then some (E.gen gk ((ownOf N scope).map (·.2)) A t q.1 q.2 is) else none else none)
      | e :: es, [] => (biOf x).bind fun b => (trEs π n g N sc (e :: es)).map fun l => E.bi b l
      | _, _ => none)) = some A := h
  split at h
  · rename_i i ps kss hF
    obtain ⟨f, fd, hm, hk, F, hb, hkb⟩ := C.fns x i ps kss hF
    split at h
    · rename_i e es
      split at h <;> try contradiction
      rename_i hl
      obtain ⟨l, e1, rfl⟩ := Option.map_eq_some_iff.mp h
      have al := S.es C e1
      have hst := al.star
      rw [List.all_cons, Bool.and_eq_true] at hst
      exact s_call (w := W i) F (room_lv C) hg hm hk hb al.pa hdb (star_cons hst.1) (star_any hst.2) (by simpa using hl) fun ρ M ds M' hh => by rw [evEs_len hh, ← al.len]
    · split at h <;> try contradiction
      rename_i hc
      rw [Bool.and_eq_true] at hc
      obtain ⟨l, e1, rfl⟩ := Option.map_eq_some_iff.mp h
      obtain ⟨h1, h2, h3⟩ := kws_names (X := X) kws pos hc.1
      exact s_callk (w := W i) F (room_lv C) hg hm hk (hkb _ (by simpa using hc.2)) (S.ks C e1) h1 h2 hdb (by rw [h3]; rfl)
    · cases h
  · split at h
    · rename_i a t p2
      split at h
      · rename_i hx
        obtain rfl := beq_iff_eq.mp hx
        split at h <;> try contradiction
        rename_i hc
        simp only [Bool.and_eq_true] at hc
        obtain ⟨b, e1, h⟩ := Option.bind_eq_some_iff.mp h
        obtain ⟨A', e2, rfl⟩ := Option.map_eq_some_iff.mp h
        obtain ⟨T, hT, hN⟩ := ty_bltn e1 C (gl_ok C hc.1.1) (C.blt _ (by simp [bltN]))
        have st2 := star_cons (env := X.env) (e := .Name t p2) (es := []) rfl
        exact s_isi hT (S.e C e2) (hN p2) hg (C.blt _ (by simp [bltN])) (by rw [star_cons hc.2, st2]; rfl) st2 rfl
      · obtain ⟨b, e1, h⟩ := Option.bind_eq_some_iff.mp h
        obtain ⟨l, e2, rfl⟩ := Option.map_eq_some_iff.mp h
        exact bi_ok e1 C hg (S.es C e2)
    · rename_i elt tg iter ifs scope gp
      split at h <;> try contradiction
      rename_i g
      split at h <;> try contradiction
      rename_i hc
      simp only [Bool.and_eq_true, decide_eq_true_eq] at hc
      obtain ⟨⟨⟨hc1, hc2⟩, hc3⟩, hc4⟩ := hc
      obtain ⟨gk, e1, h⟩ := Option.bind_eq_some_iff.mp h
      obtain ⟨q, e2, h⟩ := Option.bind_eq_some_iff.mp h
      obtain ⟨t, e3, h⟩ := Option.bind_eq_some_iff.mp h
      obtain ⟨is, e4, h⟩ := Option.bind_eq_some_iff.mp h
      obtain ⟨A', e5, h⟩ := Option.bind_eq_some_iff.mp h
      split at h <;> try contradiction
      rename_i hsub
      cases h
      obtain rfl := gk_name e1
      have hb : BlkOk X.N X.env.scope scope (ownOf N scope) := by rw [C.hN, C.hsc]; exact blkOk_by hc1
      exact s_gen hg (C.blt _ (by cases gk <;> simp [bltN, GKn])) (star_cons (es := []) rfl) rfl (by rw [C.hN]; exact C.nd) C.room C.bm ⟨hb, by simpa using hc3, hc4⟩ C.calm (S.i C e2) (gen_fold hc2) (own_sub hsub)
        fun H Xg hX => ⟨(trG_ok n).1 (C.gen hX) (tg_gen hX) e3, S.ts (C.gen hX) e4, S.e (C.gen hX) e5⟩
    · obtain ⟨b, e1, h⟩ := Option.bind_eq_some_iff.mp h
      obtain ⟨l, e2, rfl⟩ := Option.map_eq_some_iff.mp h
      exact bi_ok e1 C hg (S.es C e2)
    · cases h
end
end IX
end

section
set_option Elab.async false
set_option autoImplicit false
set_option linter.all false
set_option maxRecDepth 100000
set_option maxHeartbeats 4000000
/-! The translation is sound: expressions, all together. -/
namespace IX
open PySem PySem.Spec PyProof.Rows L2 GX
section
variable {π : Pg} {W : Wd} {lv g : Nat} {N : List Str} {sc scope : Scope} {X : Cx} {n : Nat}
theorem isM1_ok {e : Expr} (h : isM1 e = true) : ∃ k p1 p2, e = .UnaryOp .USub (.Constant (.int 1) k p1) p2 := by
  unfold isM1 at h
  split at h
  · rename_i i k p1 p2
    have : i = 1 := eq_of_beq h
    subst this
    exact ⟨_, _, _, rfl⟩
  · cases h
theorem ev_rv {V : Wd} {G : Str → Option P} {A : E} : evE V G (.bi .rv [A]) = (fun ρ M => do
    let (x, M) ← evE V G A ρ M
    bfun .rv [x] M) := by
  funext ρ M
  show (((evE V G A ρ M).bind fun p => ((some ([], p.2) : Option (List D × Mem)).bind fun q => some (p.1 :: q.1, q.2))).bind fun q => bfun .rv q.1 q.2) = _
  cases evE V G A ρ M <;> rfl
theorem snd_e (S : Snd π W lv n) {e : Expr} {A : E} (C : CtxOk π W lv g N sc X) (h : trE π (n + 1) g N sc e = some A) : PE X e (tI X (evE W (Gf π) A)) := by
  cases e with
  | Constant c j pos =>
    obtain ⟨x, e1, rfl⟩ := Option.map_eq_some_iff.mp (show (cstP c).map E.c = some A from h)
    cases c <;> cases e1
    · exact s_const (x := .non) pe_non fun H α => by unfold RP; rfl
    · exact s_const (x := .bl _) pe_bl fun H α => by unfold RP; rfl
    · exact s_const (x := .int _) pe_int fun H α => by unfold RP; rfl
    · exact s_const (x := .str _) pe_str fun H α => by unfold RP; rfl
  | Name x pos =>
    replace h : (if okName x then (if isVis sc x then (slotOf N x).map E.v else if isGl sc x then (π.G.lookup x).map fun _ => E.g x else none) else none) = some A := h
    split at h <;> try contradiction
    rename_i hok
    split at h
    · rename_i hv
      obtain ⟨i, e1, rfl⟩ := Option.map_eq_some_iff.mp h
      exact s_var (by rw [C.hN]; exact findIdx_get e1) (by rw [C.hsc]; exact vis_ok hv) (okn_ok hok).1 (okn_ok hok).2
    · split at h <;> try contradiction
      rename_i hg
      obtain ⟨p, e1, rfl⟩ := Option.map_eq_some_iff.mp h
      obtain ⟨u, v, hm, rv, rp⟩ := C.con x p e1
      refine (pe_glob (v := v) (gl_ok C hg) hm rv (okn_ok hok).1).weak fun σ H Q hq => ?_
      obtain ⟨ρ, M, α, d, M', r, e, q⟩ := hq
      have e : (π.G.lookup x).map (fun y => (D.p y, M)) = some (d, M') := e
      rw [e1] at e
      cases e
      exact q v H α (Nx.refl r.mem r.tab) (rp H α)
  | BinOp a o b pos =>
    obtain ⟨bo, e1, h⟩ := Option.bind_eq_some_iff.mp (show ((opB o).bind fun o => (trE π n g N sc a).bind fun A => (trE π n g N sc b).map fun B => E.bin o A B) = some A from h)
    obtain ⟨A1, e2, h⟩ := Option.bind_eq_some_iff.mp h
    obtain ⟨B1, e3, rfl⟩ := Option.map_eq_some_iff.mp h
    obtain ⟨r, h1, h2⟩ := s_ops e1
    exact s_bin (S.e C e2) (S.e C e3) (h1 X) (h2 X)
  | UnaryOp op a pos =>
    cases op with
    | USub =>
      obtain ⟨B, e1, rfl⟩ := Option.map_eq_some_iff.mp (show (trE π n g N sc a).map E.neg = some A from h)
      exact s_neg (S.e C e1)
    | Not =>
      obtain ⟨B, e1, rfl⟩ := Option.map_eq_some_iff.mp (show (trE π n g N sc a).map E.not = some A from h)
      exact s_notv (S.e C e1)
    | _ => cases h
  | BoolOp op es pos =>
    cases es with
    | nil => cases op <;> cases h
    | cons e es =>
      cases op with
      | And =>
        obtain ⟨l, e1, rfl⟩ := Option.map_eq_some_iff.mp (show (trEs π n g N sc (e :: es)).map E.and = some A from h)
        have := S.es C e1
        cases l with
        | nil => exact this.elim
        | cons B l => exact AllE.and this
      | Or =>
        obtain ⟨l, e1, rfl⟩ := Option.map_eq_some_iff.mp (show (trEs π n g N sc (e :: es)).map E.or = some A from h)
        have := S.es C e1
        cases l with
        | nil => exact this.elim
        | cons B l => exact AllE.or this
  | Compare a ops bs pos =>
    match ops, bs, h with
    | [o], [b], h =>
      have h : (if behindInMarks (coOp (opC o)) b then none else (trE π n g N sc a).bind fun A => (trE π n g N sc b).map fun B => E.cmp (opC o) A B) = some A := h
      split at h <;> try contradiction
      rename_i hb
      obtain ⟨A1, e1, h⟩ := Option.bind_eq_some_iff.mp h
      obtain ⟨B1, e2, rfl⟩ := Option.map_eq_some_iff.mp h
      have := s_cmp (pos := pos) (o := opC o) C.units (S.e C e1) (S.e C e2) (by simpa using hb)
      rw [opc_ok] at this
      exact this
    | [o, o'], [b, c], h =>
      have h : (if lastMarks [coOp (opC o), coOp (opC o')] [b, c] then none else (trE π n g N sc a).bind fun A => (trE π n g N sc b).bind fun B => (trE π n g N sc c).map fun C => E.cmp2 (opC o) (opC o') A B C) = some A := h
      split at h <;> try contradiction
      rename_i hb
      obtain ⟨A1, e1, h⟩ := Option.bind_eq_some_iff.mp h
      obtain ⟨B1, e2, h⟩ := Option.bind_eq_some_iff.mp h
      obtain ⟨C1, e3, rfl⟩ := Option.map_eq_some_iff.mp h
      have := s_cmp2 (pos := pos) (o := opC o) (o' := opC o') C.units (S.e C e1) (S.e C e2) (S.e C e3) (by simpa using hb)
      rw [opc_ok, opc_ok] at this
      exact this
    | [], _, h => cases h
    | [_], [], h => cases h
    | [_], _ :: _ :: _, h => cases h
    | [_, _], [], h => cases h
    | [_, _], [_], h => cases h
    | [_, _], _ :: _ :: _ :: _, h => cases h
    | _ :: _ :: _ :: _, _, h => cases h
  | IfExp c a b pos =>
    obtain ⟨C1, e1, h⟩ := Option.bind_eq_some_iff.mp (show ((trT π n g N sc c).bind fun C => (trE π n g N sc a).bind fun A => (trE π n g N sc b).map fun B => E.ife C A B) = some A from h)
    obtain ⟨A1, e2, h⟩ := Option.bind_eq_some_iff.mp h
    obtain ⟨B1, e3, rfl⟩ := Option.map_eq_some_iff.mp h
    exact s_ife (S.t C e1) (S.e C e2) (S.e C e3)
  | Tuple es k pos =>
    obtain ⟨l, e1, rfl⟩ := Option.map_eq_some_iff.mp (show (trEs π n g N sc es).map E.tup = some A from h)
    exact s_tup (S.es C e1).pa
  | List es pos =>
    obtain ⟨l, e1, rfl⟩ := Option.map_eq_some_iff.mp (show (trEs π n g N sc es).map E.lst = some A from h)
    exact s_lst (S.es C e1).pa
  | Subscript a b pos =>
    have idx : ∀ b : Expr, (if notSlice b then (trE π n g N sc a).bind fun A => (trE π n g N sc b).map fun B => E.idx A B else none) = some A → PE X (.Subscript a b pos) (tI X (evE W (Gf π) A)) := fun b h => by
      split at h <;> try contradiction
      rename_i hs
      obtain ⟨A1, e1, h⟩ := Option.bind_eq_some_iff.mp h
      obtain ⟨B1, e2, rfl⟩ := Option.map_eq_some_iff.mp h
      exact s_idx (S.e C e1) (S.e C e2) (plain_ix hs)
    cases b with
    | Slice lo hi st p2 =>
      cases st with
      | none =>
        obtain ⟨A1, e1, h⟩ := Option.bind_eq_some_iff.mp (show ((trE π n g N sc a).bind fun A => (trO π n g N sc lo).bind fun L => (trO π n g N sc hi).map fun H => E.slc A L H) = some A from h)
        obtain ⟨L1, e2, h⟩ := Option.bind_eq_some_iff.mp h
        obtain ⟨H1, e3, rfl⟩ := Option.map_eq_some_iff.mp h
        exact s_slc (S.e C e1) (S.o C e2) (S.o C e3)
      | some st =>
        replace h : (if lo.isNone && hi.isNone && isM1 st then (trE π n g N sc a).map (fun A => E.bi .rv [A]) else none) = some A := h
        split at h <;> try contradiction
        rename_i h1
        rw [Bool.and_eq_true, Bool.and_eq_true] at h1
        obtain ⟨⟨h2, h3⟩, h1⟩ := h1
        obtain ⟨A1, e1, rfl⟩ := Option.map_eq_some_iff.mp h
        obtain ⟨k, q1, q2, rfl⟩ := isM1_ok h1
        cases lo with
        | some _ => cases h2
        | none =>
          cases hi with
          | some _ => cases h3
          | none =>
            rw [ev_rv]
            exact s_rev (S.e C e1)
    | _ => exact idx _ h
  | Call f args kws pos =>
    cases f with
    | Name x p =>
      replace h : (if isGl sc x && okName x then trC π n g N sc x args kws else none) = some A := h
      split at h <;> try contradiction
      rename_i hc
      rw [Bool.and_eq_true] at hc
      exact S.c C hc.1 hc.2 h
    | Attribute o x apos =>
      match kws, h with
      | [], h =>
        replace h : (if apos.endLine == pos.line && okBase o then (mtOf x args.length).bind fun m => if okM m args.length && mtNm m == x then (trE π n g N sc o).bind fun O => (trEs π n g N sc args).map fun l => E.mt m O l else none else none) = some A := h
        split at h <;> try contradiction
        rename_i hc
        rw [Bool.and_eq_true] at hc
        obtain ⟨m, e0, h⟩ := Option.bind_eq_some_iff.mp h
        split at h <;> try contradiction
        rename_i hm
        rw [Bool.and_eq_true] at hm
        obtain ⟨O1, e1, h⟩ := Option.bind_eq_some_iff.mp h
        obtain ⟨l, e2, rfl⟩ := Option.map_eq_some_iff.mp h
        have hx := beq_iff_eq.mp hm.2
        subst hx
        have hb : attributeBase o (mtNm m) X.env (eval o X.env) = eval o X.env := by
          cases o <;> first | rfl | cases hc.2
        have al := S.es C e2
        match args, hm, al with
        | [], hm, al =>
          match l, al with
          | [], _ => exact s_mt0 hm.1 (S.e C e1) hb hc.1
        | [a], hm, al =>
          have st := star_cons (env := X.env) (es := []) (show notStar a = true by have := al.star; simpa using this)
          exact s_mt C.units hm.1 (S.e C e1) al.pa hb (by rw [st]; rfl) hc.1 st rfl
        | [a, a2], hm, al =>
          have hst := al.star
          simp only [List.all_cons, List.all_nil, Bool.and_true, Bool.and_eq_true] at hst
          have st2 := star_cons (env := X.env) (es := []) hst.2
          have st := star_cons (env := X.env) (es := [a2]) hst.1
          exact s_mt C.units hm.1 (S.e C e1) al.pa hb (by rw [st, st2]; rfl) hc.1 st (by rw [st2]; rfl)
        | _ :: _ :: _ :: _, hm, _ => exact absurd hm.1 (by cases m <;> simp [okM])
      | _ :: _, h => cases h
    | _ => cases h
  | ListComp elt gens scope pos =>
    match gens, h with
    | [⟨tg, iter, ifs, 0⟩], h =>
      replace h : (if blkC N sc scope (ownOf N scope) && notSet iter then (trI π n g N sc tg iter).bind fun q => (trG N scope n tg).bind fun t => (trTs π n g N (relS scope sc) ifs).bind fun is => (trE π n g N (relS scope sc) elt).bind fun A => if subB t (ownOf N scope) then some (E.lc ((ownOf N scope).map (·.2)) A t q.1 q.2 is) else none else none) = some A := h
      split at h <;> try contradiction
      rename_i hc
      rw [Bool.and_eq_true] at hc
      obtain ⟨q, e2, h⟩ := Option.bind_eq_some_iff.mp h
      obtain ⟨t, e3, h⟩ := Option.bind_eq_some_iff.mp h
      obtain ⟨is, e4, h⟩ := Option.bind_eq_some_iff.mp h
      obtain ⟨A', e5, h⟩ := Option.bind_eq_some_iff.mp h
      split at h <;> try contradiction
      rename_i hsub
      cases h
      have hb : BlkOk X.N X.env.scope scope (ownOf N scope) := by rw [C.hN, C.hsc]; exact blkOk_by hc.1
      exact s_lc C.calm (by rw [C.hN]; exact C.nd) (S.i C e2) hb (fun s H c cl fp => (trG_ok n).1 (C.blk s H c cl fp) (tg_blk s H c cl fp) e3) (fun s H c cl fp => S.ts (C.blk s H c cl fp) e4) (fun s H c cl fp => S.e (C.blk s H c cl fp) e5) (set_fold hc.2) (own_sub hsub)
    | [⟨tg, iter, ifs, 0⟩, ⟨tg1, iter1, ifs1, 0⟩], h =>
      replace h : (if blkC N sc scope (ownOf N scope) && notSet iter && notSet iter1 then (trI π n g N sc tg iter).bind fun q => (trG N scope n tg).bind fun t => (trTs π n g N (relS scope sc) ifs).bind fun is => (trI π n g N (relS scope sc) tg1 iter1).bind fun q1 => (trG N scope n tg1).bind fun t1 =>
        (trTs π n g N (relS scope sc) ifs1).bind fun is1 => (trE π n g N (relS scope sc) elt).bind fun A => if subB t (ownOf N scope) && subB t1 (ownOf N scope) then some (E.lc2 ((ownOf N scope).map (·.2)) A t q.1 q.2 is t1.slots t1 q1.1 q1.2 is1) else none else none) = some A := h
      split at h <;> try contradiction
      rename_i hc
      simp only [Bool.and_eq_true] at hc
      obtain ⟨q, e2, h⟩ := Option.bind_eq_some_iff.mp h
      obtain ⟨t, e3, h⟩ := Option.bind_eq_some_iff.mp h
      obtain ⟨is, e4, h⟩ := Option.bind_eq_some_iff.mp h
      obtain ⟨q1, e6, h⟩ := Option.bind_eq_some_iff.mp h
      obtain ⟨t1, e7, h⟩ := Option.bind_eq_some_iff.mp h
      obtain ⟨is1, e8, h⟩ := Option.bind_eq_some_iff.mp h
      obtain ⟨A', e5, h⟩ := Option.bind_eq_some_iff.mp h
      split at h <;> try contradiction
      rename_i hsub
      rw [Bool.and_eq_true] at hsub
      cases h
      have hb : BlkOk X.N X.env.scope scope (ownOf N scope) := by rw [C.hN, C.hsc]; exact blkOk_by hc.1.1
      exact s_lc2 C.calm (by rw [C.hN]; exact C.nd) (S.i C e2) hb (own_sub hsub.2) (fun s H c cl fp => (trG_ok n).1 (C.blk s H c cl fp) (tg_blk s H c cl fp) e3) (fun s H c cl fp => S.ts (C.blk s H c cl fp) e4) (fun s H c cl fp => S.i (C.blk s H c cl fp) e6)
        (fun s H c cl fp => (trG_ok n).1 (C.blk s H c cl fp) (tg_blk s H c cl fp) e7) (fun s H c cl fp => S.ts (C.blk s H c cl fp) e8) (fun s H c cl fp => S.e (C.blk s H c cl fp) e5) (set_fold hc.1.2) (fun env => set_fold hc.2) (own_sub hsub.1) fun i hi => hi
    | [], h => cases h
    | [⟨_, _, _, .ofNat (k + 1)⟩], h => cases h
    | [⟨_, _, _, .negSucc k⟩], h => cases h
    | [⟨_, _, _, 0⟩, ⟨_, _, _, .ofNat (k + 1)⟩], h => cases h
    | [⟨_, _, _, 0⟩, ⟨_, _, _, .negSucc k⟩], h => cases h
    | [⟨_, _, _, .ofNat (k + 1)⟩, _], h => cases h
    | [⟨_, _, _, .negSucc k⟩, _], h => cases h
    | ⟨_, _, _, 0⟩ :: ⟨_, _, _, 0⟩ :: _ :: _, h => cases h
    | ⟨_, _, _, 0⟩ :: ⟨_, _, _, .ofNat (k + 1)⟩ :: _ :: _, h => cases h
    | ⟨_, _, _, 0⟩ :: ⟨_, _, _, .negSucc k⟩ :: _ :: _, h => cases h
    | ⟨_, _, _, .ofNat (k + 1)⟩ :: _ :: _ :: _, h => cases h
    | ⟨_, _, _, .negSucc k⟩ :: _ :: _ :: _, h => cases h
  | _ => cases h
theorem snd : ∀ n, Snd π W lv n
  | 0 => ⟨fun _ h => (by cases h), fun _ _ _ h => (by cases h), fun _ h => (by cases h), fun _ h => (by cases h), fun _ h => (by cases h), fun _ h => (by cases h), fun _ h => (by cases h), fun _ h => (by cases h), fun _ h => (by cases h)⟩
  | n + 1 => let S := snd n; ⟨snd_e S, snd_c S, snd_t S, snd_es S, snd_ks S, snd_tl S, snd_ts S, snd_o S, snd_i S⟩
end
end IX
end

section
set_option Elab.async false
set_option autoImplicit false
set_option linter.all false
set_option maxRecDepth 100000
set_option maxHeartbeats 4000000
/-! The translation is sound: statements. -/
namespace IX
open PySem PySem.Spec PyProof.Rows L2 GX
section
variable {π : Pg} {W : Wd} {lv g : Nat} {N : List Str} {sc scope : Scope} {X : Cx} {n : Nat} {env : PySem.Env}
theorem sw_no {e : Expr} {t : Option Expr} {l : Nat} (h : notComp e = true) : swapsWith e t l env = pure false := by
  cases e <;> first | rfl | cases h
theorem sw_sole {e t : Expr} {l : Nat} (h : notComp e = true) : swapsWithSole [t] e l env = pure false := sw_no h
theorem blt_kind (h : env.scope.kind = .function) : env.blockKind = .function := by
  unfold PySem.Env.blockKind
  rw [h]; rfl
def swLc (env : PySem.Env) (t : Str) (p q : Pos) (s : Scope) : Bool := env.blockKind == .function && env.kindOf t == some .local && p.line == q.line && !(s.names.any fun (n, k) => n == t && (k == .local || k == .cell))
theorem sw_lc {elt : Expr} {gens : List Comprehension} {s : Scope} {q p : Pos} {t : Str} {l : Nat} : swapsWith (.ListComp elt gens s q) (some (.Name t p)) l env = pure (swLc env t p q s) := rfl
theorem sw_loc {t : Str} {p q : Pos} {s : Scope} (h : swLc env t p q s = true) : env.scope.names.lookup t = some .local := by
  unfold swLc at h
  simp only [Bool.and_eq_true] at h
  exact beq_iff_eq.mp h.1.1.2
theorem loc_some {l : Nat} {x : Str} {p : Pos} (h : (locN sc l (.Name x p)).isSome = true) : sc.names.lookup x = some .local ∧ p.line = l := by
  have h : (if (match sc.names.lookup x with | some .local => true | _ => false) && p.line == l then some x else none).isSome = true := h
  split at h
  · rename_i hc
    refine ⟨hc, ?_⟩
    split at h
    · rename_i h2
      simpa using h2
    · cases h
  · cases h
theorem slot_ne {x y : Str} {i j : Nat} (h1 : slotOf N x = some i) (h2 : slotOf N y = some j) (hij : (i != j) = true) : x ≠ y := fun e => by
  subst e
  rw [h1] at h2
  cases h2
  simp at hij
theorem sw_two {x y : Str} {px py pt : Pos} {kt k2 : Nat} {pt2 : Pos} {a b : Expr} (hk : env.blockKind = .function) (hx : env.kindOf x = some .local) (hy : env.kindOf y = some .local) (hl : py.line = px.line) (hxy : x ≠ y)
    (ha : notStar a = true) (hb : notStar b = true) (hf : (foldedForSure 8 a && foldedForSure 8 b) = false) (hc : (constantsAlone 8 a && constantsAlone 8 b) = false) :
    swappedStores [.Tuple [.Name x px, .Name y py] kt pt] (.Tuple [a, b] k2 pt2) env = pure (some [x, y]) := by
  have hyx : (y == x) = false := by simpa using Ne.symm hxy
  have hxy' : (x == y) = false := by simpa using hxy
  have e1 : ((px.line : Nat) == px.line) = true := by simp
  unfold swappedStores
  simp only [List.length_cons, List.length_nil, hk, List.head?_cons, Option.map_some, Option.getD_some, List.filterMap_cons, List.filterMap_nil, hx, hy, hl, Expr.pos]
  refine (if_neg (by simp)).trans ((if_neg ?_).trans ?_)
  · simp only [List.any_cons, List.any_nil, Bool.or_false, Bool.or_eq_true, not_or]
    refine ⟨?_, ?_⟩
    · cases a <;> first | exact Bool.false_ne_true | cases ha
    · cases b <;> first | exact Bool.false_ne_true | cases hb
  · simp [List.eraseDups_cons, hyx]
    exact (if_neg (fun z => by rw [z.1, z.2] at hf; cases hf)).trans (if_neg (fun z => by rw [z.1, z.2] at hc; cases hc))
theorem sw_three {x y z : Str} {px py pz pt : Pos} {kt k2 : Nat} {pt2 : Pos} {a b c : Expr} (hk : env.blockKind = .function) (hx : env.kindOf x = some .local) (hy : env.kindOf y = some .local) (hz : env.kindOf z = some .local) (hl : py.line = px.line) (hl2 : pz.line = px.line) (hxy : x ≠ y) (hxz : x ≠ z) (hyz : y ≠ z)
    (ha : notStar a = true) (hb : notStar b = true) (hcs : notStar c = true) (hf : (foldedForSure 8 a && foldedForSure 8 b && foldedForSure 8 c) = false) (hc : (constantsAlone 8 a && constantsAlone 8 b && constantsAlone 8 c) = false) :
    swappedStores [.Tuple [.Name x px, .Name y py, .Name z pz] kt pt] (.Tuple [a, b, c] k2 pt2) env = pure (some [x, y, z]) := by
  have hyx : (y == x) = false := by simpa using Ne.symm hxy
  have hzx : (z == x) = false := by simpa using Ne.symm hxz
  have hzy : (z == y) = false := by simpa using Ne.symm hyz
  unfold swappedStores
  simp only [List.length_cons, List.length_nil, hk, List.head?_cons, Option.map_some, Option.getD_some, List.filterMap_cons, List.filterMap_nil, hx, hy, hz, hl, hl2, Expr.pos]
  refine (if_neg (by simp)).trans ((if_neg ?_).trans ?_)
  · simp only [List.any_cons, List.any_nil, Bool.or_false, Bool.or_eq_true, not_or]
    refine ⟨?_, ?_, ?_⟩
    · cases a <;> first | exact Bool.false_ne_true | cases ha
    · cases b <;> first | exact Bool.false_ne_true | cases hb
    · cases c <;> first | exact Bool.false_ne_true | cases hcs
  · simp [List.eraseDups_cons, hyx, hzx, hzy]
    exact (if_neg (fun z => by rw [z.1, z.2.1, z.2.2] at hf; cases hf)).trans (if_neg (fun z => by rw [z.1, z.2.1, z.2.2] at hc; cases hc))
end
end IX
end

section
set_option Elab.async false
set_option autoImplicit false
set_option linter.all false
set_option maxRecDepth 100000
set_option maxHeartbeats 4000000
/-! The translation is sound: statements, together. -/
namespace IX
open PySem PySem.Spec PyProof.Rows L2 GX
section
variable {π : Pg} {W : Wd} {lv g : Nat} {N : List Str} {sc scope : Scope} {X : Cx} {n L : Nat}
/-- a def's own context -/
structure StOk (sc : Scope) (X : Cx) : Prop where
  tg : TgOk sc X
  kind : X.env.scope.kind = .function
  pass : PassesOwn (model X.prog X.w) X.A X.env X.xe
theorem tg_loc {sc : Scope} {X : Cx} (T : TgOk sc X) {x : Str} (h : isLoc sc x = true) : L2.Loc X.env.scope x ∧ (X.fn x = true ∨ X.env.scope.names.lookup x = some .local) := T x h
theorem opb_bo {o : Operator} {bo : BO} (h : opB o = some bo) : o = boOp bo := by
  cases o <;> cases h <;> rfl
theorem set_lc {elt : Expr} {gens : List Comprehension} {scope : Scope} {q pos py : Pos} {y : Str} {i : Nat} {A : E} (C : CtxOk π W lv g N sc X) (hy : N[i]? = some y) (hsw : swLc X.env y py q scope = true)
    (h : trE π n g N sc (.ListComp elt gens scope q) = some A) : PS X (.Assign [.Name y py] (.ListComp elt gens scope q) pos) (tS X (setF (.nm i) (evE W (Gf π) A))) := by
  cases n with
  | zero => cases h
  | succ n =>
    have S : Snd π W lv n := snd n
    have hyl := sw_loc hsw
    have hsw' : swapsWith (.ListComp elt gens scope q) (some (.Name y py)) pos.line X.env = pure true := by rw [sw_lc, hsw]
    match gens, h, hsw' with
    | [⟨tg, iter, ifs, 0⟩], h, hsw' =>
      replace h : (if blkC N sc scope (ownOf N scope) && notSet iter then (trI π n g N sc tg iter).bind fun q => (trG N scope n tg).bind fun t => (trTs π n g N (relS scope sc) ifs).bind fun is => (trE π n g N (relS scope sc) elt).bind fun A => if subB t (ownOf N scope) then some (E.lc ((ownOf N scope).map (·.2)) A t q.1 q.2 is) else none else none) = some A := h
      split at h <;> try contradiction
      rename_i hc
      rw [Bool.and_eq_true] at hc
      obtain ⟨q, e2, h⟩ := Option.bind_eq_some_iff.mp h
      obtain ⟨t, e3, h⟩ := Option.bind_eq_some_iff.mp h
      obtain ⟨is, e4, h⟩ := Option.bind_eq_some_iff.mp h
      obtain ⟨A', e5, h⟩ := Option.bind_eq_some_iff.mp h
      split at h <;> try contradiction
      rename_i hsub
      cases h
      have hb : BlkOk X.N X.env.scope scope (ownOf N scope) := by rw [C.hN, C.hsc]; exact blkOk_by hc.1
      exact s_setlc C.calm (by rw [C.hN]; exact C.nd) (by rw [C.hN]; exact hy) hyl hsw' (S.i C e2) hb (fun s H c cl fp => (trG_ok n).1 (C.blk s H c cl fp) (tg_blk s H c cl fp) e3) (fun s H c cl fp => S.ts (C.blk s H c cl fp) e4) (fun s H c cl fp => S.e (C.blk s H c cl fp) e5) (set_fold hc.2) (own_sub hsub)
    | [⟨tg, iter, ifs, 0⟩, ⟨tg1, iter1, ifs1, 0⟩], h, hsw' =>
      replace h : (if blkC N sc scope (ownOf N scope) && notSet iter && notSet iter1 then (trI π n g N sc tg iter).bind fun q => (trG N scope n tg).bind fun t => (trTs π n g N (relS scope sc) ifs).bind fun is => (trI π n g N (relS scope sc) tg1 iter1).bind fun q1 => (trG N scope n tg1).bind fun t1 =>
        (trTs π n g N (relS scope sc) ifs1).bind fun is1 => (trE π n g N (relS scope sc) elt).bind fun A => if subB t (ownOf N scope) && subB t1 (ownOf N scope) then some (E.lc2 ((ownOf N scope).map (·.2)) A t q.1 q.2 is t1.slots t1 q1.1 q1.2 is1) else none else none) = some A := h
      split at h <;> try contradiction
      rename_i hc
      simp only [Bool.and_eq_true] at hc
      obtain ⟨q, e2, h⟩ := Option.bind_eq_some_iff.mp h
      obtain ⟨t, e3, h⟩ := Option.bind_eq_some_iff.mp h
      obtain ⟨is, e4, h⟩ := Option.bind_eq_some_iff.mp h
      obtain ⟨q1, e6, h⟩ := Option.bind_eq_some_iff.mp h
      obtain ⟨t1, e7, h⟩ := Option.bind_eq_some_iff.mp h
      obtain ⟨is1, e8, h⟩ := Option.bind_eq_some_iff.mp h
      obtain ⟨A', e5, h⟩ := Option.bind_eq_some_iff.mp h
      split at h <;> try contradiction
      rename_i hsub
      rw [Bool.and_eq_true] at hsub
      cases h
      have hb : BlkOk X.N X.env.scope scope (ownOf N scope) := by rw [C.hN, C.hsc]; exact blkOk_by hc.1.1
      exact s_setlc2 C.calm (by rw [C.hN]; exact C.nd) (by rw [C.hN]; exact hy) hyl hsw' (S.i C e2) hb (own_sub hsub.2) (fun s H c cl fp => (trG_ok n).1 (C.blk s H c cl fp) (tg_blk s H c cl fp) e3) (fun s H c cl fp => S.ts (C.blk s H c cl fp) e4) (fun s H c cl fp => S.i (C.blk s H c cl fp) e6)
        (fun s H c cl fp => (trG_ok n).1 (C.blk s H c cl fp) (tg_blk s H c cl fp) e7) (fun s H c cl fp => S.ts (C.blk s H c cl fp) e8) (fun s H c cl fp => S.e (C.blk s H c cl fp) e5) (set_fold hc.1.2) (fun env => set_fold hc.2) (own_sub hsub.1) fun i hi => hi
    | [], h, _ => cases h
    | [⟨_, _, _, .ofNat (k + 1)⟩], h, _ => cases h
    | [⟨_, _, _, .negSucc k⟩], h, _ => cases h
    | [⟨_, _, _, 0⟩, ⟨_, _, _, .ofNat (k + 1)⟩], h, _ => cases h
    | [⟨_, _, _, 0⟩, ⟨_, _, _, .negSucc k⟩], h, _ => cases h
    | [⟨_, _, _, .ofNat (k + 1)⟩, _], h, _ => cases h
    | [⟨_, _, _, .negSucc k⟩, _], h, _ => cases h
    | ⟨_, _, _, 0⟩ :: ⟨_, _, _, 0⟩ :: _ :: _, h, _ => cases h
    | ⟨_, _, _, 0⟩ :: ⟨_, _, _, .ofNat (k + 1)⟩ :: _ :: _, h, _ => cases h
    | ⟨_, _, _, 0⟩ :: ⟨_, _, _, .negSucc k⟩ :: _ :: _, h, _ => cases h
    | ⟨_, _, _, .ofNat (k + 1)⟩ :: _ :: _ :: _, h, _ => cases h
    | ⟨_, _, _, .negSucc k⟩ :: _ :: _ :: _, h, _ => cases h
theorem not_comp_tr {e : Expr} {A : E} (h : trE π n g N sc e = some A) : notComp e = true ∨ ∃ elt gens s q, e = .ListComp elt gens s q := by
  cases e <;> first | exact .inl rfl | exact .inr ⟨_, _, _, _, rfl⟩ | (cases n <;> cases h)
theorem asg_one {tg : Expr} {env : PySem.Env} (h : notStar tg = true) : (assignEach [tg] env).map (·.2) = [assign tg env] := by rw [asg_cons h]; rfl
structure SndS (π : Pg) (W : Wd) (lv L n : Nat) : Prop where
  s : ∀ {g : Nat} {N : List Str} {sc : Scope} {st : Stmt} {A : S} {X : Cx}, CtxOk π W lv g N sc X → StOk sc X → trS π n g N sc st = some A → PS X st (tS X (evS W (Gf π) L A))
  ss : ∀ {g : Nat} {N : List Str} {sc : Scope} {sts : List Stmt} {l : List S} {X : Cx}, CtxOk π W lv g N sc X → StOk sc X → trSs π n g N sc sts = some l → PSs X sts (tS X (evSs W (Gf π) L l))
theorem s_stk {st : Stmt} {G : Str → Option P} : PS X st (tS X (evS W G L .stk)) := ps_never.weak fun D σ H h => by
  obtain ⟨ρ, M, α, o, r, e, q⟩ := h
  cases e
theorem snd_ss (R : SndS π W lv L n) {sts : List Stmt} {l : List S} (C : CtxOk π W lv g N sc X) (Z : StOk sc X) (h : trSs π (n + 1) g N sc sts = some l) : PSs X sts (tS X (evSs W (Gf π) L l)) := by
  cases sts with
  | nil => cases h; exact ss_nil
  | cons st sts =>
    obtain ⟨l', e2, rfl⟩ := Option.map_eq_some_iff.mp (show ((trSs π n g N sc sts).map fun l => (trS π n g N sc st).getD .stk :: l) = some l from h)
    cases e1 : trS π n g N sc st with
    | some A => exact ss_cons (R.s C Z e1) (R.ss C Z e2)
    | none => exact ss_cons s_stk (R.ss C Z e2)
def notTup : Expr → Bool
  | .Tuple _ _ _ => false
  | _ => true
theorem tup_none {ts : List Expr} {k : Nat} {tp : Pos} {e : Expr} {env : PySem.Env} (h : notTup e = true) : swappedStores [.Tuple ts k tp] e env = pure none := by
  cases e <;> first | rfl | cases h
def locE (env : PySem.Env) (line : Nat) : Expr → Option Str
  | .Name id pos => if env.kindOf id == some .local && pos.line == line then some id else none
  | _ => none
theorem locE_eq {env : PySem.Env} {l : Nat} (h : env.scope = sc) : locE env l = locN sc l := by
  funext t
  cases t <;> try rfl
  rename_i id p
  show (if env.scope.names.lookup id == some .local && p.line == l then some id else none) = (if (match sc.names.lookup id with | some .local => true | _ => false) && p.line == l then some id else none)
  rw [h]
  cases e : sc.names.lookup id with
  | none => rfl
  | some k => cases k <;> rfl
theorem filter_short {A B : Type} {f : A → Option B} : ∀ {xs : List A}, (xs.filterMap f).length = xs.length → ∀ x ∈ xs, (f x).isSome = true
  | [], _, _, h => by simp at h
  | a :: xs, h, x, hx => by
    rw [List.filterMap_cons] at h
    cases e : f a with
    | none =>
      rw [e] at h
      have := List.length_filterMap_le f xs
      simp only [List.length_cons] at h
      omega
    | some b =>
      rw [e] at h
      simp only [List.length_cons, Nat.add_right_cancel_iff] at h
      rcases List.mem_cons.mp hx with z | z
      · rw [z, e]; rfl
      · exact filter_short h x z
theorem sw_off {ts vs : List Expr} {k k2 : Nat} {tp tp2 : Pos} {env : PySem.Env} (hs : env.scope = sc) (h : anyOff sc ts = true) : swappedStores [.Tuple ts k tp] (.Tuple vs k2 tp2) env = pure none := by
  have hl : ((ts.filterMap (locE env ((ts.head?.map (·.pos.line)).getD 0))).length != ts.length) = true := by
    rw [bne_iff_ne]
    intro z
    unfold anyOff at h
    rw [List.any_eq_true] at h
    obtain ⟨t, ht, e⟩ := h
    have := filter_short z t ht
    rw [locE_eq hs] at this
    cases q : locN sc ((ts.head?.map (·.pos.line)).getD 0) t with
    | none => rw [q] at this; cases this
    | some _ => rw [q] at e; cases e
  have hf : (fun t : Expr => match t with
      | .Name id pos => if env.kindOf id == some .local && pos.line == ((ts.head?.map (·.pos.line)).getD 0) then some id else none
      | _ => none) = locE env ((ts.head?.map (·.pos.line)).getD 0) := by
    funext t
    cases t <;> rfl
  unfold swappedStores
  dsimp only
  split
  · rfl
  · split
    · rfl
    · have hl2 : (ts.filterMap (fun t : Expr => match t with
        | .Name id pos => if env.kindOf id == some .local && pos.line == ((ts.head?.map (·.pos.line)).getD 0) then some id else none
        | _ => none)).length != ts.length := by rw [hf]; exact hl
      exact if_pos (by rw [Bool.or_eq_true]; exact .inl hl2)
theorem sw_fold {ts vs : List Expr} {k k2 : Nat} {tp tp2 : Pos} {env : PySem.Env} (h : vs.all (foldedForSure 8) = true) : swappedStores [.Tuple ts k tp] (.Tuple vs k2 tp2) env = pure none := by
  unfold swappedStores
  simp only [h, if_true]
  repeat' first | rfl | split
theorem sw_offs {ts vs : List Expr} {k k2 : Nat} {tp tp2 : Pos} {env : PySem.Env} (hs : env.scope = sc) (h : (anyOff sc ts || vs.all (foldedForSure 8)) = true) : swappedStores [.Tuple ts k tp] (.Tuple vs k2 tp2) env = pure none := by
  rcases Bool.or_eq_true_iff.mp h with h | h
  · exact sw_off hs h
  · exact sw_fold h
theorem snd_asg {tg : Expr} {e : Expr} {pos : Pos} {A : S} (C : CtxOk π W lv g N sc X) (Z : StOk sc X) (h : trA π n g N sc tg e = some A) : PS X (.Assign [tg] e pos) (tS X (evS W (Gf π) L A)) := by
  have Sn : Snd π W lv n := snd n
  have hN : X.N.Nodup := by rw [C.hN]; exact C.nd
  cases tg with
  | Name x px =>
    replace h : (if isLoc sc x then (slotOf N x).bind fun i => (trE π n g N sc e).map fun A => S.set (.nm i) A else none) = some A := h
    split at h <;> try contradiction
    rename_i hl
    obtain ⟨i, e1, h⟩ := Option.bind_eq_some_iff.mp h
    obtain ⟨B, e2, rfl⟩ := Option.map_eq_some_iff.mp h
    have hi := findIdx_get e1
    have hx := Z.tg x hl
    have plain : swapsWith e (some (.Name x px)) pos.line X.env = pure false → PS X (.Assign [.Name x px] e pos) (tS X (setF (.nm i) (evE W (Gf π) B))) := fun hs => s_set hN (by rw [C.hN]; exact hi) hx.1 (Sn.e C e2) hs hx.2
    rcases not_comp_tr e2 with hc | ⟨elt, gens, s, q, rfl⟩
    · exact plain (sw_no hc)
    · cases hsw : swLc X.env x px q s with
      | true => exact set_lc C hi hsw e2
      | false => exact plain (by rw [sw_lc, hsw])
  | Subscript o i ps =>
    replace h : (if notSlice i then (trE π n g N sc o).bind fun O => (trE π n g N sc i).bind fun I => (trE π n g N sc e).map fun A => S.seti O I A else none) = some A := h
    split at h <;> try contradiction
    rename_i hs
    obtain ⟨O, e1, h⟩ := Option.bind_eq_some_iff.mp h
    obtain ⟨I, e2, h⟩ := Option.bind_eq_some_iff.mp h
    obtain ⟨B, e3, rfl⟩ := Option.map_eq_some_iff.mp h
    refine s_seti (Sn.e C e3) (Sn.e C e1) (Sn.e C e2) (by cases i <;> first | (intro _; rfl) | cases hs) ?_ ?_ (asg_one rfl)
    · cases e <;> rfl
    · cases e <;> rfl
  | Tuple ts k tp =>
    have hk : X.env.blockKind = .function := blt_kind Z.kind
    have klo : ∀ {x : Str}, sc.names.lookup x = some .local → X.env.kindOf x = some .local := fun {x} h => by show X.env.scope.names.lookup x = _; rw [C.hsc]; exact h
    have other : swappedStores [.Tuple ts k tp] e X.env = pure none → (if notComp e then (trG N sc n (.Tuple ts k tp)).bind fun t => (trE π n g N sc e).map fun A => S.set t A else none) = some A → PS X (.Assign [.Tuple ts k tp] e pos) (tS X (evS W (Gf π) L A)) := fun he h => by
      split at h <;> try contradiction
      rename_i hc
      obtain ⟨t, e1, h⟩ := Option.bind_eq_some_iff.mp h
      obtain ⟨B, e2, rfl⟩ := Option.map_eq_some_iff.mp h
      have pg := (trG_ok n).1 C Z.tg e1
      have htp : ∃ l, t = .tp l := by
        cases n with
        | zero => cases e1
        | succ n =>
          obtain ⟨l, _, rfl⟩ := Option.map_eq_some_iff.mp (show (trGs N sc n ts).map T.tp = some t from e1)
          exact ⟨l, rfl⟩
      obtain ⟨l, rfl⟩ := htp
      exact s_asg (Sn.e C e2) (g_tpD pg) (sw_sole hc) he (asg_one rfl)
    cases e with
    | Tuple vs k2 tp2 =>
      replace h : (if anyOff sc ts || vs.all (foldedForSure 8) then (trG N sc n (.Tuple ts k tp)).bind fun t => (trE π n g N sc (.Tuple vs k2 tp2)).map fun A => S.set t A else trP π n g N sc ts vs) = some A := h
      split at h
      · rename_i ho
        exact other (sw_offs C.hsc ho) h
      replace h : (match (generalizing := false) ts, vs with
        | [.Name x px, .Name y py], [a, b] =>
          (slotOf N x).bind fun i => (slotOf N y).bind fun j => if i != j && (locN sc px.line (.Name x px)).isSome && (locN sc px.line (.Name y py)).isSome && notStar a && notStar b && !(foldedForSure 8 a && foldedForSure 8 b) && !(constantsAlone 8 a && constantsAlone 8 b) then
            (trEs π n g N sc [a, b]).map fun l => S.par [i, j] l else none
        | [.Name x px, .Name y py, .Name z pz], [a, b, c] =>
          (slotOf N x).bind fun i => (slotOf N y).bind fun j => (slotOf N z).bind fun l => if i != j && i != l && j != l && (locN sc px.line (.Name x px)).isSome && (locN sc px.line (.Name y py)).isSome && (locN sc px.line (.Name z pz)).isSome && notStar a && notStar b && notStar c &&
              !(foldedForSure 8 a && foldedForSure 8 b && foldedForSure 8 c) && !(constantsAlone 8 a && constantsAlone 8 b && constantsAlone 8 c) then
            (trEs π n g N sc [a, b, c]).map fun q => S.par [i, j, l] q else none
        | _, _ => none) = some A := h
      split at h
      · rename_i x px y py a b
        obtain ⟨i, e1, h⟩ := Option.bind_eq_some_iff.mp h
        obtain ⟨j, e2, h⟩ := Option.bind_eq_some_iff.mp h
        split at h <;> try contradiction
        rename_i hc
        simp only [Bool.and_eq_true, Bool.not_eq_true'] at hc
        obtain ⟨⟨⟨⟨⟨⟨c1, c2⟩, c3⟩, c4⟩, c5⟩, c6⟩, c7⟩ := hc
        obtain ⟨l, e3, rfl⟩ := Option.map_eq_some_iff.mp h
        obtain ⟨l1, _⟩ := loc_some c2
        obtain ⟨l2, m2⟩ := loc_some c3
        refine s_par C.calm hN (by rw [C.hN]; exact findIdx_get e1) (by rw [C.hN]; exact findIdx_get e2) (by simpa using c1) (klo l1) (klo l2) (Sn.es C e3).pa ?_ rfl
        exact sw_two hk (klo l1) (klo l2) m2 (slot_ne e1 e2 c1) c4 c5 c6 c7
      · rename_i x px y py z pz a b c
        obtain ⟨i, e1, h⟩ := Option.bind_eq_some_iff.mp h
        obtain ⟨j, e2, h⟩ := Option.bind_eq_some_iff.mp h
        obtain ⟨l0, e4, h⟩ := Option.bind_eq_some_iff.mp h
        split at h <;> try contradiction
        rename_i hc
        simp only [Bool.and_eq_true, Bool.not_eq_true'] at hc
        obtain ⟨⟨⟨⟨⟨⟨⟨⟨⟨⟨c1, c2⟩, c3⟩, c4⟩, c5⟩, c6⟩, c7⟩, c8⟩, c9⟩, c10⟩, c11⟩ := hc
        obtain ⟨l, e3, rfl⟩ := Option.map_eq_some_iff.mp h
        obtain ⟨l1, _⟩ := loc_some c4
        obtain ⟨l2, m2⟩ := loc_some c5
        obtain ⟨l3, m3⟩ := loc_some c6
        refine s_par3 C.calm hN (by rw [C.hN]; exact findIdx_get e1) (by rw [C.hN]; exact findIdx_get e2) (by rw [C.hN]; exact findIdx_get e4) (by simpa using c1) (by simpa using c2) (by simpa using c3) (klo l1) (klo l2) (klo l3) (Sn.es C e3).pa ?_ rfl
        exact sw_three hk (klo l1) (klo l2) (klo l3) m2 m3 (slot_ne e1 e2 c1) (slot_ne e1 e4 c2) (slot_ne e2 e4 c3) c7 c8 c9 c10 c11
      · cases h
    | _ => exact other (tup_none rfl) h
  | _ => cases h
theorem snd_s (R : SndS π W lv L n) {st : Stmt} {A : S} (C : CtxOk π W lv g N sc X) (Z : StOk sc X) (h : trS π (n + 1) g N sc st = some A) : PS X st (tS X (evS W (Gf π) L A)) := by
  have Sn : Snd π W lv n := snd n
  have hN : X.N.Nodup := by rw [C.hN]; exact C.nd
  cases st with
  | Expr e pos =>
    have plain : (if notComp e then (trE π n g N sc e).map S.ex else none) = some A → PS X (.Expr e pos) (tS X (evS W (Gf π) L A)) := fun h => by
      split at h <;> try contradiction
      rename_i hc
      obtain ⟨B, e1, rfl⟩ := Option.map_eq_some_iff.mp h
      exact s_ex (Sn.e C e1) (sw_no hc)
    cases e with
    | Constant c j p =>
      cases c with
      | str x => cases h; exact s_doc
      | _ => exact plain h
    | _ => exact plain h
  | Return e pos =>
    cases e with
    | none => cases h; exact s_retn
    | some e =>
      obtain ⟨B, e1, rfl⟩ := Option.map_eq_some_iff.mp (show (trE π n g N sc e).map S.ret = some A from h)
      exact s_ret (Sn.e C e1)
  | Pass pos => cases h; exact s_pas
  | Break pos => cases h; exact s_brk
  | Continue pos => cases h; exact s_cnt
  | If c a b pos =>
    obtain ⟨C1, e1, h⟩ := Option.bind_eq_some_iff.mp (show ((trT π n g N sc c).bind fun C => (trSs π n g N sc a).bind fun A => (trSs π n g N sc b).map fun B => S.ife C A B) = some A from h)
    obtain ⟨A1, e2, h⟩ := Option.bind_eq_some_iff.mp h
    obtain ⟨B1, e3, rfl⟩ := Option.map_eq_some_iff.mp h
    exact s_if (Sn.t C e1) (R.ss C Z e2) (R.ss C Z e3)
  | While c b o pos =>
    cases o with
    | cons _ _ => cases h
    | nil =>
      obtain ⟨C1, e1, h⟩ := Option.bind_eq_some_iff.mp (show ((trT π n g N sc c).bind fun C => (trSs π n g N sc b).map fun B => S.whl C B) = some A from h)
      obtain ⟨B1, e2, rfl⟩ := Option.map_eq_some_iff.mp h
      exact s_while Z.pass (Sn.t C e1) (R.ss C Z e2)
  | For tg iter b o pos =>
    cases o with
    | cons _ _ => cases h
    | nil =>
      replace h : (if notSet iter then (trI π n g N sc tg iter).bind fun q => (trG N sc n tg).bind fun t => (trSs π n g N sc b).map fun B => S.loop t q.1 q.2 B else none) = some A := h
      split at h <;> try contradiction
      rename_i hs
      obtain ⟨q, e1, h⟩ := Option.bind_eq_some_iff.mp h
      obtain ⟨t, e2, h⟩ := Option.bind_eq_some_iff.mp h
      obtain ⟨B1, e3, rfl⟩ := Option.map_eq_some_iff.mp h
      exact s_for Z.pass C.calm (Sn.i C e1) ((trG_ok n).1 C Z.tg e2) (R.ss C Z e3) (set_fold hs)
  | AugAssign tg o e pos =>
    cases tg with
    | Name x px =>
      replace h : (if isLoc sc x then (slotOf N x).bind fun i => (opB o).bind fun o => (trE π n g N sc e).map fun A => S.aug i o A else none) = some A := h
      split at h <;> try contradiction
      rename_i hl
      obtain ⟨i, e1, h⟩ := Option.bind_eq_some_iff.mp h
      obtain ⟨bo, e2, h⟩ := Option.bind_eq_some_iff.mp h
      obtain ⟨B, e3, rfl⟩ := Option.map_eq_some_iff.mp h
      have hx := Z.tg x hl
      rw [opb_bo e2]
      exact s_aug hN (by rw [C.hN]; exact findIdx_get e1) hx.1 (Sn.e C e3) hx.2
    | Subscript a i p =>
      replace h : (if notSlice i then (opB o).bind fun o => (trE π n g N sc a).bind fun A => (trE π n g N sc i).bind fun I => (trE π n g N sc e).map fun B => S.augi A I o B else none) = some A := h
      split at h <;> try contradiction
      rename_i hs
      obtain ⟨bo, e2, h⟩ := Option.bind_eq_some_iff.mp h
      obtain ⟨A1, e1, h⟩ := Option.bind_eq_some_iff.mp h
      obtain ⟨I1, e4, h⟩ := Option.bind_eq_some_iff.mp h
      obtain ⟨B, e3, rfl⟩ := Option.map_eq_some_iff.mp h
      rw [opb_bo e2]
      exact s_augi (Sn.e C e1) (Sn.e C e4) (Sn.e C e3) (by cases i <;> first | (intro _ _ _; rfl) | cases hs)
    | _ => cases h
  | Assign tgs e pos =>
    match tgs, h with
    | [tg], h => exact snd_asg C Z h
    | [], h => cases h
    | _ :: _ :: _, h => cases h
  | _ => cases h
theorem sndS : ∀ n, SndS π W lv L n
  | 0 => ⟨fun _ _ h => (by cases h), fun _ _ h => (by cases h)⟩
  | n + 1 => let R := sndS n; ⟨snd_s R, snd_ss R⟩
end
end IX
end

section
set_option Elab.async false
set_option autoImplicit false
set_option linter.all false
set_option maxRecDepth 100000
set_option maxHeartbeats 4000000
/-! A def called with less tracked; all defs of a program, by depth. -/
namespace IX
open PySem PySem.Spec PyProof.Rows L2 GX
/-- what is kept -/
def Few (bs : List Addr) (H : Hp) : Hp := fun b => if b ∈ bs then H b else none
def FewOk (bs : List Addr) (H : Hp) : Prop := ∀ b ∈ bs, H b = none ∨ (∃ ps, H b = some (.tbl ps)) ∨ (∃ xs, H b = some (.lst xs)) ∨ ∃ o xs, H b = some (.frz o (.lst xs))
theorem FnOk.few {P : Program} {w : World} {K : PySem.W.Frag} {mg : Str → Option Value} {base : Heap} {k : Nat} {f : Addr} {fd : FuncData} {ps : List Str} {sp sp' : Sp} (F : FnOk P w K mg base CXF k f fd ps sp)
    (h : ∀ vs H Q E, sp' vs H Q E → ∃ bs, FewOk bs H ∧ sp vs (Few bs H) (fun v _ => ∀ H', Q v H') E) : FnOk P w K mg base CXF k f fd ps sp' := by
  refine ⟨fun vs H Q E q => let ⟨bs, _, q⟩ := h vs H Q E q; F.len _ _ _ _ q, fun A outer s H args us vs Q E hr e0 hb hv hs => ?_⟩
  obtain ⟨bs, fo, q⟩ := h vs H Q E hs
  have n0 : ∀ {b}, H b = none → Few bs H b = none := fun {b} e => by
    unfold Few
    split
    · exact e
    · rfl
  have e1 : Env0 P w K mg base A outer s (Few bs H) := by
    refine ⟨e0.frames, e0.mod, fun b o e => ⟨(e0.bs b o e).1, n0 (e0.bs b o e).2⟩, e0.bsz, e0.funs, fun b hb => n0 (e0.frf b hb), fun b u e => ?_, e0.bare⟩
    unfold Few at e
    split at e
    · rename_i hm
      have ok := e0.hok b u e
      rcases fo b hm with z | ⟨ps, z⟩ | ⟨xs, z⟩ | ⟨o, xs, z⟩
      · rw [z] at e; cases e
      · rw [z] at e; cases e; exact ok
      · rw [z] at e; cases e; exact ok
      · rw [z] at e; cases e; exact ok
    · cases e
  refine codeAny_mono (F.run A outer s (Few bs H) args us vs _ E hr e1 hb hv q) fun r s' hq => ?_
  cases r with
  | error e => exact hq
  | ok fl =>
    cases fl with
    | next => exact hq
    | brk => exact hq
    | cont => exact hq
    | ret u =>
      obtain ⟨v, H1, os, bare, un, hok, rv, q1⟩ := hq
      have out : ∀ {b u}, H b = some u → b ∉ bs → H1 b = none ∧ ∀ o, s.heap.get? b = some o → s'.heap.get? b = some o := fun {b u} e hn => by
        have z : Few bs H b = none := if_neg hn
        obtain ⟨o, ho⟩ : ∃ o, s.heap.get? b = some o := by
          cases ho : s.heap.get? b with
          | none => rw [e0.hok.gone ho] at e; cases e
          | some o => exact ⟨o, rfl⟩
        have nf : b ∉ frs outer := fun hf => by rw [e0.frf b hf] at e; cases e
        exact ⟨un.free b o ho z (by simp), fun o' ho' => un.keep b o' ho' z nf (by simp)⟩
      let H2 : Hp := fun b => match H1 b with
        | some u => some u
        | none => if b ∈ bs then none else H b
      have in1 : ∀ {b u}, H1 b = some u → H2 b = some u := fun {b u} e => by show (match H1 b with | some u => some u | none => _) = _; rw [e]
      have in2 : ∀ {b u}, H b = some u → b ∉ bs → H2 b = some u := fun {b u} e hn => by
        show (match H1 b with | some u => some u | none => if b ∈ bs then none else H b) = _
        rw [(out e hn).1]
        exact (if_neg hn).trans e
      have ow : ∀ {b d}, H d = some (.own b) → d ∉ bs := fun {b d} e hm => by
        rcases fo d hm with z | ⟨_, z⟩ | ⟨_, z⟩ | ⟨_, _, z⟩ <;> (rw [z] at e; cases e)
      have tu : ∀ {d xs}, H d = some (.tup xs) → d ∉ bs := fun {d xs} e hm => by
        rcases fo d hm with z | ⟨_, z⟩ | ⟨_, z⟩ | ⟨_, _, z⟩ <;> (rw [z] at e; cases e)
      refine ⟨v, H2, os, bare, ⟨fun b o e n hf hx => un.keep b o e (n0 n) hf hx, fun b o e n hf hx => un.slot b o e (n0 n) hf hx, fun b o e n hx => ?_, un.there, fun b xs e => in2 e (tu e), fun b o u e => ?_, fun b ps e => ?_⟩, fun b u e => ?_, rv, q1 _⟩
      · show (match H1 b with | some u => some u | none => if b ∈ bs then none else H b) = none
        rw [un.free b o e (n0 n) hx, n]
        show (if b ∈ bs then none else none) = none
        split <;> rfl
      · by_cases hm : b ∈ bs
        · exact in1 (un.frzs b o u ((if_pos hm).trans e))
        · exact in2 e hm
      · by_cases hm : b ∈ bs
        · obtain ⟨more, z⟩ := un.tbls b ps ((if_pos hm).trans e)
          exact ⟨more, in1 z⟩
        · exact ⟨#[], by rw [in2 e hm]; simp⟩
      · cases e1 : H1 b with
        | some u' =>
          rw [in1 e1] at e
          cases e
          exact (hok b u e1).stay (fun d v _ q => q) (fun d q => in1 q) fun d xs q => in1 q
        | none =>
          have e : (match H1 b with | some u => some u | none => if b ∈ bs then none else H b) = some u := e
          rw [e1] at e
          have e : (if b ∈ bs then none else H b) = some u := e
          split at e
          · cases e
          · rename_i hm
            refine (e0.hok b u e).stay (fun d v hd q => ?_) (fun d q => in2 q (ow q)) fun d xs q => in2 q (tu q)
            rcases hd with z | z
            · rw [z] at q ⊢; exact (out e hm).2 v q
            · exact (out z (ow z)).2 v q
/-- how its arguments bind, by place -/
def BindAll (fd : FuncData) (ps : List Str) : Prop := ∀ (s : Shared) (us : List Value), us.length = ps.length → BindsTo s fd ⟨us, []⟩ (ps.zip us)
theorem BindAll.binds {K : PySem.W.Frag} {fd : FuncData} {ps : List Str} (b : BindAll fd ps) : Binds K fd ps [] := fun s us _ hl => by
  rw [List.append_nil] at hl ⊢
  exact b s us hl
/-- a def as it stands behind the top, and its translation -/
def DefIn (π : Pg) (Φ : Nat → Option Fn) (K : PySem.W.Frag) (mg : Str → Option Value) (n g : Nat) (x : Str) (i : Nat) (ps : List Str) (kss : List (List Str)) : Prop :=
  ∃ (f : Addr) (oc : Value) (od : Option Addr) (dV kV doc pm : Value) (an : Option Addr) (cdv ct : Value) (osl : Array (Option Value)) (params : Arguments) (body : List Stmt) (scope : Scope) (N : List Str) (c Pt : Addr) (fn : Fn),
    mg x = some (.ref f) ∧ PySem.W.keepIn K (.ref f) = true ∧ K.lookup f = some ⟨oc, od, .func (PySem.W.fnOf x x params body scope dV kV doc pm an cdv ct), osl⟩ ∧ PySem.W.codeIn K cdv x = true ∧ FnScope N ps scope ∧
    cdv = .ref c ∧ PySem.W.codeHdIn K c Pt = true ∧ BindAll (PySem.W.fnOf x x params body scope dV kV doc pm an cdv ct) ps ∧ (∀ ks ∈ kss, KBinds K (PySem.W.fnOf x x params body scope dV kV doc pm an cdv ct) ps ks (gKs ps ks) (gKs ps ks)) ∧
    Φ i = some fn ∧ fn.np = ps.length ∧ fn.ns = N.length ∧ trSs π n g N scope body = some fn.body
theorem all_fns {π : Pg} {Φ : Nat → Option Fn} {P : Program} {w : World} {K : PySem.W.Frag} {mg : Str → Option Value} {base : Heap} {n g L : Nat} (hK : K.In base) (bm : BmAt base mg) (blt : ∀ x ∈ bltN, mg x = none)
    (con : ∀ x p, π.G.lookup x = some p → ∃ u v, mg x = some u ∧ RelV v u ∧ ∀ H α, RP K H α p v)
    (defs : ∀ x i ps kss, π.F.lookup x = some (i, ps, kss) → DefIn π Φ K mg n g x i ps kss) :
    ∀ k x i ps kss, π.F.lookup x = some (i, ps, kss) → ∃ f fd, mg x = some (.ref f) ∧ PySem.W.keepIn K (.ref f) = true ∧ FnOk P w K mg base CXF ((g + 1) * k) f fd ps (spI K ps.length (evF Φ (Gf π) L k i)) ∧ BindAll fd ps ∧
      (∀ ks ∈ kss, KBinds K fd ps ks (gKs ps ks) (gKs ps ks)) ∧ ∃ oc od osl, K.lookup f = some ⟨oc, od, .func fd, osl⟩
  | 0, x, i, ps, kss, h => by
    obtain ⟨f, oc, od, dV, kV, doc, pm, an, cdv, ct, osl, params, body, scope, N, c, Pt, fn, h1, h2, h3, h4, h5, h6, h7, h8, h9, h10, h11, h12, h13⟩ := defs x i ps kss h
    refine ⟨f, _, h1, h2, ⟨fun vs H Q E q => q.1, fun A outer s H args us vs Q E hr e0 hb hv hs => ?_⟩, h8, h9, _, _, _, h3⟩
    obtain ⟨_, α, ds, M, d, M', _, _, _, _, hw, _⟩ := hs
    cases hw
  | k + 1, x, i, ps, kss, h => by
    obtain ⟨f, oc, od, dV, kV, doc, pm, an, cdv, ct, osl, params, body, scope, N, c, Pt, fn, h1, h2, h3, h4, h5, h6, h7, h8, h9, h10, h11, h12, h13⟩ := defs x i ps kss h
    refine ⟨f, _, h1, h2, ?_, h8, h9, _, _, _, h3⟩
    have ih := all_fns (P := P) (w := w) (L := L) hK bm blt con defs k
    have lev : (g + 1) * (k + 1) = ((g + 1) * k + g) + 1 := by rw [Nat.mul_succ]; omega
    rw [lev]
    refine fn_I h3 h4 h5 hK h6 h7 (fb := evSs (evF Φ (Gf π) L k) (Gf π) L fn.body) (fun ds M d M' hl hw => ?_) fun A outer s H E hr => ?_
    · have hw : ((Φ i).bind fun fn => if ds.length = fn.np then (evSs (evF Φ (Gf π) L k) (Gf π) L fn.body (entry fn ds) M).bind fin else none) = some (d, M') := hw
      rw [h10] at hw
      have hw : (if ds.length = fn.np then (evSs (evF Φ (Gf π) L k) (Gf π) L fn.body (entry fn ds) M).bind fin else none) = some (d, M') := hw
      split at hw <;> try contradiction
      obtain ⟨o, e1, e2⟩ := Option.bind_eq_some_iff.mp hw
      refine ⟨o, ?_, e2⟩
      unfold entry at e1
      rw [h11, h12] at e1
      exact e1
    · refine PSs.nox (sndS (π := π) (W := evF Φ (Gf π) L k) (lv := (g + 1) * k) (L := L) n |>.ss (g := g) (N := N) (sc := scope) ⟨rfl, rfl, h5.nd, hr, rfl, bm, blt, con, fun x i ps kss hx => ?_⟩ ⟨fun x hx => ⟨loc_ok hx, .inl rfl⟩, h5.kind, .never⟩ h13)
      obtain ⟨f, fd, a1, a2, a3, a4, a5, _⟩ := ih x i ps kss hx
      exact ⟨f, fd, a1, a2, a3, a4.binds, a5⟩
end IX
end

section
set_option Elab.async false
set_option autoImplicit false
set_option linter.all false
set_option maxRecDepth 100000
set_option maxHeartbeats 4000000
/-! The end of a law row. -/
namespace IX
open PySem PySem.Spec PyProof.Rows L2 GX
theorem paired_get {A B : Type} {R : A → B → Prop} : ∀ {xs : List A} {ys : List B} {i : Nat}, Paired R xs ys → (xs[i]? = none ∧ ys[i]? = none) ∨ ∃ x y, xs[i]? = some x ∧ ys[i]? = some y ∧ R x y
  | _, _, i, .nil => .inl (by simp)
  | _, _, 0, .cons r _ => .inr ⟨_, _, rfl, rfl, r⟩
  | _, _, i + 1, .cons _ t => by simpa using paired_get (i := i) t
theorem getAll_pair {A B : Type} {R : A → B → Prop} {xs : List A} {ys : List B} (h : Paired R xs ys) : ∀ is : List Nat, (getAll xs is = none ∧ getAll ys is = none) ∨ ∃ us vs, getAll xs is = some us ∧ getAll ys is = some vs ∧ Paired R us vs
  | [] => .inr ⟨[], [], rfl, rfl, .nil⟩
  | i :: is => by
    show ((xs[i]? >>= fun x => getAll xs is >>= fun rs => some (x :: rs)) = none ∧ (ys[i]? >>= fun x => getAll ys is >>= fun rs => some (x :: rs)) = none) ∨ ∃ us vs, (xs[i]? >>= fun x => getAll xs is >>= fun rs => some (x :: rs)) = some us ∧ (ys[i]? >>= fun x => getAll ys is >>= fun rs => some (x :: rs)) = some vs ∧ Paired R us vs
    rcases paired_get (i := i) h with ⟨e1, e2⟩ | ⟨x, y, e1, e2, r⟩
    · rw [e1, e2]; exact .inl ⟨rfl, rfl⟩
    · rw [e1, e2]
      rcases getAll_pair h is with ⟨e3, e4⟩ | ⟨us, vs, e3, e4, p⟩
      · rw [e3, e4]; exact .inl ⟨rfl, rfl⟩
      · rw [e3, e4]; exact .inr ⟨x :: us, y :: vs, rfl, rfl, .cons r p⟩
theorem gKs_rel {ps ks : List Str} {vs zs : List V} {us ws : List Value} (h : Vals vs us) (h2 : Vals zs ws) : Vals (gKs ps ks vs zs) (gKs ps ks us ws) := by
  cases h with
  | nil =>
    show Vals ((getAll zs (ixOf ps ks)).getD []) ((getAll ws (ixOf ps ks)).getD [])
    rcases getAll_pair h2 (ixOf ps ks) with ⟨e1, e2⟩ | ⟨us, vs, e1, e2, p⟩
    · rw [e1, e2]; exact .nil
    · rw [e1, e2]; exact p
  | cons _ _ => exact .nil
/-- a def of the text, told by the head -/
theorem def_in {π : Pg} {Φ : Nat → Option Fn} {K : PySem.W.Frag} {mg : Str → Option Value} {n g : Nat} {x : Str} {i : Nat} {ps : List Str} {kss : List (List Str)} {params : Arguments} {body : List Stmt} {scope : Scope} {fd : FuncData} {N : List Str} {fn : Fn}
    (F : FunD K x x params body scope [] [] (He.fAd K (x, none)) fd) (hm : mg x = some (.ref (He.ga K x))) (hct : PySem.W.codeHdIn K (He.cT K (x, none)).1 (He.cT K (x, none)).2 = true) (S : FnScope N ps scope) (hps : ps ≠ [])
    (hb : ∀ (kV doc pm : Value) (an : Option Addr) (cdv ct : Value) (us : List Value), us.length = ps.length → bindArgs (PySem.W.fnOf x x params body scope .none kV doc pm an cdv ct) ⟨us, []⟩ = pure (ps.zip us))
    (hkb : ∀ ks ∈ kss, ∀ (kV doc pm : Value) (an : Option Addr) (cdv ct : Value) (ws : List Value), (gKs ps ks [] ws).length = ps.length → bindArgs (PySem.W.fnOf x x params body scope .none kV doc pm an cdv ct) ⟨[], ks.zip ws⟩ = pure (ps.zip (gKs ps ks [] ws)))
    (h1 : Φ i = some fn) (h2 : fn.np = ps.length) (h3 : fn.ns = N.length) (h4 : trSs π n g N scope body = some fn.body) : DefIn π Φ K mg n g x i ps kss := by
  obtain ⟨oc, od, dV, kV, doc, pm, an, cdv, ct, osl, rfl, lk, hcd, hD, _⟩ := F.ex
  have hdV : dV = .none := by
    rcases hD with ⟨_, e⟩ | ⟨e, _⟩
    · exact e
    · exact absurd rfl e
  subst hdV
  obtain ⟨c, rfl⟩ := He.codeIn_ref hcd
  have hc : He.codeOf K (x, none) = c := He.codeOf_eq lk rfl
  have hct : PySem.W.codeHdIn K (He.codeOf K (x, none)) (He.tabOf K (He.codeOf K (x, none))) = true := hct
  rw [hc] at hct
  refine ⟨_, oc, od, .none, kV, doc, pm, an, .ref c, ct, osl, params, body, scope, N, c, _, fn, hm, F.kp, lk, hcd, S, rfl, hct, fun s us hl => .of_eq (hb kV doc pm an _ ct us hl), fun ks hks => ⟨fun s us ws _ hl => ?_, fun a b => gKs_rel a b⟩, h1, h2, h3, h4⟩
  cases us with
  | nil => exact .of_eq (hkb ks hks kV doc pm an _ ct ws hl)
  | cons u us =>
    have hl : 0 = ps.length := hl
    exact absurd (List.length_eq_zero_iff.mp hl.symm) hps
/-- every code object with a table is one of tf -/
def exT (tf : List He.Defn) (K : PySem.W.Frag) : Bool := K.all fun q => !(PySem.W.codeHdIn K q.1 (He.tabOf K q.1)) || tf.any fun p => decide (He.codeOf K p = q.1)
theorem codeHd_tab {K : PySem.W.Frag} {c Pt : Addr} (h : PySem.W.codeHdIn K c Pt = true) : He.tabOf K c = Pt ∧ ∃ o, K.lookup c = some o := by
  unfold PySem.W.codeHdIn at h
  split at h
  · rename_i vs sl hk
    simp only [Bool.and_eq_true] at h
    obtain ⟨⟨⟨⟨⟨h1, _⟩, _⟩, _⟩, _⟩, _⟩ := h
    split at h1
    · rename_i P' h11
      have hP : P' = Pt := beq_iff_eq.mp h1
      subst hP
      refine ⟨?_, _, hk⟩
      unfold He.tabOf
      rw [hk]
      show (match vs.getD 11 Value.none with | .ref P => P | _ => 0) = _
      rw [Array.getD_eq_getD_getElem?, h11]
      rfl
    · cases h1
  · cases h
theorem ex_trk {tf : List He.Defn} {K : PySem.W.Frag} (h : exT tf K = true) {c Pt : Addr} (hc : PySem.W.codeHdIn K c Pt = true) : ∃ p ∈ tf, (He.cT K p).2 = Pt := by
  obtain ⟨ht, o, hk⟩ := codeHd_tab hc
  have := List.all_eq_true.mp h (c, o) (He.lookup_mem hk)
  simp only [ht, hc, Bool.not_true, Bool.false_or, List.any_eq_true, decide_eq_true_eq] at this
  obtain ⟨p, hp, e⟩ := this
  exact ⟨p, hp, by show He.tabOf K (He.codeOf K p) = Pt; rw [e]; exact ht⟩
theorem rps_ints {K : PySem.W.Frag} {H : Hp} {α : List Addr} : ∀ ns : List Int, RPs K H α (ns.map P.int) (ns.map V.int)
  | [] => by unfold RPs; trivial
  | i :: ns => by
    show RPs K H α (_ :: _) (_ :: _)
    unfold RPs
    exact ⟨by unfold RP; rfl, rps_ints ns⟩
theorem lookup_in {A : Type} {x : Str} {y : A} : ∀ {l : List (Str × A)}, l.lookup x = some y → (x, y) ∈ l
  | [], h => by simp at h
  | (a, b) :: l, h => by
    rw [List.lookup_cons] at h
    split at h
    · rename_i e
      cases h
      rw [beq_iff_eq.mp e]
      exact List.mem_cons_self
    · exact List.mem_cons_of_mem _ (lookup_in h)
/-- the law's end -/
theorem law_at {l : PySem.W.OpenLaw} {w : World} {K : PySem.W.Frag} {mg : Str → Option Value} {fa : Addr} {h : Heap} {π : Pg} {Φ : Nat → Option Fn} {n g L k most i : Nat} {fs : List He.Fa} {fn : List He.DefD} {ts : List He.Tab} {tf : List He.Defn} {ex : PySem.W.Frag → Bool}
    (KX : K.In h) (c : He.SaysX fs fn ts tf ex w h K) (hex : exT tf K = true) (hmg : mg ("law" : Str) = some (.ref fa)) (htf : tf ≠ [])
    (blt : ∀ x ∈ bltN, mg x = none) (con : ∀ x p, π.G.lookup x = some p → ∃ u v, mg x = some u ∧ RelV v u ∧ ∀ H α, RP K H α p v)
    (defs : ∀ x i ps kss, π.F.lookup x = some (i, ps, kss) → DefIn π Φ K mg n g x i ps kss) {kss : List (List Str)} (hlaw : π.F.lookup ("law" : Str) = some (i, [("script" : Str)], kss))
    (run : ∀ ns : List Int, ns.length ≤ most → (∀ z ∈ ns, Builtin.Int.intBits z ≤ 1048576) → ∃ M', evF Φ (Gf π) L k i [.scr (ns.map P.int)] [] = some (.p (.bl true), M')) :
    LamX.LawAtS l w K CXF ((g + 1) * k) most "script" mg fa h := by
  obtain ⟨f0, oc, od, dV, kV, doc, pm, an, cdv, ct, osl, params, body, scope, N, cc, Pt, fn0, h1, h2, h3, h4, h5, h6, h7, h8, h9, h10⟩ := defs _ _ _ _ hlaw
  have e0 : f0 = fa := by rw [hmg] at h1; cases h1; rfl
  subst e0
  refine ⟨PySem.W.fnOf "law" "law" params body scope dV kV doc pm an cdv ct, tf.map (He.cT K), fun vs H Q E => ∃ bs, FewOk bs H ∧ spI K 1 (evF Φ (Gf π) L k i) vs (Few bs H) (fun v _ => ∀ H', Q v H') E, ?_, ?_, ?_, fun s u => h8 s [u] rfl, ?_, ?_⟩
  · intro p hp
    obtain ⟨q, hq, rfl⟩ := List.mem_map.mp hp
    exact c.empty q hq
  · intro p hp
    obtain ⟨q, hq, rfl⟩ := List.mem_map.mp hp
    exact c.out q hq
  · intro p hp
    obtain ⟨q, hq, rfl⟩ := List.mem_map.mp hp
    exact PySem.W.codeHd_of_K KX (c.hd q hq)
  · intro H a ns hl hbits hT hS
    obtain ⟨M', hrun⟩ := run ns hl hbits
    have inT : ∀ {b}, b ∈ (tf.map (He.cT K)).map (·.2) → H b = some (.tbl #[]) := fun {b} hb => by
      obtain ⟨p, hp, rfl⟩ := List.mem_map.mp hb
      exact hT p hp
    have main : ∀ bs : List Addr, (∀ b ∈ (tf.map (He.cT K)).map (·.2), b ∈ bs) → (∀ b ∈ bs, b ∈ (tf.map (He.cT K)).map (·.2) ∨ (∃ xs, H b = some (.lst xs)) ∨ ∃ o xs, H b = some (.frz o (.lst xs))) →
        ((Rd (Few bs H) a (.lst (ns.map V.int)) ∧ a ∉ ([] : List Addr)) ∨ SqL K (fun _ => none) a (ns.map V.int)) →
        ∃ bs, FewOk bs H ∧ spI K 1 (evF Φ (Gf π) L k i) [.ref a] (Few bs H) (fun v _ => ∀ _ : Hp, v = .bl true) fun _ _ _ => False := fun bs hi ho hs => by
      refine ⟨bs, fun b hb => ?_, rfl, [], [.scr (ns.map P.int)], [], _, _, ⟨List.nodup_nil, rfl, fun i a xs e => by simp at e⟩, fun Pt ps e => ?_, fun cd Pt hc => ?_, ⟨⟨a, _, rfl, hs, rps_ints ns⟩, trivial⟩, hrun, fun v H' α' _ rd _ => rd⟩
      · rcases ho b hb with z | ⟨xs, z⟩ | ⟨o, xs, z⟩
        · exact .inr (.inl ⟨_, inT z⟩)
        · exact .inr (.inr (.inl ⟨xs, z⟩))
        · exact .inr (.inr (.inr ⟨o, xs, z⟩))
      · have e : (if Pt ∈ bs then H Pt else none) = some (.tbl ps) := e
        split at e
        · rename_i hm
          rcases ho Pt hm with z | ⟨xs, z⟩ | ⟨o, xs, z⟩
          · rw [inT z] at e
            cases e
            exact ⟨(show TriplesOk [] from trivial), fun pos cv z => by cases z⟩
          · rw [z] at e; cases e
          · rw [z] at e; cases e
        · cases e
      · obtain ⟨p, hp, rfl⟩ := ex_trk hex hc
        have hm : (He.cT K p).2 ∈ (tf.map (He.cT K)).map (·.2) := List.mem_map.mpr ⟨_, List.mem_map.mpr ⟨p, hp, rfl⟩, rfl⟩
        exact ⟨#[], (if_pos (hi _ hm)).trans (inT hm)⟩
    rcases hS with hS | hS
    · refine main ((tf.map (He.cT K)).map (·.2) ++ [a]) (fun b hb => List.mem_append_left _ hb) (fun b hb => ?_) (.inl ⟨?_, by simp⟩)
      · rcases List.mem_append.mp hb with z | z
        · exact .inl z
        · rw [List.mem_singleton.mp z]
          rcases hS with z | ⟨o, z⟩
          · exact .inr (.inl ⟨_, z⟩)
          · exact .inr (.inr ⟨o, _, z⟩)
      · rcases hS with z | ⟨o, z⟩
        · exact .inl ((if_pos (by simp)).trans z)
        · exact .inr ⟨o, (if_pos (by simp)).trans z⟩
    · exact main ((tf.map (He.cT K)).map (·.2)) (fun b hb => hb) (fun b hb => .inl hb) (.inr (.inr hS))
  · intro base hKb hns hTB
    have bm : BmAt base mg := by
      obtain ⟨p, hp⟩ := List.exists_mem_of_ne_nil tf htf
      obtain ⟨bm, o, b1, b2, b3, b4, b5, b6, b7, b8⟩ := (hTB _ (List.mem_map.mpr ⟨p, hp, rfl⟩)).bm
      exact ⟨bm, o, b1, b2, b5, b6, b7, b8⟩
    obtain ⟨f, fd, a1, a2, a3, a4, a5, oc2, od2, osl2, a6⟩ := all_fns (P := l.prog) (w := w) (L := L) hKb bm blt con defs k _ _ _ _ hlaw
    rw [hmg] at a1
    cases a1
    rw [h3] at a6
    cases a6
    exact FnOk.few a3 fun vs H Q E q => q
end IX
end

section
set_option linter.all false
set_option autoImplicit false
set_option maxRecDepth 100000
/-! Running the small language by rewriting. -/
namespace IX
open PySem
section
variable (W : Wd) (G : Str → Option P) (N : Nat)
def whl (t : E) (b : List S) (n : Nat) (ρ : Env) (M : Mem) : Option Out := whileL (fun ρ M => evT W G t ρ M) (fun ρ M => evSs W G N b ρ M) n ρ M
def lop (t : T) (b : List S) (s : Src) (xs : List P) (ρ : Env) (M : Mem) : Option Out := forL s (fun x ρ M => (t.put x ρ).bind fun ρ' => evSs W G N b ρ' M) xs ρ M
def lcx (vs : List Nat) (elt : E) (t : T) (ifs : List E) (ρ : Env) (x : P) (M : Mem) : Option (List P × Mem) := do
      let ρ' ← t.put x (wipeE ρ vs)
      let (b, M) ← evIfs W G ifs ρ' M
      if b then do
        let (y, M) ← evE W G elt ρ' M
        match y with
        | .p r => some ([r], M)
        | _ => none
      else some ([], M)
def lcs (vs : List Nat) (elt : E) (t : T) (ifs : List E) (s : Src) (xs : List P) (ρ : Env) (M : Mem) : Option (List P × Mem) := turns s (lcx W G vs elt t ifs ρ) xs M
def gnx (vs : List Nat) (elt : E) (t : T) (ifs : List E) (ρ : Env) (M : Mem) (x : P) : Option (Option P) := do
      let ρ' ← t.put x (wipeE ρ vs)
      let (b, M') ← evIfs W G ifs ρ' M
      if b then do
        let (y, M'') ← evE W G elt ρ' M'
        match y with
        | .p r => if M'' = M then some (some r) else none
        | _ => none
      else if M' = M then some none else none
def callX (f : Nat) (as : List D) (M : Mem) : Option (D × Mem) := (W f as M).bind fun q => some (back M q.1 q.2)
def lcx2 (vs : List Nat) (elt : E) (t : T) (ifs : List E) (vs1 : List Nat) (t1 : T) (k1 : IK) (sr1 ifs1 : List E) (ρ : Env) (x : P) (M : Mem) : Option (List P × Mem) := do
      let ρ' ← t.put x (wipeE ρ vs)
      let (b, M) ← evIfs W G ifs ρ' M
      if b then do
        let (ds1, M) ← evEs W G sr1 ρ' M
        let s1 ← src k1 ds1 M
        if noScr ρ' && s1.fr then lcs W G vs1 elt t1 ifs1 s1 s1.xs ρ' M else none
      else some ([], M)
def lcs2 (vs : List Nat) (elt : E) (t : T) (ifs : List E) (vs1 : List Nat) (t1 : T) (k1 : IK) (sr1 ifs1 : List E) (s : Src) (xs : List P) (ρ : Env) (M : Mem) : Option (List P × Mem) := turns s (lcx2 W G vs elt t ifs vs1 t1 k1 sr1 ifs1 ρ) xs M
variable {W G N} {ρ : Env} {M : Mem}
@[simp] theorem e_lc2 (vs : List Nat) (elt : E) (t : T) (k : IK) (sr ifs : List E) (vs1 : List Nat) (t1 : T) (k1 : IK) (sr1 ifs1 : List E) : evE W G (.lc2 vs elt t k sr ifs vs1 t1 k1 sr1 ifs1) ρ M = (evEs W G sr ρ M).bind fun p => (src k p.1 p.2).bind fun s => (lcs2 W G vs elt t ifs vs1 t1 k1 sr1 ifs1 s s.xs ρ p.2).bind fun q => newl q.1 q.2 := by rfl
@[simp] theorem lcs2_nil (vs : List Nat) (elt : E) (t : T) (ifs : List E) (vs1 : List Nat) (t1 : T) (k1 : IK) (sr1 ifs1 : List E) (s : Src) : lcs2 W G vs elt t ifs vs1 t1 k1 sr1 ifs1 s [] ρ M = some ([], M) := by rfl
theorem lcs2_cons (vs : List Nat) (elt : E) (t : T) (ifs : List E) (vs1 : List Nat) (t1 : T) (k1 : IK) (sr1 ifs1 : List E) (s : Src) (x : P) (r : List P) : lcs2 W G vs elt t ifs vs1 t1 k1 sr1 ifs1 s (x :: r) ρ M = (lcx2 W G vs elt t ifs vs1 t1 k1 sr1 ifs1 ρ x M).bind fun o => if s.ok o.2 = true then (lcs2 W G vs elt t ifs vs1 t1 k1 sr1 ifs1 s r ρ o.2).bind fun q => some (o.1 ++ q.1, q.2) else none := by rfl
@[simp] theorem ge_tup (s : Src) (F : P → Option (Option P)) : genEnd .tuple s F M = (gturns F s.xs).bind fun ys => if ys.length + 1 < sizeLine then some (.p (.tup ys), M) else none := by rfl
@[simp] theorem ge_sum (s : Src) (F : P → Option (Option P)) : genEnd .sum s F M = (gturns F s.xs).bind fun ys => (intsP ys).bind fun is => if ys.length + 1 < sizeLine then some (.p (.int is.sum), M) else none := by rfl
@[simp] theorem e_v (i : Nat) : evE W G (.v i) ρ M = (match ρ[i]? with | some (some d) => some (d, M) | _ => none) := by rfl
@[simp] theorem e_c (x : P) : evE W G (.c x) ρ M = some (.p x, M) := by rfl
@[simp] theorem e_g (n : Str) : evE W G (.g n) ρ M = (G n).map fun x => (.p x, M) := by rfl
@[simp] theorem e_bin (o : BO) (a b : E) : evE W G (.bin o a b) ρ M = (evE W G a ρ M).bind fun p => (evE W G b ρ p.2).bind fun q => binop o p.1 q.1 q.2 := by rfl
@[simp] theorem e_neg (a : E) : evE W G (.neg a) ρ M = (evE W G a ρ M).bind fun p => (match p.1 with | .p (.int i) => some (.p (.int (-i)), p.2) | _ => none) := by rfl
@[simp] theorem e_not (a : E) : evE W G (.not a) ρ M = (evE W G a ρ M).bind fun p => (truth p.2 p.1).bind fun b => some (.p (.bl (!b)), p.2) := by rfl
@[simp] theorem e_cmp (o : CO) (a b : E) : evE W G (.cmp o a b) ρ M = (evE W G a ρ M).bind fun p => (evE W G b ρ p.2).bind fun q => (cmpop o p.1 q.1 q.2).bind fun r => some (.p (.bl r), q.2) := by rfl
@[simp] theorem e_and (l : List E) : evE W G (.and l) ρ M = evAnd W G l ρ M := by rfl
@[simp] theorem e_or (l : List E) : evE W G (.or l) ρ M = evOr W G l ρ M := by rfl
@[simp] theorem e_ife (t a b : E) : evE W G (.ife t a b) ρ M = (evT W G t ρ M).bind fun p => if p.1 = true then evE W G a ρ p.2 else evE W G b ρ p.2 := by rfl
@[simp] theorem e_tup (l : List E) : evE W G (.tup l) ρ M = (evEs W G l ρ M).bind fun p => (datas p.1).bind fun ps => if ps.length ≤ sizeLine then some (.p (.tup ps), p.2) else none := by rfl
@[simp] theorem e_lst (l : List E) : evE W G (.lst l) ρ M = (evEs W G l ρ M).bind fun p => (datas p.1).bind fun ps => newl ps p.2 := by rfl
@[simp] theorem e_idx (a i : E) : evE W G (.idx a i) ρ M = (evE W G a ρ M).bind fun p => (evE W G i ρ p.2).bind fun q => (index p.1 q.1 q.2).bind fun r => some (.p r, q.2) := by rfl
@[simp] theorem e_call (f : Nat) (l : List E) (ix : List Nat) : evE W G (.call f l ix) ρ M = (evEs W G l ρ M).bind fun p => (getAll p.1 ix).bind fun as => callX W f as p.2 := by rfl
@[simp] theorem e_bi (b : BI) (l : List E) : evE W G (.bi b l) ρ M = (evEs W G l ρ M).bind fun p => bfun b p.1 p.2 := by rfl
@[simp] theorem e_mt (m : MT) (o : E) (l : List E) : evE W G (.mt m o l) ρ M = (evE W G o ρ M).bind fun p => (evEs W G l ρ p.2).bind fun q => (match p.1 with | .p (.ref i) => (q.2[i]?).bind fun xs => (mtf m q.2 xs q.1).bind fun r => some (.p r.1, q.2.set i r.2) | _ => none) := by rfl
@[simp] theorem e_lc (vs : List Nat) (elt : E) (t : T) (k : IK) (sr ifs : List E) : evE W G (.lc vs elt t k sr ifs) ρ M = (evEs W G sr ρ M).bind fun p => (src k p.1 p.2).bind fun s => (lcs W G vs elt t ifs s s.xs ρ p.2).bind fun q => newl q.1 q.2 := by rfl
@[simp] theorem e_gen (gk : GK) (vs : List Nat) (elt : E) (t : T) (k : IK) (sr ifs : List E) : evE W G (.gen gk vs elt t k sr ifs) ρ M = (evEs W G sr ρ M).bind fun p => (src k p.1 p.2).bind fun s => genEnd gk s (gnx W G vs elt t ifs ρ p.2) p.2 := by rfl
@[simp] theorem es_nil : evEs W G [] ρ M = some ([], M) := by rfl
@[simp] theorem es_cons (e : E) (es : List E) : evEs W G (e :: es) ρ M = (evE W G e ρ M).bind fun p => (evEs W G es ρ p.2).bind fun q => some (p.1 :: q.1, q.2) := by rfl
@[simp] theorem t_tru' (a : E) : evT W G (.tru a) ρ M = (evE W G a ρ M).bind fun p => (truth p.2 p.1).bind fun b => some (b, p.2) := by rfl
@[simp] theorem t_not' (a : E) : evT W G (.not a) ρ M = (evT W G a ρ M).bind fun p => some (!p.1, p.2) := by rfl
@[simp] theorem t_cmp' (o : CO) (a b : E) : evT W G (.cmp o a b) ρ M = (evE W G a ρ M).bind fun p => (evE W G b ρ p.2).bind fun q => (cmpop o p.1 q.1 q.2).bind fun r => some (r, q.2) := by rfl
@[simp] theorem t_and' (l : List E) : evT W G (.and l) ρ M = evTAnd W G l ρ M := by rfl
@[simp] theorem t_or' (l : List E) : evT W G (.or l) ρ M = evTOr W G l ρ M := by rfl
@[simp] theorem ta1 (e : E) : evTAnd W G [e] ρ M = evT W G e ρ M := by rfl
@[simp] theorem ta2 (e f : E) (es : List E) : evTAnd W G (e :: f :: es) ρ M = (evT W G e ρ M).bind fun p => if p.1 = true then evTAnd W G (f :: es) ρ p.2 else some (false, p.2) := by rfl
@[simp] theorem to1 (e : E) : evTOr W G [e] ρ M = evT W G e ρ M := by rfl
@[simp] theorem to2 (e f : E) (es : List E) : evTOr W G (e :: f :: es) ρ M = (evT W G e ρ M).bind fun p => if p.1 = true then some (true, p.2) else evTOr W G (f :: es) ρ p.2 := by rfl
@[simp] theorem va1 (e : E) : evAnd W G [e] ρ M = evE W G e ρ M := by rfl
@[simp] theorem vo1 (e : E) : evOr W G [e] ρ M = evE W G e ρ M := by rfl
@[simp] theorem va2 (e f : E) (es : List E) : evAnd W G (e :: f :: es) ρ M = (evE W G e ρ M).bind fun p => (match p.1 with | .p (.bl true) => evAnd W G (f :: es) ρ p.2 | .p (.bl false) => some (.p (.bl false), p.2) | _ => none) := by rfl
@[simp] theorem vo2 (e f : E) (es : List E) : evOr W G (e :: f :: es) ρ M = (evE W G e ρ M).bind fun p => (match p.1 with | .p (.bl true) => some (.p (.bl true), p.2) | .p (.bl false) => evOr W G (f :: es) ρ p.2 | _ => none) := by rfl
@[simp] theorem ifs0 : evIfs W G [] ρ M = some (true, M) := by rfl
@[simp] theorem ifs1 (c : E) : evIfs W G [c] ρ M = evT W G c ρ M := by rfl
@[simp] theorem ss_nil' : evSs W G N [] ρ M = some (.nx ρ M) := by rfl
theorem ss_cons' (s : S) (r : List S) : evSs W G N (s :: r) ρ M = (evS W G N s ρ M).bind fun o => (match o with | .nx ρ M => evSs W G N r ρ M | o => some o) := by rfl
@[simp] theorem s_set' (t : T) (e : E) : evS W G N (.set t e) ρ M = (evE W G e ρ M).bind fun p => (t.putD p.1 ρ).bind fun ρ' => some (.nx ρ' p.2) := by rfl
@[simp] theorem s_par' (is : List Nat) (es : List E) : evS W G N (.par is es) ρ M = (evEs W G es ρ M).bind fun p => (parE is p.1 ρ).bind fun ρ' => some (.nx ρ' p.2) := by rfl
@[simp] theorem s_seti' (o i e : E) : evS W G N (.seti o i e) ρ M = (evE W G e ρ M).bind fun d => (evE W G o ρ d.2).bind fun x => (evE W G i ρ x.2).bind fun k => (match x.1, k.1, d.1 with
    | .p (.ref j), .p (.int n), .p v => (k.2[j]?).bind fun xs => (seti xs n v).bind fun ys => some (.nx ρ (k.2.set j ys))
    | _, _, _ => none) := by rfl
@[simp] theorem s_aug' (i : Nat) (o : BO) (e : E) : evS W G N (.aug i o e) ρ M = (match ρ[i]? with
    | some (some x) => (evE W G e ρ M).bind fun y => (augop o x y.1).bind fun z => some (.nx (ρ.set i (some (.p z))) y.2)
    | _ => none) := by rfl
@[simp] theorem s_augi' (a i : E) (o : BO) (e : E) : evS W G N (.augi a i o e) ρ M = (evE W G a ρ M).bind fun x => (evE W G i ρ x.2).bind fun k => (index x.1 k.1 k.2).bind fun old => (evE W G e ρ k.2).bind fun y => (augop o (.p old) y.1).bind fun z => (match x.1, k.1 with
    | .p (.ref j), .p (.int n) => (y.2[j]?).bind fun xs => (seti xs n z).bind fun ys => some (.nx ρ (y.2.set j ys))
    | _, _ => none) := by rfl
@[simp] theorem s_ife' (t : E) (a b : List S) : evS W G N (.ife t a b) ρ M = (evT W G t ρ M).bind fun p => if p.1 = true then evSs W G N a ρ p.2 else evSs W G N b ρ p.2 := by rfl
@[simp] theorem s_loop' (t : T) (k : IK) (sr : List E) (b : List S) : evS W G N (.loop t k sr b) ρ M = (evEs W G sr ρ M).bind fun p => (src k p.1 p.2).bind fun s => lop W G N t b s s.xs ρ p.2 := by rfl
@[simp] theorem s_whl' (t : E) (b : List S) : evS W G N (.whl t b) ρ M = whl W G N t b N ρ M := by rfl
@[simp] theorem s_ret' (e : E) : evS W G N (.ret e) ρ M = (evE W G e ρ M).bind fun p => some (.rt p.1 p.2) := by rfl
@[simp] theorem s_retn' : evS W G N .retn ρ M = some (.rt (.p .non) M) := by rfl
@[simp] theorem s_ex' (e : E) : evS W G N (.ex e) ρ M = (evE W G e ρ M).bind fun p => some (.nx ρ p.2) := by rfl
@[simp] theorem s_pas' : evS W G N .pas ρ M = some (.nx ρ M) := by rfl
theorem whl_step (t : E) (b : List S) (n : Nat) : whl W G N t b (n + 1) ρ M = (evT W G t ρ M).bind fun p => if p.1 = true then (evSs W G N b ρ p.2).bind fun o => (match o with
      | .nx ρ M => whl W G N t b n ρ M
      | .ct ρ M => whl W G N t b n ρ M
      | .bk ρ M => some (.nx ρ M)
      | .rt d M => some (.rt d M)) else some (.nx ρ p.2) := by rfl
@[simp] theorem lop_nil (t : T) (b : List S) (s : Src) : lop W G N t b s [] ρ M = some (.nx ρ M) := by rfl
theorem lop_cons (t : T) (b : List S) (s : Src) (x : P) (r : List P) : lop W G N t b s (x :: r) ρ M = ((t.put x ρ).bind fun ρ' => evSs W G N b ρ' M).bind fun o => (match o with
    | .nx ρ M => if s.ok M = true then lop W G N t b s r ρ M else none
    | .ct ρ M => if s.ok M = true then lop W G N t b s r ρ M else none
    | .bk ρ M => some (.nx ρ M)
    | .rt d M => some (.rt d M)) := by rfl
@[simp] theorem lcs_nil (vs : List Nat) (elt : E) (t : T) (ifs : List E) (s : Src) : lcs W G vs elt t ifs s [] ρ M = some ([], M) := by rfl
theorem lcs_cons (vs : List Nat) (elt : E) (t : T) (ifs : List E) (s : Src) (x : P) (r : List P) : lcs W G vs elt t ifs s (x :: r) ρ M = (lcx W G vs elt t ifs ρ x M).bind fun o => if s.ok o.2 = true then (lcs W G vs elt t ifs s r ρ o.2).bind fun q => some (o.1 ++ q.1, q.2) else none := by rfl
@[simp] theorem putD_nm (i : Nat) (d : D) : T.putD (.nm i) d ρ = if i < ρ.length then some (ρ.set i (some d)) else none := by rfl
@[simp] theorem putD_tp (ts : List T) (x : P) : T.putD (.tp ts) (.p x) ρ = T.put (.tp ts) x ρ := by rfl
@[simp] theorem put_nm (i : Nat) (x : P) : T.put (.nm i) x ρ = if i < ρ.length then some (ρ.set i (some (.p x))) else none := by rfl
@[simp] theorem put_tp (ts : List T) (l : List P) : T.put (.tp ts) (.tup l) ρ = T.puts ts l ρ := by rfl
@[simp] theorem puts_nil : T.puts [] [] ρ = some ρ := by rfl
@[simp] theorem puts_cons (t : T) (ts : List T) (x : P) (xs : List P) : T.puts (t :: ts) (x :: xs) ρ = (T.put t x ρ).bind fun ρ' => T.puts ts xs ρ' := by rfl
@[simp] theorem b_add (a b : Int) : binop .add (.p (.int a)) (.p (.int b)) M = some (.p (.int (a + b)), M) := by rfl
@[simp] theorem b_sub (a b : Int) : binop .sub (.p (.int a)) (.p (.int b)) M = some (.p (.int (a - b)), M) := by rfl
@[simp] theorem b_mul (a b : Int) : binop .mul (.p (.int a)) (.p (.int b)) M = if mulOk a b = true then some (.p (.int (a * b)), M) else none := by rfl
@[simp] theorem b_div (a b : Int) : binop .fdiv (.p (.int a)) (.p (.int b)) M = if divOk b = true then some (.p (.int (a.fdiv b)), M) else none := by rfl
@[simp] theorem b_mod (a b : Int) : binop .mod (.p (.int a)) (.p (.int b)) M = if b ≠ 0 then some (.p (.int (a.fmod b)), M) else none := by rfl
@[simp] theorem c_lt (a b : Int) : cmpop .lt (.p (.int a)) (.p (.int b)) M = some (decide (a < b)) := by rfl
@[simp] theorem c_le (a b : Int) : cmpop .le (.p (.int a)) (.p (.int b)) M = some (decide (a ≤ b)) := by rfl
@[simp] theorem c_gt (a b : Int) : cmpop .gt (.p (.int a)) (.p (.int b)) M = some (decide (b < a)) := by rfl
@[simp] theorem c_ge (a b : Int) : cmpop .ge (.p (.int a)) (.p (.int b)) M = some (decide (b ≤ a)) := by rfl
@[simp] theorem eqv_int (a b : Int) : P.eqv (.int a) (.int b) = (a == b) := by rfl
@[simp] theorem c_eq (a b : Int) : cmpop .eq (.p (.int a)) (.p (.int b)) M = some (a == b) := by rfl
@[simp] theorem c_ne (a b : Int) : cmpop .ne (.p (.int a)) (.p (.int b)) M = some (!(a == b)) := by rfl
@[simp] theorem tr_int (a : Int) : truth M (.p (.int a)) = some (a != 0) := by rfl
@[simp] theorem tr_bl (a : Bool) : truth M (.p (.bl a)) = some a := by rfl
@[simp] theorem bf_abs (a : Int) : bfun .abs [.p (.int a)] M = some (.p (.int (if a < 0 then -a else a)), M) := by rfl
@[simp] theorem bf_int (a : Int) : bfun .int [.p (.int a)] M = some (.p (.int a), M) := by rfl
@[simp] theorem bf_intb (b : Bool) : bfun .int [.p (.bl b)] M = some (.p (.int (if b then 1 else 0)), M) := by rfl
@[simp] theorem bf_len (d : D) : bfun .len [d] M = (items M d).bind fun l => some (.p (.int l.length), M) := by rfl
@[simp] theorem bf_tuple (d : D) : bfun .tuple [d] M = (items M d).bind fun l => some (.p (.tup l), M) := by rfl
@[simp] theorem bf_list (d : D) : bfun .list [d] M = (items M d).bind fun l => newl l M := by rfl
@[simp] theorem it_tup' (l : List P) : items M (.p (.tup l)) = some l := by rfl
@[simp] theorem it_l' (i : Nat) : items M (.p (.ref i)) = M[i]? := by rfl
@[simp] theorem it_scr' (l : List P) : items M (.scr l) = some l := by rfl
@[simp] theorem datas_nil : datas [] = some [] := by rfl
@[simp] theorem datas_cons (x : P) (r : List D) : datas (.p x :: r) = (datas r).bind fun xs => some (x :: xs) := by rfl
@[simp] theorem par_nil : parE [] [] ρ = some ρ := by rfl
@[simp] theorem par_cons (i : Nat) (is : List Nat) (d : D) (ds : List D) : parE (i :: is) (d :: ds) ρ = if i < ρ.length then parE is ds (ρ.set i (some d)) else none := by rfl
@[simp] theorem ga_nil {A : Type} (xs : List A) : getAll xs [] = some [] := by rfl
@[simp] theorem ga_cons {A : Type} (xs : List A) (i : Nat) (r : List Nat) : getAll xs (i :: r) = (xs[i]?).bind fun x => (getAll xs r).bind fun rs => some (x :: rs) := by rfl
@[simp] theorem fin_rt (d : D) (M : Mem) : fin (.rt d M) = some (d, M) := by rfl
@[simp] theorem fin_nx (ρ : Env) (M : Mem) : fin (.nx ρ M) = some (.p .non, M) := by rfl
theorem evF_step (Φ : Nat → Option Fn) (k f : Nat) (ds : List D) (fn : Fn) (h : Φ f = some fn) (hl : ds.length = fn.np) : evF Φ G N (k + 1) f ds M = (evSs (evF Φ G N k) G N fn.body (entry fn ds) M).bind fin := by
  show ((Φ f).bind fun fn => if ds.length = fn.np then (evSs (evF Φ G N k) G N fn.body (entry fn ds) M).bind fin else none) = _
  rw [h]
  exact if_pos hl
@[simp] theorem obs {A B : Type} (a : A) (f : A → Option B) : (some a).bind f = f a := by rfl
theorem back_pure {d : D} {X : Mem} (h : d.und M.length = true) : back M d (M ++ X) = (d, M) := by
  unfold back
  rw [if_pos]
  · rw [List.take_left]
  · rw [h, Bool.true_and, List.all_eq_true]
    intro i hi
    rw [List.mem_range] at hi
    rw [Bool.or_eq_true]
    exact .inl (decide_eq_true (List.getElem?_append_left hi))
/-- a call that only computes -/
theorem callX_pure {f : Nat} {as : List D} {x : P} {X : Mem} (h : W f as M = some (.p x, M ++ X)) (hx : x.und M.length = true) : callX W f as M = some (.p x, M) := by
  unfold callX
  rw [h]
  show some (back M (.p x) (M ++ X)) = _
  rw [back_pure (d := .p x) hx]
end
end IX
end

section
set_option linter.all false
set_option autoImplicit false
set_option maxRecDepth 100000
/-! Running the small language forward: an outcome of which something holds. -/
namespace IX
open PySem
/-- there is an outcome, and Q holds of it -/
def Wp {A : Type} (o : Option A) (Q : A → Prop) : Prop := ∃ a, o = some a ∧ Q a
section
variable {A B : Type}
@[simp] theorem wp_some {a : A} {Q : A → Prop} : Wp (some a) Q ↔ Q a := ⟨fun ⟨_, e, h⟩ => by cases e; exact h, fun h => ⟨a, rfl, h⟩⟩
@[simp] theorem wp_none {Q : A → Prop} : Wp (none : Option A) Q ↔ False := ⟨fun ⟨_, e, _⟩ => (by cases e), fun h => h.elim⟩
theorem Wp.mono {o : Option A} {P Q : A → Prop} (h : Wp o P) (k : ∀ a, P a → Q a) : Wp o Q := by
  obtain ⟨a, e, p⟩ := h; exact ⟨a, e, k a p⟩
theorem Wp.bind {o : Option A} {f : A → Option B} {P : A → Prop} {Q : B → Prop} (h : Wp o P) (k : ∀ a, P a → Wp (f a) Q) : Wp (o.bind f) Q := by
  obtain ⟨a, rfl, p⟩ := h; exact k a p
theorem Wp.bindI {o : Option A} {f : A → Option B} {Q : B → Prop} (h : Wp o fun a => Wp (f a) Q) : Wp (o.bind f) Q := h.bind fun _ z => z
@[simp] theorem wp_ite {c : Prop} [Decidable c] {a b : Option A} {Q : A → Prop} : Wp (if c then a else b) Q ↔ (c → Wp a Q) ∧ (¬c → Wp b Q) := by
  split <;> simp [*]
@[simp] theorem bind_ite {c : Prop} [Decidable c] {a b : Option A} {f : A → Option B} : (if c then a else b).bind f = if c then a.bind f else b.bind f := by split <;> rfl
@[simp] theorem none_bind {f : A → Option B} : (none : Option A).bind f = none := by rfl
@[simp] theorem bind_as {C : Type} {o : Option A} {f : A → Option B} {g : B → Option C} : (o.bind f).bind g = o.bind fun a => (f a).bind g := by cases o <;> rfl
@[simp] theorem map_some' {a : A} {f : A → B} : (some a).map f = some (f a) := by rfl
end
section
variable {W : Wd} {G : Str → Option P} {N : Nat} {ρ : Env} {M : Mem}
def After (W : Wd) (G : Str → Option P) (N : Nat) (r : List S) (Q : Out → Prop) : Out → Prop
  | .nx ρ M => Wp (evSs W G N r ρ M) Q
  | o => Q o
variable {r : List S} {Q : Out → Prop}
@[simp] theorem after_nx : After W G N r Q (.nx ρ M) ↔ Wp (evSs W G N r ρ M) Q := by exact Iff.rfl
@[simp] theorem after_rt {d : D} : After W G N r Q (.rt d M) ↔ Q (.rt d M) := by exact Iff.rfl
@[simp] theorem after_bk : After W G N r Q (.bk ρ M) ↔ Q (.bk ρ M) := by exact Iff.rfl
@[simp] theorem after_ct : After W G N r Q (.ct ρ M) ↔ Q (.ct ρ M) := by exact Iff.rfl
@[simp] theorem wp_cons {s : S} : Wp (evSs W G N (s :: r) ρ M) Q ↔ Wp (evS W G N s ρ M) (After W G N r Q) := by
  rw [ss_cons']
  constructor
  · rintro ⟨a, e, h⟩
    obtain ⟨o, e1, e2⟩ := Option.bind_eq_some_iff.mp e
    refine ⟨o, e1, ?_⟩
    cases o with
    | nx ρ M => exact ⟨a, e2, h⟩
    | _ => cases e2; exact h
  · rintro ⟨o, e, h⟩
    rw [e]
    cases o with
    | nx ρ M => exact h
    | _ => exact ⟨_, rfl, h⟩
@[simp] theorem wp_nil : Wp (evSs W G N [] ρ M) Q ↔ Q (.nx ρ M) := wp_some
def Fin (Q : D × Mem → Prop) : Out → Prop
  | .rt d M => Q (d, M)
  | .nx _ M => Q (.p .non, M)
  | _ => False
@[simp] theorem Fin_rt {Q : D × Mem → Prop} {d : D} : Fin Q (.rt d M) ↔ Q (d, M) := by exact Iff.rfl
@[simp] theorem Fin_nx {Q : D × Mem → Prop} : Fin Q (.nx ρ M) ↔ Q (.p .non, M) := by exact Iff.rfl
theorem wp_fn {Φ : Nat → Option Fn} {k f : Nat} {ds : List D} (fn : Fn) {Q : D × Mem → Prop} (h : Φ f = some fn) (hl : ds.length = fn.np) (w : Wp (evSs (evF Φ G N k) G N fn.body (entry fn ds) M) (Fin Q)) : Wp (evF Φ G N (k + 1) f ds M) Q := by
  rw [evF_step Φ k f ds fn h hl]
  refine w.bind fun o q => ?_
  cases o <;> first | exact ⟨_, rfl, q⟩ | exact q.elim
/-- behind a loop's turn -/
def LP (s : Src) (I : Env → Mem → Prop) (Q : Out → Prop) : Out → Prop
  | .nx ρ M => s.ok M = true ∧ I ρ M
  | .ct ρ M => s.ok M = true ∧ I ρ M
  | .bk ρ M => Q (.nx ρ M)
  | .rt d M => Q (.rt d M)
variable {s : Src} {I : Env → Mem → Prop}
@[simp] theorem LP_nx : LP s I Q (.nx ρ M) ↔ s.ok M = true ∧ I ρ M := by exact Iff.rfl
@[simp] theorem LP_ct : LP s I Q (.ct ρ M) ↔ s.ok M = true ∧ I ρ M := by exact Iff.rfl
@[simp] theorem LP_bk : LP s I Q (.bk ρ M) ↔ Q (.nx ρ M) := by exact Iff.rfl
@[simp] theorem LP_rt {d : D} : LP s I Q (.rt d M) ↔ Q (.rt d M) := by exact Iff.rfl
theorem lop_wp {A : Type} (g : A → P) {t : T} {b : List S} (J : List A → List A → Env → Mem → Prop) (as : List A) (h0 : J [] as ρ M)
    (step : ∀ pre a r ρ M, as = pre ++ a :: r → J pre (a :: r) ρ M → Wp ((t.put (g a) ρ).bind fun ρ' => evSs W G N b ρ' M) (LP s (J (pre ++ [a]) r) Q))
    (done : ∀ ρ M, J as [] ρ M → Q (.nx ρ M)) : Wp (lop W G N t b s (as.map g) ρ M) Q := by
  have key : ∀ (r pre : List A) (ρ : Env) (M : Mem), as = pre ++ r → J pre r ρ M → Wp (lop W G N t b s (r.map g) ρ M) Q := by
    intro r
    induction r with
    | nil =>
      intro pre ρ M e h
      rw [List.append_nil] at e; subst e
      exact ⟨_, rfl, done ρ M h⟩
    | cons a r ih =>
      intro pre ρ M e h
      rw [List.map_cons, lop_cons]
      refine (step pre a r ρ M e h).bind fun o q => ?_
      cases o with
      | nx ρ M => rw [LP_nx] at q; simp only [q.1, if_true]; exact ih _ ρ M (by simp [e]) q.2
      | ct ρ M => rw [LP_ct] at q; simp only [q.1, if_true]; exact ih _ ρ M (by simp [e]) q.2
      | bk ρ M => exact ⟨_, rfl, q⟩
      | rt d M => exact ⟨_, rfl, q⟩
  exact key as [] ρ M rfl h0
/-- with the invariant and what follows as letters -/
theorem lop_wpJ {A : Type} (g : A → P) {t : T} {b : List S} (J : List A → List A → Env → Mem → Prop) (as : List A) (h0 : J [] as ρ M)
    (step : ∀ J' Q', J' = J → Q' = Q → ∀ pre a r ρ M, as = pre ++ a :: r → J pre (a :: r) ρ M → Wp ((t.put (g a) ρ).bind fun ρ' => evSs W G N b ρ' M) (LP s (J' (pre ++ [a]) r) Q'))
    (done : ∀ ρ M, J as [] ρ M → Q (.nx ρ M)) : Wp (lop W G N t b s (as.map g) ρ M) Q :=
  lop_wp g J as h0 (fun pre a r ρ M => step J Q rfl rfl pre a r ρ M) done
theorem lcs_wp {A : Type} (g : A → P) {vs : List Nat} {elt : E} {t : T} {ifs : List E} (J : List A → List A → List P → Mem → Prop) (as : List A) (h0 : J [] as [] M) {Q : List P × Mem → Prop}
    (step : ∀ pre a r acc M, as = pre ++ a :: r → J pre (a :: r) acc M → Wp (lcx W G vs elt t ifs ρ (g a) M) fun o => s.ok o.2 = true ∧ J (pre ++ [a]) r (acc ++ o.1) o.2)
    (done : ∀ acc M, J as [] acc M → Q (acc, M)) : Wp (lcs W G vs elt t ifs s (as.map g) ρ M) Q := by
  have key : ∀ (r pre : List A) (acc : List P) (M : Mem), as = pre ++ r → J pre r acc M → Wp (lcs W G vs elt t ifs s (r.map g) ρ M) fun q => Q (acc ++ q.1, q.2) := by
    intro r
    induction r with
    | nil =>
      intro pre acc M e h
      rw [List.append_nil] at e; subst e
      refine ⟨_, rfl, ?_⟩
      show Q (acc ++ [], M)
      rw [List.append_nil]; exact done acc M h
    | cons a r ih =>
      intro pre acc M e h
      rw [List.map_cons, lcs_cons]
      refine (step pre a r acc M e h).bind fun o q => ?_
      rw [q.1]
      simp only [if_true]
      refine (ih _ _ _ (by simp [e]) q.2).bind fun z hz => ⟨_, rfl, ?_⟩
      rw [List.append_assoc] at hz; exact hz
  exact (key as [] [] M rfl h0).mono fun q h => h
theorem lcs_map {A : Type} (g h : A → P) {vs : List Nat} {elt : E} {t : T} {ifs : List E} (ok : s.ok M = true) : ∀ as : List A, (∀ a ∈ as, lcx W G vs elt t ifs ρ (g a) M = some ([h a], M)) → lcs W G vs elt t ifs s (as.map g) ρ M = some (as.map h, M)
  | [], _ => rfl
  | a :: as, H => by
    rw [List.map_cons, lcs_cons, H a List.mem_cons_self]
    simp only [obs, ok, if_true]
    rw [lcs_map g h ok as fun b hb => H b (List.mem_cons_of_mem _ hb)]
    rfl
theorem lcs_filter {A : Type} (g h : A → P) (p : A → Bool) {vs : List Nat} {elt : E} {t : T} {ifs : List E} (ok : s.ok M = true) : ∀ as : List A, (∀ a ∈ as, lcx W G vs elt t ifs ρ (g a) M = some (if p a = true then [h a] else [], M)) → lcs W G vs elt t ifs s (as.map g) ρ M = some ((as.filter p).map h, M)
  | [], _ => rfl
  | a :: as, H => by
    rw [List.map_cons, lcs_cons, H a List.mem_cons_self]
    simp only [obs, ok, if_true]
    rw [lcs_filter g h p ok as fun b hb => H b (List.mem_cons_of_mem _ hb)]
    cases e : p a <;> simp [List.filter_cons, e]
theorem gturns_map {A : Type} {F : P → Option (Option P)} (g h : A → P) : ∀ as : List A, (∀ a ∈ as, F (g a) = some (some (h a))) → gturns F (as.map g) = some (as.map h)
  | [], _ => rfl
  | a :: as, H => by
    show (F (g a)).bind (fun o => (gturns F (as.map g)).bind fun ys => some (o.toList ++ ys)) = _
    rw [H a List.mem_cons_self, gturns_map g h as fun b hb => H b (List.mem_cons_of_mem _ hb)]
    rfl
theorem gturns_filter {A : Type} {F : P → Option (Option P)} (g h : A → P) (p : A → Bool) : ∀ as : List A, (∀ a ∈ as, F (g a) = some (if p a = true then some (h a) else none)) → gturns F (as.map g) = some ((as.filter p).map h)
  | [], _ => rfl
  | a :: as, H => by
    show (F (g a)).bind (fun o => (gturns F (as.map g)).bind fun ys => some (o.toList ++ ys)) = _
    rw [H a List.mem_cons_self, gturns_filter g h p as fun b hb => H b (List.mem_cons_of_mem _ hb)]
    cases e : p a <;> simp [List.filter_cons, e]
theorem gtest_all {A : Type} {F : P → Option (Option P)} (g : A → P) (p : A → Bool) : ∀ as : List A, (∀ a ∈ as, F (g a) = some (some (.bl (p a)))) → gtest false F (as.map g) = some (as.all p)
  | [], _ => rfl
  | a :: as, H => by
    show (F (g a)).bind (fun o => (match o with | none => gtest false F (as.map g) | some y => (truth [] (.p y)).bind fun b => if b = false then some false else gtest false F (as.map g))) = _
    rw [H a List.mem_cons_self]
    show (some (p a)).bind (fun b => if b = false then some false else gtest false F (as.map g)) = _
    rw [gtest_all g p as fun b hb => H b (List.mem_cons_of_mem _ hb)]
    cases e : p a <;> simp [e]
theorem gtest_any {A : Type} {F : P → Option (Option P)} (g : A → P) (p : A → Bool) : ∀ as : List A, (∀ a ∈ as, F (g a) = some (some (.bl (p a)))) → gtest true F (as.map g) = some (as.any p)
  | [], _ => rfl
  | a :: as, H => by
    show (F (g a)).bind (fun o => (match o with | none => gtest true F (as.map g) | some y => (truth [] (.p y)).bind fun b => if b = true then some true else gtest true F (as.map g))) = _
    rw [H a List.mem_cons_self]
    show (some (p a)).bind (fun b => if b = true then some true else gtest true F (as.map g)) = _
    rw [gtest_any g p as fun b hb => H b (List.mem_cons_of_mem _ hb)]
    cases e : p a <;> simp [e]
/-! calls -/
/-- no list number -/
def P.cl (x : P) : Prop := ∀ n, x.und n = true
/-- a call that gives x and leaves what stands -/
def Pure (V : Wd) (f : Nat) (as : List D) (x : P) (M : Mem) : Prop := x.cl ∧ Wp (V f as M) fun r => r.1 = .p x ∧ ∃ X, r.2 = M ++ X
theorem Pure.call {V : Wd} {f : Nat} {as : List D} {x : P} (h : Pure V f as x M) : callX V f as M = some (.p x, M) := by
  obtain ⟨hc, ⟨d, M'⟩, e, h1, X, h2⟩ := h
  dsimp only at h1 h2
  subst h1 h2
  exact callX_pure e (hc _)
theorem pure_of {V : Wd} {f : Nat} {as : List D} {x : P} (hc : x.cl) (w : Wp (V f as M) fun r => r.1 = .p x ∧ ∃ X, r.2 = M ++ X) : Pure V f as x M := ⟨hc, w⟩
@[simp] theorem und_int (i : Int) (n : Nat) : P.und n (.int i) = true := by simp [P.und]
@[simp] theorem und_bl (i : Bool) (n : Nat) : P.und n (.bl i) = true := by simp [P.und]
@[simp] theorem und_str (i : Str) (n : Nat) : P.und n (.str i) = true := by simp [P.und]
@[simp] theorem und_non (n : Nat) : P.und n .non = true := by simp [P.und]
@[simp] theorem und_tup (l : List P) (n : Nat) : P.und n (.tup l) = P.unds n l := by simp [P.und]
@[simp] theorem unds_nil (n : Nat) : P.unds n [] = true := by simp [P.unds]
@[simp] theorem unds_cons (x : P) (l : List P) (n : Nat) : P.unds n (x :: l) = (x.und n && P.unds n l) := by simp [P.unds]
theorem unds_map {A : Type} (g : A → P) (n : Nat) : ∀ as : List A, (∀ a ∈ as, (g a).und n = true) → P.unds n (as.map g) = true
  | [], _ => by simp
  | a :: as, h => by simp [h a List.mem_cons_self, unds_map g n as fun b hb => h b (List.mem_cons_of_mem _ hb)]
theorem cl_int (i : Int) : (P.int i).cl := fun n => by simp
theorem cl_bl (i : Bool) : (P.bl i).cl := fun n => by simp
theorem cl_non : (P.non).cl := fun n => by simp
theorem cl_tup {A : Type} {g : A → P} {as : List A} (h : ∀ a ∈ as, (g a).cl) : (P.tup (as.map g)).cl := fun n => by
  rw [und_tup]; exact unds_map g n as fun a ha => h a ha n
/-! more of the running -/
@[simp] theorem b_pow (a b : Int) : binop .pow (.p (.int a)) (.p (.int b)) M = if (decide (0 ≤ b) && decide (b ≤ 1000000) && decide (a.natAbs < 2 ^ 64)) = true then some (.p (.int (a ^ b.toNat)), M) else none := by rfl
@[simp] theorem b_addT (a b : List P) : binop .add (.p (.tup a)) (.p (.tup b)) M = if a.length + b.length ≤ sizeLine then some (.p (.tup (a ++ b)), M) else none := by rfl
@[simp] theorem b_addL (i j : Nat) : binop .add (.p (.ref i)) (.p (.ref j)) M = (M[i]?).bind fun a => (M[j]?).bind fun b => newl (a ++ b) M := by rfl
@[simp] theorem tr_non : truth M (.p .non) = some false := by rfl
@[simp] theorem tr_tup (l : List P) : truth M (.p (.tup l)) = some (!l.isEmpty) := by rfl
@[simp] theorem tr_ref (i : Nat) : truth M (.p (.ref i)) = M[i]?.map fun xs => !xs.isEmpty := by rfl
@[simp] theorem s_brk' : evS W G N .brk ρ M = some (.bk ρ M) := by rfl
@[simp] theorem s_cnt' : evS W G N .cnt ρ M = some (.ct ρ M) := by rfl
@[simp] theorem c_isN (a : P) : cmpop .is (.p a) (.p .non) M = some (decide (a = .non)) := by rfl
@[simp] theorem c_notN (a : P) : cmpop .isnot (.p a) (.p .non) M = some (!decide (a = .non)) := by rfl
@[simp] theorem bf_isint (x : P) : bfun .isint [.p x] M = some (.p (.bl (match x with | .int _ => true | .bl _ => true | _ => false)), M) := by rfl
@[simp] theorem bf_isbool (x : P) : bfun .isbool [.p x] M = some (.p (.bl (match x with | .bl _ => true | _ => false)), M) := by rfl
@[simp] theorem bf_istup (x : P) : bfun .istup [.p x] M = some (.p (.bl (match x with | .tup _ => true | _ => false)), M) := by rfl
@[simp] theorem bf_isstr (x : P) : bfun .isstr [.p x] M = some (.p (.bl (match x with | .str _ => true | _ => false)), M) := by rfl
@[simp] theorem bf_max2 (a b : Int) : bfun .max [.p (.int a), .p (.int b)] M = some (.p (.int (if b > a then b else a)), M) := by rfl
@[simp] theorem bf_min2 (a b : Int) : bfun .min [.p (.int a), .p (.int b)] M = some (.p (.int (if b < a then b else a)), M) := by rfl
@[simp] theorem e_slc (a : E) (lo hi : Option E) : evE W G (.slc a lo hi) ρ M = (evE W G a ρ M).bind fun p => (evO W G lo ρ p.2).bind fun l => (evO W G hi ρ l.2).bind fun h => slice p.1 l.1 h.1 h.2 := by rfl
@[simp] theorem eo_none : evO W G none ρ M = some (none, M) := by rfl
@[simp] theorem eo_some (e : E) : evO W G (some e) ρ M = (evE W G e ρ M).bind fun p => (match p.1 with | .p (.int i) => some (some i, p.2) | _ => none) := by rfl
@[simp] theorem sl_tup (l : List P) (lo hi : Option Int) : slice (.p (.tup l)) lo hi M = some (.p (.tup (cutp l lo hi)), M) := by rfl
@[simp] theorem sl_ref (i : Nat) (lo hi : Option Int) : slice (.p (.ref i)) lo hi M = M[i]?.bind fun xs => newl (cutp xs lo hi) M := by rfl
@[simp] theorem sl_scr (xs : List P) (lo hi : Option Int) : slice (.scr xs) lo hi M = newl (cutp xs lo hi) M := by rfl
@[simp] theorem e_cmp2 (o o' : CO) (a b c : E) : evE W G (.cmp2 o o' a b c) ρ M = (evE W G a ρ M).bind fun x => (evE W G b ρ x.2).bind fun y => (cmpop o x.1 y.1 y.2).bind fun r => if r = true then (evE W G c ρ y.2).bind fun z => (cmpop o' y.1 z.1 z.2).bind fun r' => some (.p (.bl r'), z.2) else some (.p (.bl false), y.2) := by rfl
@[simp] theorem t_cmp2' (o o' : CO) (a b c : E) : evT W G (.cmp2 o o' a b c) ρ M = (evE W G a ρ M).bind fun x => (evE W G b ρ x.2).bind fun y => (cmpop o x.1 y.1 y.2).bind fun r => if r = true then (evE W G c ρ y.2).bind fun z => (cmpop o' y.1 z.1 z.2).bind fun r' => some (r', z.2) else some (false, y.2) := by rfl
@[simp] theorem mt_append' (xs : List P) (x : P) : mtf .append M xs [.p x] = if xs.length < sizeLine then some (.non, xs ++ [x]) else none := by rfl
@[simp] theorem mt_popi' (xs : List P) (i : Int) : mtf .popi M xs [.p (.int i)] = if (decide (-(2 ^ 63) ≤ i) && decide (i < 2 ^ 63)) = true then (pix xs.length i).bind fun k => (xs[k]?).map fun y => (y, xs.eraseIdx k) else none := by rfl
@[simp] theorem src_tup (l : List P) : src .seq [.p (.tup l)] M = some ⟨l, [], true⟩ := by rfl
@[simp] theorem src_ref (i : Nat) : src .seq [.p (.ref i)] M = M[i]?.map fun xs => ⟨xs, [(i, xs)], true⟩ := by rfl
@[simp] theorem src_enmT (l : List P) : src .enm [.p (.tup l)] M = some ⟨enumP 0 l, [], true⟩ := by rfl
@[simp] theorem src_enmR (i : Nat) : src .enm [.p (.ref i)] M = M[i]?.map fun xs => ⟨enumP 0 xs, [(i, xs)], true⟩ := by
  show (M[i]?.map _).map _ = _
  cases M[i]? <;> rfl
@[simp] theorem src_zipT (l r : List P) : src .zip [.p (.tup l), .p (.tup r)] M = some ⟨zipP l r, [], true⟩ := by rfl
theorem src_rng1 {n : Int} (h : small n = true) : src .rng [.p (.int n)] M = some ⟨rangeP 0 n.toNat, [], true⟩ := by
  show (if small n then _ else _) = _
  rw [if_pos h]
theorem src_rng2 {a n : Int} (h0 : small a = true) (h : small n = true) : src .rng [.p (.int a), .p (.int n)] M = some ⟨rangeP a (n - a).toNat, [], true⟩ := by
  show (if small a && small n then _ else _) = _
  rw [if_pos (by simp [h0, h])]
@[simp] theorem ok_nil (l : List P) (b : Bool) : Src.ok ⟨l, [], b⟩ M = true := by rfl
@[simp] theorem ok_one (l : List P) (i : Nat) (xs : List P) (b : Bool) : Src.ok ⟨l, [(i, xs)], b⟩ M = decide (M[i]? = some xs) := by simp [Src.ok]
theorem rangeP_map (a : Int) (n : Nat) : rangeP a n = (List.range n).map fun (k : Nat) => P.int (a + (k : Int)) := rangeP_eq n a
theorem newl_ok {xs : List P} (h : xs.length ≤ sizeLine) : newl xs M = some (.p (.ref M.length), M ++ [xs]) := if_pos h
end
end IX
end

section
set_option linter.all false
set_option autoImplicit false
set_option maxRecDepth 10000
set_option exponentiation.threshold 100000
/-! Fractions as pairs, their sizes; Euclid's loop. -/
namespace IX
open PySem
def fr (q : Rat) : P := .tup [.int q.num, .int q.den]
def row (l : List Rat) : P := .tup (l.map fr)
theorem fr_cl (q : Rat) : (fr q).cl := fun n => by simp [fr]
theorem row_cl (l : List Rat) : (row l).cl := cl_tup fun q _ => fr_cl q
@[simp] theorem und_fr (q : Rat) (n : Nat) : (fr q).und n = true := fr_cl q n
@[simp] theorem und_row (l : List Rat) (n : Nat) : (row l).und n = true := row_cl l n
@[simp] theorem unds_frs (l : List Rat) (n : Nat) : P.unds n (l.map fr) = true := unds_map fr n l fun q _ => fr_cl q n
theorem fr_inj {a b : Rat} (h : fr a = fr b) : a = b := by
  simp only [fr, P.tup.injEq, List.cons.injEq, P.int.injEq] at h
  exact Rat.ext h.1 (by omega)
theorem fr_eq {a b : Rat} : fr a = fr b ↔ a = b := ⟨fr_inj, fun h => by rw [h]⟩
theorem eqv_fr (a b : Rat) : (fr a).eqv (fr b) = decide (a = b) := by
  have : (fr a).eqv (fr b) = (a.num == b.num && ((a.den : Int) == (b.den : Int) && true)) := by
    simp only [fr, P.eqv, P.toD, P.toDs, PyData.eqv, PyData.eqvAll]
  rw [this]
  by_cases h : a = b
  · subst h; simp
  · rw [decide_eq_false h]
    by_cases h1 : a.num = b.num
    · have h2 : a.den ≠ b.den := fun z => h (Rat.ext h1 z)
      have h3 : ((a.den : Int) == (b.den : Int)) = false := by
        rw [beq_eq_false_iff_ne]; omega
      rw [h3]; simp
    · simp [h1]
theorem fit_fr (q : Rat) (k : Nat) : (fr q).fit (k + 1) = true := by simp [fr, P.fit, P.fits]
theorem fits_frs (k : Nat) : ∀ l : List Rat, P.fits (k + 1) (l.map fr) = true
  | [] => by simp [P.fits]
  | q :: l => by simp [P.fits, fit_fr, fits_frs k l]
theorem fit_row (k : Nat) (l : List Rat) : (row l).fit (k + 2) = true := by simp [row, P.fit, fits_frs]
@[simp] theorem eqd_fr (a b : Rat) (M : Mem) : eqd M (.p (fr a)) (.p (fr b)) = some (decide (a = b)) := by
  show (if (fr a).fit 64 && (fr b).fit 64 then some ((fr a).eqv (fr b)) else none) = _
  rw [fit_fr, fit_fr, eqv_fr]; rfl
@[simp] theorem ceq_fr (a b : Rat) (M : Mem) : cmpop .eq (.p (fr a)) (.p (fr b)) M = some (decide (a = b)) := eqd_fr a b M
@[simp] theorem cne_fr (a b : Rat) (M : Mem) : cmpop .ne (.p (fr a)) (.p (fr b)) M = some (!decide (a = b)) := by
  have : cmpop .ne (.p (fr a)) (.p (fr b)) M = (eqd M (.p (fr a)) (.p (fr b))).map (!·) := by rfl
  rw [this, eqd_fr]; rfl
/-- the value, whatever it is -/
theorem eqvs_fr : ∀ (l m : List Rat), PyData.eqvAll (P.toDs (l.map fr)) (P.toDs (m.map fr)) = decide (l = m)
  | [], [] => by simp [P.toDs, PyData.eqvAll]
  | [], b :: m => by simp [P.toDs, PyData.eqvAll]
  | a :: l, [] => by simp [P.toDs, PyData.eqvAll]
  | a :: l, b :: m => by
    have h := eqv_fr a b
    unfold P.eqv at h
    simp only [List.map_cons, P.toDs, PyData.eqvAll, h, eqvs_fr l m, List.cons.injEq]
    by_cases h1 : a = b <;> by_cases h2 : l = m <;> simp [h1, h2]
theorem eqv_row (l m : List Rat) : (row l).eqv (row m) = decide (l = m) := by
  simp only [row, P.eqv, P.toD, PyData.eqv]; exact eqvs_fr l m
@[simp] theorem at0 (a b : P) (M : Mem) : index (.p (.tup [a, b])) (.p (.int 0)) M = some a := by rfl
@[simp] theorem at1 (a b : P) (M : Mem) : index (.p (.tup [a, b])) (.p (.int 1)) M = some b := by rfl
@[simp] theorem at30 (a b c : P) (M : Mem) : index (.p (.tup [a, b, c])) (.p (.int 0)) M = some a := by rfl
@[simp] theorem at31 (a b c : P) (M : Mem) : index (.p (.tup [a, b, c])) (.p (.int 1)) M = some b := by rfl
@[simp] theorem at32 (a b c : P) (M : Mem) : index (.p (.tup [a, b, c])) (.p (.int 2)) M = some c := by rfl
theorem at_nat {d : D} {M : Mem} {xs : List P} {x : P} {i : Nat} (h : items M d = some xs) (hx : xs[i]? = some x) : index d (.p (.int (i : Int))) M = some x := by
  show (items M d).bind (fun xs => atx xs i) = _
  rw [h]
  have hi := (List.getElem?_eq_some_iff.mp hx).1
  show (pix xs.length i).bind _ = _
  have : pix xs.length (i : Int) = some i := by
    unfold pix
    rw [if_pos (by omega), if_pos (by omega)]; simp
  rw [this]; exact hx
theorem num_eq (n : Int) (d : Nat) (h : d ≠ 0) : (mkRat n d).num = n / ((n.natAbs.gcd d : Nat) : Int) ∧ (mkRat n d).den = d / n.natAbs.gcd d := by
  rw [Rat.mkRat_def, dif_neg h, Rat.normalize_eq]
  exact ⟨rfl, rfl⟩
theorem abs_nat (n : Int) : (if n < 0 then -n else n) = (n.natAbs : Int) := by split <;> omega
theorem fmod_nat (a b : Nat) : ((a : Int).fmod (b : Int)) = ((a % b : Nat) : Int) := by
  rw [Int.fmod_eq_emod_of_nonneg _ (by omega)]; rfl
theorem divOk_of {b : Nat} (h : 0 < b) (h2 : b < 2 ^ 9000) : divOk (b : Int) = true := by
  unfold divOk
  have : (b : Int).natAbs.log2 < 9000 := by
    rw [Int.natAbs_natCast]
    exact (Nat.log2_lt (by omega)).mpr h2
  simp only [Bool.or_eq_true, Bool.and_eq_true, decide_eq_true_eq]
  exact .inl ⟨Int.natCast_pos.mpr h, this⟩
theorem mulOk_of {a b : Int} (h1 : a.natAbs < 2 ^ 4000) (h2 : b.natAbs < 2 ^ 4000) : mulOk a b = true := by
  unfold mulOk
  have l1 : a.natAbs.log2 < 4000 := by
    by_cases h : a.natAbs = 0
    · rw [h]; decide
    · exact (Nat.log2_lt h).mpr h1
  have l2 : b.natAbs.log2 < 4000 := by
    by_cases h : b.natAbs = 0
    · rw [h]; decide
    · exact (Nat.log2_lt h).mpr h2
  rw [Bool.or_eq_true, Bool.or_eq_true, decide_eq_true_eq]
  omega
theorem mulOk_r {a b : Int} (h1 : -(2 ^ 64) < b) (h2 : b < 2 ^ 64) : mulOk a b = true := by
  unfold mulOk
  rw [Bool.or_eq_true, Bool.and_eq_true, decide_eq_true_eq, decide_eq_true_eq]
  exact .inr ⟨h1, h2⟩
theorem mulOk_l {a b : Int} (h1 : -(2 ^ 64) < a) (h2 : a < 2 ^ 64) : mulOk a b = true := by
  unfold mulOk
  rw [Bool.or_eq_true, Bool.or_eq_true, Bool.and_eq_true, decide_eq_true_eq, decide_eq_true_eq, decide_eq_true_eq]
  exact .inl (.inr ⟨h1, h2⟩)
/-! sizes -/
/-- small: below 2^m -/
def Bd (m : Nat) (q : Rat) : Prop := q.num.natAbs < 2 ^ m ∧ q.den < 2 ^ m
theorem Bd.mono {m n : Nat} {q : Rat} (h : Bd m q) (hl : m ≤ n) : Bd n q := ⟨Nat.lt_of_lt_of_le h.1 (Nat.pow_le_pow_right (by decide) hl), Nat.lt_of_lt_of_le h.2 (Nat.pow_le_pow_right (by decide) hl)⟩
theorem mk_bd {n : Int} {d m : Nat} (hd : 0 < d) (h1 : n.natAbs < 2 ^ m) (h2 : d < 2 ^ m) : Bd m (mkRat n d) := by
  obtain ⟨e1, e2⟩ := num_eq n d (by omega)
  refine ⟨?_, ?_⟩
  · rw [e1]
    refine Nat.lt_of_le_of_lt ?_ h1
    exact Int.natAbs_ediv_le_natAbs _ _
  · rw [e2]
    exact Nat.lt_of_le_of_lt (Nat.div_le_self _ _) h2
theorem pw {a b m n : Nat} (h1 : a < 2 ^ m) (h2 : b < 2 ^ n) : a * b < 2 ^ (m + n) := by
  rw [Nat.pow_add]
  exact Nat.mul_lt_mul'' h1 h2
theorem Bd.add {m n : Nat} {q r : Rat} (h1 : Bd m q) (h2 : Bd n r) : Bd (m + n + 1) (q + r) := by
  rw [Rat.add_def']
  refine mk_bd (Nat.mul_pos q.den_pos r.den_pos) ?_ (Nat.lt_of_lt_of_le (pw h1.2 h2.2) (Nat.pow_le_pow_right (by decide) (by omega)))
  refine Nat.lt_of_le_of_lt (Int.natAbs_add_le _ _) ?_
  rw [Int.natAbs_mul, Int.natAbs_mul, Int.natAbs_natCast, Int.natAbs_natCast, Nat.pow_succ]
  have a1 := pw h1.1 h2.2
  have a2 := pw h2.1 h1.2
  rw [Nat.add_comm n m] at a2
  omega
theorem Bd.neg {m : Nat} {q : Rat} (h : Bd m q) : Bd m (-q) := ⟨by rw [Rat.neg_num, Int.natAbs_neg]; exact h.1, by rw [Rat.neg_den]; exact h.2⟩
theorem Bd.sub {m n : Nat} {q r : Rat} (h1 : Bd m q) (h2 : Bd n r) : Bd (m + n + 1) (q - r) := by
  rw [Rat.sub_eq_add_neg]; exact h1.add h2.neg
theorem Bd.mul {m n : Nat} {q r : Rat} (h1 : Bd m q) (h2 : Bd n r) : Bd (m + n) (q * r) := by
  rw [Rat.mul_def']
  refine mk_bd (Nat.mul_pos q.den_pos r.den_pos) ?_ (pw h1.2 h2.2)
  rw [Int.natAbs_mul]; exact pw h1.1 h2.1
theorem Bd.inv {m : Nat} {q : Rat} (h : Bd m q) (hm : 1 ≤ m) : Bd m q⁻¹ := by
  refine ⟨?_, ?_⟩
  · rw [Rat.num_inv, Int.natAbs_mul, Int.natAbs_natCast]
    have : q.num.sign.natAbs ≤ 1 := by
      rcases Int.lt_trichotomy q.num 0 with z | z | z
      · rw [Int.sign_eq_neg_one_of_neg z]; decide
      · rw [z]; decide
      · rw [Int.sign_eq_one_of_pos z]; decide
    calc q.num.sign.natAbs * q.den ≤ 1 * q.den := Nat.mul_le_mul_right _ this
      _ < 2 ^ m := by rw [Nat.one_mul]; exact h.2
  · rw [Rat.den_inv]
    split
    · exact Nat.lt_of_lt_of_le (by decide : 1 < 2 ^ 1) (Nat.pow_le_pow_right (by decide) hm)
    · exact h.1
theorem Bd.div {m n : Nat} {q r : Rat} (h1 : Bd m q) (h2 : Bd n r) (hn : 1 ≤ n) : Bd (m + n) (q / r) := h1.mul (h2.inv hn)
theorem big {m : Nat} {a : Nat} (h : a < 2 ^ m) (hm : m ≤ 4000) : a < 2 ^ 4000 := Nat.lt_of_lt_of_le h (Nat.pow_le_pow_right (by decide) hm)
/-- an int that is small -/
def Sm (i : Int) : Prop := i.natAbs < 2 ^ 4000
theorem Bd.n {m : Nat} {q : Rat} (h : Bd m q) (hm : m ≤ 4000) : Sm q.num := big h.1 hm
theorem Bd.d {m : Nat} {q : Rat} (h : Bd m q) (hm : m ≤ 4000) : Sm (q.den : Int) := by unfold Sm; rw [Int.natAbs_natCast]; exact big h.2 hm
theorem mulOk_sm {a b : Int} (h1 : Sm a) (h2 : Sm b) : mulOk a b = true := mulOk_of h1 h2
theorem lt_iff' (q r : Rat) : decide (q.num * (r.den : Int) < r.num * (q.den : Int)) = decide (q < r) := decide_eq_decide.mpr (Rat.lt_iff q r).symm
theorem le_iff' (q r : Rat) : decide (q.num * (r.den : Int) ≤ r.num * (q.den : Int)) = decide (q ≤ r) := decide_eq_decide.mpr (Rat.le_iff q r).symm
theorem eq_iff' (q r : Rat) : (q.num * (r.den : Int) == r.num * (q.den : Int)) = decide (q = r) := by
  by_cases h : q = r
  · subst h; simp
  · rw [decide_eq_false h, beq_eq_false_iff_ne]
    exact fun z => h (Rat.eq_iff_mul_eq_mul.mpr z)
/-! Euclid -/
theorem euclid_half {a b : Nat} (ha : 0 < a % b) (hb : 0 < b) : 2 * (b % (a % b)) < b := by
  have h1 := Nat.mod_lt b ha
  have h2 := Nat.mod_lt a hb
  have h3 := Nat.div_add_mod b (a % b)
  have h4 : 1 ≤ b / (a % b) := (Nat.one_le_div_iff ha).mpr (by omega)
  have h5 : a % b ≤ (a % b) * (b / (a % b)) := Nat.le_mul_of_pos_right _ h4
  omega
section
variable {W : Wd} {G : Str → Option P} {N : Nat} {t : T} {b : List S} {s : Src} {M : Mem}
theorem gcd_lop (E : Nat → Nat → Env → Prop) (ok : s.ok M = true)
    (z : ∀ x a ρ, E a 0 ρ → ∃ ρ', ((t.put x ρ).bind fun ρ' => evSs W G N b ρ' M) = some (.bk ρ' M) ∧ E a 0 ρ')
    (st : ∀ x a c ρ, 0 < c → E a c ρ → ∃ ρ', ((t.put x ρ).bind fun ρ' => evSs W G N b ρ' M) = some (.nx ρ' M) ∧ E c (a % c) ρ') :
    ∀ (m : Nat) (xs : List P) (a c : Nat) (ρ : Env), 2 * m + 1 ≤ xs.length → c < 2 ^ m → E a c ρ → ∃ ρ', lop W G N t b s xs ρ M = some (.nx ρ' M) ∧ E (Nat.gcd a c) 0 ρ'
  | m, [], a, c, ρ, hl, _, _ => by simp at hl
  | m, x :: xs, a, 0, ρ, hl, hc, h => by
    obtain ⟨ρ', e, h'⟩ := z x a ρ h
    refine ⟨ρ', ?_, by rw [Nat.gcd_zero_right]; exact h'⟩
    rw [lop_cons, e]; rfl
  | 0, x :: xs, a, c + 1, ρ, hl, hc, h => by simp at hc
  | m + 1, [x], a, c + 1, ρ, hl, hc, h => by simp at hl
  | m + 1, x :: y :: xs, a, c + 1, ρ, hl, hc, h => by
    obtain ⟨ρ1, e1, h1⟩ := st x a (c + 1) ρ (by omega) h
    have g1 : Nat.gcd a (c + 1) = Nat.gcd (c + 1) (a % (c + 1)) := by rw [Nat.gcd_comm (c + 1), ← Nat.gcd_rec, Nat.gcd_comm]
    by_cases h0 : a % (c + 1) = 0
    · rw [h0] at h1
      obtain ⟨ρ2, e2, h2⟩ := z y (c + 1) ρ1 h1
      refine ⟨ρ2, ?_, by rw [g1, h0, Nat.gcd_zero_right]; exact h2⟩
      rw [lop_cons, e1]
      simp only [obs, ok, if_true]
      rw [lop_cons, e2]; rfl
    · obtain ⟨ρ2, e2, h2⟩ := st y (c + 1) (a % (c + 1)) ρ1 (by omega) h1
      have hh := euclid_half (a := a) (b := c + 1) (by omega) (by omega)
      obtain ⟨ρ3, e3, h3⟩ := gcd_lop E ok z st m xs (a % (c + 1)) ((c + 1) % (a % (c + 1))) ρ2 (by simp at hl; omega) (by rw [Nat.pow_succ] at hc; omega) h2
      refine ⟨ρ3, ?_, ?_⟩
      · rw [lop_cons, e1]
        simp only [obs, ok, if_true]
        rw [lop_cons, e2]
        simp only [obs, ok, if_true]
        exact e3
      · have g2 : Nat.gcd (c + 1) (a % (c + 1)) = Nat.gcd (a % (c + 1)) ((c + 1) % (a % (c + 1))) := by rw [Nat.gcd_comm (a % (c + 1)), ← Nat.gcd_rec, Nat.gcd_comm]
        rw [g1, g2]; exact h3
theorem gcd_wp {Q : Out → Prop} (E : Nat → Nat → Env → Prop) {m : Nat} {xs : List P} {a c : Nat} {ρ : Env} (hl : 2 * m + 1 ≤ xs.length) (hc : c < 2 ^ m) (h : E a c ρ) (ok : s.ok M = true)
    (z : ∀ x a ρ, E a 0 ρ → ∃ ρ', ((t.put x ρ).bind fun ρ' => evSs W G N b ρ' M) = some (.bk ρ' M) ∧ E a 0 ρ')
    (st : ∀ x a c ρ, 0 < c → E a c ρ → ∃ ρ', ((t.put x ρ).bind fun ρ' => evSs W G N b ρ' M) = some (.nx ρ' M) ∧ E c (a % c) ρ')
    (done : ∀ ρ', E (Nat.gcd a c) 0 ρ' → Q (.nx ρ' M)) : Wp (lop W G N t b s xs ρ M) Q := by
  obtain ⟨ρ', e, h'⟩ := gcd_lop E ok z st m xs a c ρ hl hc h
  exact ⟨_, e, done ρ' h'⟩
end
end IX
end

section
set_option linter.all false
set_option autoImplicit false
set_option maxRecDepth 10000
set_option exponentiation.threshold 100000
/-! Rows of fractions over a common bottom; sums and products. -/
namespace IX
open PySem
def AllB (m : Nat) (l : List Rat) : Prop := ∀ q ∈ l, Bd m q
theorem AllB.mono {m n : Nat} {l : List Rat} (h : AllB m l) (hl : m ≤ n) : AllB n l := fun q hq => (h q hq).mono hl
theorem szl : sizeLine = 16777216 := rfl
theorem s1 : (1 : Nat) ≤ sizeLine := by decide
theorem s2 : (2 : Nat) ≤ sizeLine := by decide
theorem s3 : (3 : Nat) ≤ sizeLine := by decide
theorem s4 : (4 : Nat) ≤ sizeLine := by decide
theorem s5 : (5 : Nat) ≤ sizeLine := by decide
theorem s6 : (6 : Nat) ≤ sizeLine := by decide
theorem len_ok {n : Nat} (h : n ≤ 4000) : n + 1 < sizeLine := by
  rw [szl]; omega
theorem len_le {n : Nat} (h : n ≤ 4000) : n ≤ sizeLine := by
  rw [szl]; omega
theorem den_ok {m : Nat} {q : Rat} (h : Bd m q) (hm : m ≤ 4000) : divOk (q.den : Int) = true := divOk_of q.den_pos (Nat.lt_of_lt_of_le (big h.2 hm) (Nat.pow_le_pow_right (by decide) (by omega)))
/-- the common bottom -/
def bot : List Rat → Nat → Nat
  | [], b => b
  | q :: r, b => bot r (if b % q.den = 0 then b else b / Nat.gcd b q.den * q.den)
theorem step_pos {b : Nat} {q : Rat} (h : 0 < b) : 0 < (if b % q.den = 0 then b else b / Nat.gcd b q.den * q.den) := by
  split
  · exact h
  · exact Nat.mul_pos (Nat.div_pos (Nat.gcd_le_left _ h) (Nat.gcd_pos_of_pos_left _ h)) q.den_pos
theorem step_dvd {b : Nat} {q : Rat} : b ∣ (if b % q.den = 0 then b else b / Nat.gcd b q.den * q.den) ∧ q.den ∣ (if b % q.den = 0 then b else b / Nat.gcd b q.den * q.den) := by
  split
  · rename_i h
    exact ⟨Nat.dvd_refl _, Nat.dvd_of_mod_eq_zero h⟩
  · have e : b / Nat.gcd b q.den * q.den = Nat.lcm b q.den := by
      unfold Nat.lcm
      rw [Nat.mul_comm b, Nat.mul_div_assoc _ (Nat.gcd_dvd_left _ _), Nat.mul_comm]
    rw [e]
    exact ⟨Nat.dvd_lcm_left _ _, Nat.dvd_lcm_right _ _⟩
theorem step_le {b : Nat} {q : Rat} : (if b % q.den = 0 then b else b / Nat.gcd b q.den * q.den) ≤ b * q.den := by
  split
  · exact Nat.le_mul_of_pos_right _ q.den_pos
  · exact Nat.mul_le_mul_right _ (Nat.div_le_self _ _)
theorem bot_pos : ∀ (l : List Rat) (b : Nat), 0 < b → 0 < bot l b
  | [], b, h => h
  | q :: r, b, h => bot_pos r _ (step_pos h)
theorem bot_dvd : ∀ (l : List Rat) (b : Nat), b ∣ bot l b
  | [], b => Nat.dvd_refl _
  | q :: r, b => Nat.dvd_trans step_dvd.1 (bot_dvd r _)
theorem bot_mem : ∀ (l : List Rat) (b : Nat), ∀ q ∈ l, q.den ∣ bot l b
  | [], b, q, h => by simp at h
  | p :: r, b, q, h => by
    rcases List.mem_cons.mp h with e | h
    · subst e; exact Nat.dvd_trans step_dvd.2 (bot_dvd r _)
    · exact bot_mem r _ q h
theorem bot_lt {a : Nat} : ∀ (l : List Rat) (b m : Nat), AllB a l → b < 2 ^ m → bot l b < 2 ^ (m + a * l.length)
  | [], b, m, _, h => by simpa [bot] using h
  | q :: r, b, m, hA, h => by
    have := bot_lt r _ (m + a) (fun x hx => hA x (List.mem_cons_of_mem _ hx)) (Nat.lt_of_le_of_lt (step_le (b := b) (q := q)) (pw h (hA q List.mem_cons_self).2))
    rw [List.length_cons, Nat.mul_succ]
    rw [show m + (a * r.length + a) = m + a + a * r.length from by omega]
    exact this
theorem bot4 {a : Nat} {l : List Rat} (hA : AllB a l) (h : 1 + a * l.length ≤ 4000) : bot l 1 < 2 ^ 4000 := big (bot_lt l 1 1 hA (by decide)) h
theorem bot_snoc : ∀ (l : List Rat) (b : Nat) (q : Rat), bot (l ++ [q]) b = (if bot l b % q.den = 0 then bot l b else bot l b / Nat.gcd (bot l b) q.den * q.den)
  | [], b, q => rfl
  | p :: r, b, q => bot_snoc r _ q
/-- a top over a bottom -/
def tp (B : Nat) (q : Rat) : Int := q.num * (B / q.den : Nat)
theorem nat_ne {n : Nat} (h : 0 < n) : (n : Rat) ≠ 0 := by
  intro z
  have z : ((n : Nat) : Rat) = ((0 : Nat) : Rat) := z
  have := Rat.natCast_inj.mp z
  omega
theorem tp_eq {B : Nat} {q : Rat} (h : q.den ∣ B) : ((tp B q : Int) : Rat) = q * (B : Rat) := by
  obtain ⟨c, rfl⟩ := h
  unfold tp
  rw [Nat.mul_div_cancel_left _ q.den_pos]
  have h1 := nat_ne q.den_pos
  have h2 : q * (q.den : Rat) = (q.num : Rat) := by
    have := Rat.mkRat_self q
    rw [Rat.mkRat_eq_div] at this
    rw [← this]
    grind
  have e : ((q.num * ((c : Nat) : Int) : Int) : Rat) = (q.num : Rat) * (c : Rat) := by rw [Rat.intCast_mul]; rfl
  rw [e, ← h2, Rat.natCast_mul]
  grind
theorem tp_lt {a B m : Nat} {q : Rat} (h : Bd a q) (hB : B < 2 ^ m) (hs : a + m ≤ 4000) : (tp B q).natAbs < 2 ^ 4000 := by
  unfold tp
  rw [Int.natAbs_mul, Int.natAbs_natCast]
  exact big (pw h.1 (Nat.lt_of_le_of_lt (Nat.div_le_self _ _) hB)) hs
theorem zipP_map {A C : Type} (f : A → P) (g : C → P) : ∀ (l : List A) (r : List C), zipP (l.map f) (r.map g) = (l.zip r).map fun q => .tup [f q.1, g q.2]
  | [], _ => by simp [zipP]
  | _ :: _, [] => by simp [zipP]
  | x :: l, y :: r => by simp [zipP, zipP_map f g l r]
theorem enumP_map {A : Type} (f : A → P) : ∀ (k : Nat) (l : List A), enumP k (l.map f) = (l.zipIdx k).map fun q => .tup [.int (q.2 : Int), f q.1]
  | _, [] => by simp [enumP]
  | k, x :: l => by simp [enumP, enumP_map f (k + 1) l, List.zipIdx_cons]
theorem intsP_map {A : Type} (f : A → Int) : ∀ l : List A, intsP (l.map fun x => .int (f x)) = some (l.map f)
  | [] => rfl
  | x :: l => by
    show (intsP (l.map fun x => .int (f x))).map (f x :: ·) = _
    rw [intsP_map f l]; rfl
/-- the sum, the dot -/
def dot (l r : List Rat) : Rat := ((l.zip r).map fun q => q.1 * q.2).sum
@[simp] theorem dot_cons (x y : Rat) (l r : List Rat) : dot (x :: l) (y :: r) = x * y + dot l r := by simp [dot]
@[simp] theorem dot_nil (r : List Rat) : dot [] r = 0 := by simp [dot]
@[simp] theorem dot_nil2 (r : List Rat) : dot r [] = 0 := by simp [dot]
def sumZ (B C : Nat) (l r : List Rat) : Int := ((l.zip r).map fun q => tp B q.1 * tp C q.2).sum
theorem sumZ_eq {B C : Nat} : ∀ (l r : List Rat), (∀ q ∈ l, q.den ∣ B) → (∀ q ∈ r, q.den ∣ C) → ((sumZ B C l r : Int) : Rat) = dot l r * ((B : Rat) * (C : Rat))
  | [], r, _, _ => by simp [sumZ, dot]
  | _ :: _, [], _, _ => by simp [sumZ, dot]
  | x :: l, y :: r, h1, h2 => by
    have ih := sumZ_eq l r (fun q h => h1 q (List.mem_cons_of_mem _ h)) (fun q h => h2 q (List.mem_cons_of_mem _ h))
    have e : sumZ B C (x :: l) (y :: r) = tp B x * tp C y + sumZ B C l r := by simp [sumZ]
    rw [e, dot_cons, Rat.intCast_add, Rat.intCast_mul, ih, tp_eq (h1 x List.mem_cons_self), tp_eq (h2 y List.mem_cons_self)]
    grind
theorem sumT_eq {B : Nat} : ∀ (l : List Rat), (∀ q ∈ l, q.den ∣ B) → (((l.map (tp B)).sum : Int) : Rat) = l.sum * (B : Rat)
  | [], _ => by simp
  | x :: l, h1 => by
    have ih := sumT_eq l (fun q h => h1 q (List.mem_cons_of_mem _ h))
    rw [List.map_cons, List.sum_cons, List.sum_cons, Rat.intCast_add, ih, tp_eq (h1 x List.mem_cons_self)]
    grind
theorem mk_of {S : Int} {n : Nat} {q : Rat} (hn : 0 < n) (h : (S : Rat) = q * (n : Rat)) : mkRat S n = q := by
  rw [Rat.mkRat_eq_div, h]
  have := nat_ne hn
  grind
theorem Bd.sum {m : Nat} : ∀ {l : List Rat}, AllB m l → Bd ((m + 1) * l.length + 1) l.sum
  | [], _ => ⟨by simp, by simp⟩
  | q :: l, h => by
    have h2 := Bd.sum fun x hx => h x (List.mem_cons_of_mem _ hx)
    have h1 := h q List.mem_cons_self
    rw [List.sum_cons, List.length_cons, Nat.mul_succ]
    exact (h1.add h2).mono (by omega)
theorem Bd.dot {m : Nat} {l r : List Rat} (h1 : AllB m l) (h2 : AllB m r) : Bd ((2 * m + 1) * l.length + 1) (IX.dot l r) := by
  unfold IX.dot
  have := Bd.sum (m := 2 * m) (l := (l.zip r).map fun q => q.1 * q.2) (by
    intro x hx
    obtain ⟨q, hq, rfl⟩ := List.mem_map.mp hx
    exact ((h1 _ (List.of_mem_zip (a := q.1) (b := q.2) hq).1).mul (h2 _ (List.of_mem_zip (a := q.1) (b := q.2) hq).2)).mono (by omega))
  refine this.mono ?_
  rw [List.length_map, List.length_zip]
  exact Nat.add_le_add_right (Nat.mul_le_mul_left _ (Nat.min_le_left _ _)) _
/-- what a loop over it walks -/
structure Seq (M : Mem) (d : D) (xs : List P) : Prop where
  it : items M d = some xs
  src : ∃ s, IX.src .seq [d] M = some s ∧ s.xs = xs ∧ s.ok M = true
  en : ∃ s, IX.src .enm [d] M = some s ∧ s.xs = enumP 0 xs ∧ s.ok M = true
theorem Seq.tup (M : Mem) (l : List P) : Seq M (.p (.tup l)) l := ⟨rfl, ⟨_, rfl, rfl, rfl⟩, ⟨_, rfl, rfl, rfl⟩⟩
theorem Seq.ref {M : Mem} {i : Nat} {l : List P} (h : M[i]? = some l) : Seq M (.p (.ref i)) l := by
  refine ⟨h, ⟨⟨l, [(i, l)], true⟩, ?_, rfl, ?_⟩, ⟨⟨enumP 0 l, [(i, l)], true⟩, ?_, rfl, ?_⟩⟩
  · rw [src_ref, h]; rfl
  · simp [h]
  · rw [src_enmR, h]; rfl
  · simp [h]
end IX
namespace IX
open PySem
/-! memories that change at one place -/
@[simp] theorem ix_ref {M : Mem} (i : Nat) (k : Int) : index (.p (.ref i)) (.p (.int k)) M = M[i]?.bind fun xs => atx xs k := by rfl
@[simp] theorem ix_tup {M : Mem} (l : List P) (k : Int) : index (.p (.tup l)) (.p (.int k)) M = atx l k := by rfl
theorem atx_nat {xs : List P} {i : Nat} {x : P} (hx : xs[i]? = some x) : atx xs (i : Int) = some x := at_nat (d := .p (.tup xs)) (M := []) rfl hx
def Chg (i : Nat) (M M' : Mem) : Prop := M'.length = M.length ∧ ∀ n, n ≠ i → M'[n]? = M[n]?
def Kp (i : Nat) (M M' : Mem) : Prop := M.length ≤ M'.length ∧ ∀ n, n < M.length → n ≠ i → M'[n]? = M[n]?
theorem Chg.kp {i : Nat} {M M' : Mem} (h : Chg i M M') : Kp i M M' := ⟨by rw [h.1]; exact Nat.le_refl _, fun n _ hn => h.2 n hn⟩
theorem Chg.refl (i : Nat) (M : Mem) : Chg i M M := ⟨rfl, fun _ _ => rfl⟩
theorem Chg.trans {i : Nat} {A B C : Mem} (h : Chg i A B) (h' : Chg i B C) : Chg i A C := ⟨h'.1.trans h.1, fun n hn => (h'.2 n hn).trans (h.2 n hn)⟩
theorem Chg.set (i : Nat) (M : Mem) (xs : List P) : Chg i M (M.set i xs) := ⟨by simp, fun n hn => List.getElem?_set_ne (Ne.symm hn)⟩
theorem Kp.refl (i : Nat) (M : Mem) : Kp i M M := ⟨Nat.le_refl _, fun _ _ _ => rfl⟩
theorem Kp.trans {i : Nat} {A B C : Mem} (h : Kp i A B) (h' : Kp i B C) : Kp i A C := ⟨Nat.le_trans h.1 h'.1, fun n hn hi => (h'.2 n (Nat.lt_of_lt_of_le hn h.1) hi).trans (h.2 n hn hi)⟩
theorem Kp.app (i : Nat) (M X : Mem) : Kp i M (M ++ X) := ⟨by simp, fun n hn _ => List.getElem?_append_left hn⟩
theorem Kp.set {i n : Nat} {A B : Mem} (h : Kp i A B) (hn : A.length ≤ n) (xs : List P) : Kp i A (B.set n xs) := ⟨by rw [List.length_set]; exact h.1, fun m hm hi => by rw [List.getElem?_set_ne (by omega)]; exact h.2 m hm hi⟩
theorem Kp.chg {i : Nat} {A B C : Mem} (h : Kp i A B) (h' : Chg i B C) : Kp i A C := h.trans h'.kp
theorem Chg.at {i n : Nat} {A B : Mem} {xs : List P} (h : Chg i A B) (hn : n ≠ i) (e : A[n]? = some xs) : B[n]? = some xs := by rw [h.2 n hn]; exact e
theorem Kp.at {i n : Nat} {A B : Mem} {xs : List P} (h : Kp i A B) (hn : n ≠ i) (e : A[n]? = some xs) : B[n]? = some xs := by rw [h.2 n (List.getElem?_eq_some_iff.mp e).1 hn]; exact e
theorem get_lt {M : Mem} {i : Nat} {xs : List P} (h : M[i]? = some xs) : i < M.length := (List.getElem?_eq_some_iff.mp h).1
theorem get_app {M X : Mem} {i : Nat} {xs : List P} (h : M[i]? = some xs) : (M ++ X)[i]? = some xs := by rw [List.getElem?_append_left (get_lt h)]; exact h
@[simp] theorem get_end (M : Mem) (xs : List P) : (M ++ [xs])[M.length]? = some xs := by simp
theorem get_ek (M X : Mem) (k : Nat) : (M ++ X)[M.length + k]? = X[k]? := by rw [List.getElem?_append_right (by omega)]; congr 1; omega
@[simp] theorem get_e0 (M X : Mem) (x : List P) : (M ++ x :: X)[M.length]? = some x := by have := get_ek M (x :: X) 0; simpa using this
@[simp] theorem get_e1 (M X : Mem) (x y : List P) : (M ++ x :: y :: X)[M.length + 1]? = some y := by have := get_ek M (x :: y :: X) 1; simpa using this
@[simp] theorem get_e2 (M X : Mem) (x y z : List P) : (M ++ x :: y :: z :: X)[M.length + 2]? = some z := by have := get_ek M (x :: y :: z :: X) 2; simpa using this
theorem items_app {M : Mem} {d : D} {xs : List P} (h : items M d = some xs) (X : Mem) : items (M ++ X) d = some xs := by
  cases d with
  | scr l => exact h
  | p x => cases x <;> first | exact h | exact get_app h
theorem perm_erase {A : Type} : ∀ (l : List A) (i : Nat) (y : A), l[i]? = some y → (y :: l.eraseIdx i).Perm l
  | [], i, y, e => by simp at e
  | a :: l, 0, y, e => by
    have q : a = y := by simpa using e
    subst q
    exact List.Perm.refl _
  | a :: l, i + 1, y, e => by
    have q := perm_erase l i y (by simpa using e)
    exact (List.Perm.swap a y _).trans (q.cons a)
theorem perm_map_inv {A B : Type} (f : A → B) : ∀ {ys zs : List B}, ys.Perm zs → ∀ l : List A, zs = l.map f → ∃ ps : List A, ps.Perm l ∧ ys = ps.map f := by
  intro ys zs h
  induction h with
  | nil => intro l e; cases l with
    | nil => exact ⟨[], List.Perm.refl _, rfl⟩
    | cons a l => simp at e
  | cons x h ih => intro l e; cases l with
    | nil => simp at e
    | cons a l =>
      simp at e
      obtain ⟨ps, p, e2⟩ := ih l e.2
      exact ⟨a :: ps, p.cons a, by simp [e.1, e2]⟩
  | swap x y l' => intro l e
                   match l, e with
                   | [], e => simp at e
                   | [a], e => simp at e
                   | a :: b :: l, e =>
                     simp at e
                     exact ⟨b :: a :: l, List.Perm.swap a b l, by simp [e.1, e.2.1, e.2.2]⟩
  | trans h1 h2 ih1 ih2 =>
    intro l e
    obtain ⟨ps, p, e2⟩ := ih2 l e
    obtain ⟨qs, p2, e3⟩ := ih1 ps e2
    exact ⟨qs, p2.trans p, e3⟩
theorem perm_sumN {l r : List Nat} (h : l.Perm r) : l.sum = r.sum := by
  induction h with
  | nil => rfl
  | cons x _ ih => simp [ih]
  | swap x y l => simp; omega
  | trans _ _ a b => exact a.trans b
theorem sum_parts (w : Nat) (hw : 0 < w) : ∀ ps : List Nat, (ps.map fun (p : Nat) => mkRat (p : Int) w).sum = mkRat ((ps.sum : Nat) : Int) w
  | [] => by simp
  | p :: ps => by
    rw [List.map_cons, List.sum_cons, sum_parts w hw ps, List.sum_cons, Rat.mkRat_eq_div, Rat.mkRat_eq_div, Rat.mkRat_eq_div]
    have : (((p + ps.sum : Nat) : Int) : Rat) = ((p : Int) : Rat) + ((ps.sum : Int) : Rat) := by rw [Int.natCast_add, Rat.intCast_add]
    rw [this]
    grind
theorem mkRat_self' (w : Nat) (hw : 0 < w) : mkRat (w : Int) w = 1 := by
  rw [Rat.mkRat_eq_div]
  have := nat_ne hw
  have e : ((w : Int) : Rat) = (w : Rat) := rfl
  rw [e]; grind
theorem mkRat_nonneg {n : Nat} (w : Nat) : 0 ≤ mkRat (n : Int) w := by
  rw [← Rat.divInt_ofNat]
  exact Rat.divInt_nonneg (by omega) (by omega)
theorem back_new {M M' : Mem} {n : Nat} (h : M.length ≤ n) : back M (.p (.ref n)) M' = (.p (.ref n), M') := by
  unfold back
  rw [if_neg]
  have : (D.p (.ref n)).und M.length = false := by
    show P.und M.length (.ref n) = false
    simp [P.und]; omega
  rw [this]; simp
theorem le_sumN {p : Nat} : ∀ {l : List Nat}, p ∈ l → p ≤ l.sum
  | [], h => by simp at h
  | a :: l, h => by
    rw [List.sum_cons]
    rcases List.mem_cons.mp h with rfl | h
    · omega
    · have := le_sumN h; omega
theorem lt9000 {n : Nat} (h : n ≤ 4000) : n < 2 ^ 9000 := Nat.lt_of_le_of_lt h (Nat.lt_of_lt_of_le (by decide : 4000 < 2 ^ 12) (Nat.pow_le_pow_right (by decide) (by decide)))
theorem get_set {M : Mem} {i : Nat} {xs ys : List P} (h : M[i]? = some xs) : (M.set i ys)[i]? = some ys := List.getElem?_set_self (get_lt h)
theorem get_set_ne {M : Mem} {i n : Nat} {xs ys : List P} (h : M[i]? = some xs) (hn : n ≠ i) : (M.set n ys)[i]? = some xs := by rw [List.getElem?_set_ne hn]; exact h
/-- behind a call that changes one list -/
theorem back_kp {i : Nat} {M M' : Mem} {d : D} {xs : List P} (hd : d.und M.length = true) (k : Kp i M M') (hi : M'[i]? = some xs) (hx : xs.all (P.und M.length) = true) : back M d M' = (d, M'.take M.length) := by
  unfold back
  rw [if_pos]
  rw [hd, Bool.true_and, List.all_eq_true]
  intro n hn
  rw [List.mem_range] at hn
  rw [Bool.or_eq_true]
  by_cases e : n = i
  · subst e
    right
    rw [hi]; exact hx
  · exact .inl (decide_eq_true (k.2 n hn e))
theorem take_chg {i : Nat} {M M' : Mem} (k : Kp i M M') : Chg i M (M'.take M.length) := by
  refine ⟨by rw [List.length_take]; have := k.1; omega, fun n hn => ?_⟩
  rw [List.getElem?_take]
  split
  · rename_i h; exact k.2 n h hn
  · rename_i h; rw [List.getElem?_eq_none (by omega)]
end IX
namespace IX
open PySem
@[simp] theorem atx0 (a : P) (l : List P) : atx (a :: l) 0 = some a := by
  have := atx_nat (xs := a :: l) (i := 0) (x := a) rfl
  exact this
@[simp] theorem atx1 (a b : P) (l : List P) : atx (a :: b :: l) 1 = some b := by
  have := atx_nat (xs := a :: b :: l) (i := 1) (x := b) rfl
  exact this
@[simp] theorem atx2 (a b c : P) (l : List P) : atx (a :: b :: c :: l) 2 = some c := by
  have := atx_nat (xs := a :: b :: c :: l) (i := 2) (x := c) rfl
  exact this
@[simp] theorem atx3 (a b c d : P) (l : List P) : atx (a :: b :: c :: d :: l) 3 = some d := by
  have := atx_nat (xs := a :: b :: c :: d :: l) (i := 3) (x := d) rfl
  exact this
@[simp] theorem atx4 (a b c d e : P) (l : List P) : atx (a :: b :: c :: d :: e :: l) 4 = some e := by
  have := atx_nat (xs := a :: b :: c :: d :: e :: l) (i := 4) (x := e) rfl
  exact this
@[simp] theorem atx5 (a b c d e f : P) (l : List P) : atx (a :: b :: c :: d :: e :: f :: l) 5 = some f := by
  have := atx_nat (xs := a :: b :: c :: d :: e :: f :: l) (i := 5) (x := f) rfl
  exact this
theorem atx_last {xs : List P} {x : P} : atx (xs ++ [x]) (-1) = some x := by
  have : pix (xs ++ [x]).length (-1) = some xs.length := by
    unfold pix
    rw [if_neg (by decide), if_pos (by simp; omega)]
    simp; omega
  show (pix (xs ++ [x]).length (-1)).bind _ = _
  rw [this]; simp
theorem atx_neg1 {xs : List P} (h : xs ≠ []) : atx xs (-1) = xs.getLast? := by
  obtain ⟨ys, y, rfl⟩ : ∃ ys y, xs = ys ++ [y] := ⟨xs.dropLast, xs.getLast h, (List.dropLast_concat_getLast h).symm⟩
  rw [atx_last]; simp
theorem seti_nat {xs : List P} {i : Nat} {x : P} (h : i < xs.length) : seti xs (i : Int) x = some (xs.set i x) := by
  unfold seti pix
  rw [if_pos (by omega), if_pos (by omega)]; simp
@[simp] theorem seti0 (a v : P) (l : List P) : seti (a :: l) 0 v = some (v :: l) := seti_nat (i := 0) (by simp)
@[simp] theorem seti1 (a b v : P) (l : List P) : seti (a :: b :: l) 1 v = some (a :: v :: l) := seti_nat (i := 1) (by simp)
@[simp] theorem seti2 (a b c v : P) (l : List P) : seti (a :: b :: c :: l) 2 v = some (a :: b :: v :: l) := seti_nat (i := 2) (by simp)
@[simp] theorem seti3 (a b c d v : P) (l : List P) : seti (a :: b :: c :: d :: l) 3 v = some (a :: b :: c :: v :: l) := seti_nat (i := 3) (by simp)
@[simp] theorem seti4 (a b c d e v : P) (l : List P) : seti (a :: b :: c :: d :: e :: l) 4 v = some (a :: b :: c :: d :: v :: l) := seti_nat (i := 4) (by simp)
@[simp] theorem seti5 (a b c d e f v : P) (l : List P) : seti (a :: b :: c :: d :: e :: f :: l) 5 v = some (a :: b :: c :: d :: e :: v :: l) := seti_nat (i := 5) (by simp)
theorem popi_nat {M : Mem} {xs : List P} {i : Nat} {x : P} (h : xs[i]? = some x) (hb : i < 2 ^ 63) : mtf .popi M xs [.p (.int (i : Int))] = some (x, xs.eraseIdx i) := by
  have hi := (List.getElem?_eq_some_iff.mp h).1
  rw [mt_popi', if_pos (by simp; omega)]
  have : pix xs.length (i : Int) = some i := by
    unfold pix
    rw [if_pos (by omega), if_pos (by omega)]; simp
  rw [this]
  simp [-getElem?_pos, h]
end IX
namespace IX
open PySem
/-! rows by place -/
def gf (l : List Rat) (a : Nat) : Rat := l.getD a 0
theorem gf_get {l : List Rat} {a : Nat} (h : a < l.length) : l[a]? = some (gf l a) := by simp [gf, List.getD_eq_getElem?_getD, h]
theorem gf_mem {l : List Rat} {a : Nat} (h : a < l.length) : gf l a ∈ l := List.mem_of_getElem? (gf_get h)
theorem mem_gf {l : List Rat} {q : Rat} (h : q ∈ l) : ∃ a, a < l.length ∧ gf l a = q := by
  obtain ⟨a, ha, e⟩ := List.mem_iff_getElem.mp h
  refine ⟨a, ha, ?_⟩
  have := gf_get ha
  rw [List.getElem?_eq_getElem ha, e] at this
  exact (Option.some.inj this).symm
theorem ix_gf {M : Mem} {d : D} {l : List Rat} {a : Nat} (h : items M d = some (l.map fr)) (ha : a < l.length) : index d (.p (.int (a : Int))) M = some (fr (gf l a)) := at_nat h (by rw [List.getElem?_map, gf_get ha]; rfl)
theorem atx_gf {l : List Rat} {a : Nat} (ha : a < l.length) : atx (l.map fr) (a : Int) = some (fr (gf l a)) := atx_nat (by rw [List.getElem?_map, gf_get ha]; rfl)
theorem map_gf (l : List Rat) : l = (List.range l.length).map (gf l) := by
  apply List.ext_getElem (by simp)
  intro i h1 h2
  have := gf_get h1
  rw [List.getElem?_eq_getElem h1] at this
  simp at this ⊢; exact this
theorem enum_gf (l : List Rat) : enumP 0 (l.map fr) = (List.range l.length).map fun a => .tup [.int (a : Int), fr (gf l a)] := by
  rw [enumP_map]
  apply List.ext_getElem (by simp)
  intro i h1 h2
  simp at h1
  have := gf_get h1
  rw [List.getElem?_eq_getElem h1] at this
  simp at this ⊢; rw [this]
theorem range_at {n a : Nat} {pre r : List Nat} (h : List.range n = pre ++ a :: r) : a = pre.length ∧ pre.length < n := by
  have h1 := congrArg List.length h
  simp at h1
  have h2 := congrArg (fun l => l[pre.length]?) h
  simp at h2
  rw [List.getElem?_range (by omega)] at h2
  exact ⟨by simpa using h2.symm, by omega⟩
/-- the least of a row -/
def fmin (q : Rat) (l : List Rat) : Rat := l.foldl (fun b x => if x < b then x else b) q
def fmax (q : Rat) (l : List Rat) : Rat := l.foldl (fun b x => if b < x then x else b) q
theorem fmin_le : ∀ (l : List Rat) (q : Rat), fmin q l ≤ q ∧ (∀ x ∈ l, fmin q l ≤ x) ∧ (fmin q l = q ∨ fmin q l ∈ l)
  | [], q => ⟨Rat.le_refl, by simp, .inl rfl⟩
  | y :: l, q => by
    have h := fmin_le l (if y < q then y else q)
    have e : fmin q (y :: l) = fmin (if y < q then y else q) l := rfl
    rw [e]
    refine ⟨?_, ?_, ?_⟩
    · have := h.1; split at this <;> grind
    · intro x hx
      rcases List.mem_cons.mp hx with rfl | hx
      · have := h.1; split at this <;> grind
      · exact h.2.1 x hx
    · rcases h.2.2 with z | z
      · rw [z]; split <;> simp
      · exact .inr (List.mem_cons_of_mem _ z)
theorem fmax_ge : ∀ (l : List Rat) (q : Rat), q ≤ fmax q l ∧ (∀ x ∈ l, x ≤ fmax q l) ∧ (fmax q l = q ∨ fmax q l ∈ l)
  | [], q => ⟨Rat.le_refl, by simp, .inl rfl⟩
  | y :: l, q => by
    have h := fmax_ge l (if q < y then y else q)
    have e : fmax q (y :: l) = fmax (if q < y then y else q) l := rfl
    rw [e]
    refine ⟨?_, ?_, ?_⟩
    · have := h.1; split at this <;> grind
    · intro x hx
      rcases List.mem_cons.mp hx with rfl | hx
      · have := h.1; split at this <;> grind
      · exact h.2.1 x hx
    · rcases h.2.2 with z | z
      · rw [z]; split <;> simp
      · exact .inr (List.mem_cons_of_mem _ z)
theorem fmin_gf (l : List Rat) (q : Rat) : (∀ a, a < (q :: l).length → fmin q l ≤ gf (q :: l) a) ∧ ∃ a, a < (q :: l).length ∧ gf (q :: l) a = fmin q l := by
  obtain ⟨h1, h2, h3⟩ := fmin_le l q
  refine ⟨fun a ha => ?_, ?_⟩
  · rcases List.mem_cons.mp (gf_mem ha) with e | e
    · rw [e]; exact h1
    · exact h2 _ e
  · refine mem_gf ?_
    rcases h3 with e | e
    · rw [e]; exact List.mem_cons_self
    · exact List.mem_cons_of_mem _ e
theorem ceq_nil {l : List P} {M : Mem} (h : P.fits 63 l = true) : cmpop .eq (.p (.tup l)) (.p (.tup [])) M = some l.isEmpty := by
  have e : cmpop .eq (.p (.tup l)) (.p (.tup [])) M = if (P.tup l).fit 64 && (P.tup []).fit 64 then some ((P.tup l).eqv (.tup [])) else none := by rfl
  have f1 : (P.tup l).fit 64 = true := by rw [P.fit]; exact h
  have f2 : (P.tup []).fit 64 = true := by decide
  rw [e, f1, f2]
  cases l with
  | nil => rfl
  | cons a l => simp [P.eqv, P.toD, P.toDs, PyData.eqv, PyData.eqvAll]
end IX
namespace IX
theorem bd1 : Bd 4 1 := ⟨by decide, by decide⟩
theorem bdz : Bd 4 0 := ⟨by decide, by decide⟩
end IX
namespace IX
open PySem
/-! lists of fractions: in, remove -/
theorem any_fr (x : Rat) : ∀ S : List Rat, ((S.map fr).any fun y => y.eqv (fr x)) = decide (x ∈ S)
  | [] => by simp
  | y :: S => by
    rw [List.map_cons, List.any_cons, eqv_fr, any_fr x S]
    by_cases h1 : x = y
    · subst h1; simp
    · by_cases h2 : x ∈ S <;> simp [h1, h2, Ne.symm h1]
theorem notin_fr (S : List Rat) (x : Rat) (M : Mem) (n : Nat) (h : M[n]? = some (S.map fr)) : cmpop .notin (.p (fr x)) (.p (.ref n)) M = some (!decide (x ∈ S)) := by
  have e : cmpop .notin (.p (fr x)) (.p (.ref n)) M = (items M (.p (.ref n))).bind fun xs => if flat (fr x) && xs.all flat || isLst (.p (.ref n)) && ((fr x).fit 63 && P.fits 63 xs) then some (!xs.any fun y => y.eqv (fr x)) else none := by rfl
  rw [e, it_l', h, obs, fit_fr, fits_frs, any_fr]
  simp [isLst]
theorem find_fr : ∀ (S : List Rat) (x : Rat), x ∈ S → ∃ j, ((S.map fr).findIdx? fun y => y.eqv (fr x)) = some j ∧ S[j]? = some x
  | [], x, h => by simp at h
  | y :: S, x, h => by
    by_cases e : y = x
    · exact ⟨0, by rw [List.map_cons, List.findIdx?_cons, eqv_fr, decide_eq_true e]; rfl, by simp [e]⟩
    · have hx : x ∈ S := by
        rcases List.mem_cons.mp h with z | z
        · exact absurd z.symm e
        · exact z
      obtain ⟨j, h1, h2⟩ := find_fr S x hx
      exact ⟨j + 1, by rw [List.map_cons, List.findIdx?_cons, eqv_fr, decide_eq_false e, h1]; rfl, by simpa using h2⟩
theorem erase_map {A B : Type} (f : A → B) : ∀ (l : List A) (j : Nat), (l.map f).eraseIdx j = (l.eraseIdx j).map f
  | [], j => by simp
  | a :: r, 0 => by simp
  | a :: r, j + 1 => by simp [erase_map f r j]
theorem remove_fr {S : List Rat} {x : Rat} (M : Mem) (h : x ∈ S) : ∃ j, S[j]? = some x ∧ mtf .remove M (S.map fr) [.p (fr x)] = some (.non, (S.eraseIdx j).map fr) := by
  obtain ⟨j, h1, h2⟩ := find_fr S x h
  refine ⟨j, h2, ?_⟩
  have e : mtf .remove M (S.map fr) [.p (fr x)] = if (fr x).fit 63 && P.fits 63 (S.map fr) then ((S.map fr).findIdx? fun y => y.eqv (fr x)).map fun j => (.non, (S.map fr).eraseIdx j) else none := by rfl
  rw [e, fit_fr, fits_frs, h1]
  show some (P.non, (S.map fr).eraseIdx j) = _
  rw [erase_map]
end IX
namespace IX
open PySem
@[simp] theorem b_mulT {M : Mem} (a : List P) (k : Int) : binop .mul (.p (.tup a)) (.p (.int k)) M = if (decide (-(2 ^ 63) ≤ k) && decide (k ≤ 1000) && decide (a.length ≤ 1000)) = true then some (.p (.tup (List.replicate k.toNat a).flatten), M) else none := by rfl
@[simp] theorem b_mulL {M : Mem} (i : Nat) (k : Int) : binop .mul (.p (.ref i)) (.p (.int k)) M = (M[i]?).bind fun a => if (decide (a.length * k.toNat ≤ sizeLine) && decide (-(2 ^ 63) ≤ k) && decide (k < 2 ^ 63)) = true then newl (List.replicate k.toNat a).flatten M else none := by
  show ((M[i]?).bind fun a => if (decide (a.length * k.toNat ≤ sizeLine) && decide (-(2 ^ 63) ≤ k) && decide (k < 2 ^ 63)) = true then newl (List.replicate k.toNat a).flatten M else none) = _
  rfl
theorem rep_one (x : P) (n : Nat) : (List.replicate n [x]).flatten = List.replicate n x := by
  induction n with
  | zero => rfl
  | succ n ih => rw [List.replicate_succ, List.flatten_cons, ih, List.replicate_succ]; rfl
theorem dot_nonneg : ∀ {l r : List Rat}, (∀ q ∈ l, 0 ≤ q) → (∀ q ∈ r, 0 ≤ q) → 0 ≤ dot l r
  | [], r, _, _ => by simp [Rat.le_refl]
  | _ :: _, [], _, _ => by simp [Rat.le_refl]
  | x :: l, y :: r, h1, h2 => by
    rw [dot_cons]
    exact Rat.add_nonneg (Rat.mul_nonneg (h1 x List.mem_cons_self) (h2 y List.mem_cons_self)) (dot_nonneg (fun q h => h1 q (List.mem_cons_of_mem _ h)) fun q h => h2 q (List.mem_cons_of_mem _ h))
theorem dot_zero : ∀ (l : List Rat) (n : Nat), dot l (List.replicate n 0) = 0
  | [], n => by simp
  | _ :: _, 0 => by simp
  | x :: l, n + 1 => by rw [List.replicate_succ, dot_cons, dot_zero l n]; grind
end IX
namespace IX
open PySem
theorem cne_row (l m : List Rat) (M : Mem) : cmpop .ne (.p (row l)) (.p (row m)) M = some (!decide (l = m)) := by
  have h : cmpop .ne (.p (row l)) (.p (row m)) M = (if (row l).fit 64 && (row m).fit 64 then some ((row l).eqv (row m)) else none).map (!·) := by rfl
  rw [h, fit_row, fit_row, eqv_row]; rfl
theorem ceq_row (l m : List Rat) (M : Mem) : cmpop .eq (.p (row l)) (.p (row m)) M = some (decide (l = m)) := by
  have h : cmpop .eq (.p (row l)) (.p (row m)) M = (if (row l).fit 64 && (row m).fit 64 then some ((row l).eqv (row m)) else none) := by rfl
  rw [h, fit_row, fit_row, eqv_row]; rfl
theorem cne_nil {l : List P} {M : Mem} (h : P.fits 63 l = true) : cmpop .ne (.p (.tup l)) (.p (.tup [])) M = some (!l.isEmpty) := by
  have e : cmpop .ne (.p (.tup l)) (.p (.tup [])) M = (cmpop .eq (.p (.tup l)) (.p (.tup [])) M).map (!·) := by rfl
  rw [e, ceq_nil h]; rfl
theorem num_neg {q : Rat} : (q.num < 0) = (q < 0) := by
  apply propext
  have := Rat.lt_iff q 0
  simp at this
  exact this.symm
theorem num_pos {q : Rat} : (0 < q.num) = (0 < q) := by
  apply propext
  have := Rat.lt_iff 0 q
  simp at this
  exact this.symm
theorem num_nn {q : Rat} : (0 ≤ q.num) = (0 ≤ q) := propext Rat.num_nonneg
theorem num_np {q : Rat} : (q.num ≤ 0) = (q ≤ 0) := by
  apply propext
  have := Rat.le_iff q 0
  simp at this
  exact this.symm
theorem num_le_den {q : Rat} : (q.num ≤ (q.den : Int)) = (q ≤ 1) := by
  apply propext
  have := Rat.le_iff q 1
  simp at this
  exact this.symm
theorem num_z {q : Rat} : (q.num = 0) = (q = 0) := propext Rat.num_eq_zero
theorem bd4 {q : Rat} (h : (decide (q.num.natAbs < 2 ^ 4) && decide (q.den < 2 ^ 4)) = true) : Bd 4 q := by
  rw [Bool.and_eq_true, decide_eq_true_eq, decide_eq_true_eq] at h
  exact h
end IX
end

section
set_option linter.all false
namespace K30
open PySem IX
abbrev n_common : Nat := 0
abbrev n_ratio : Nat := 1
abbrev n_is_number : Nat := 2
abbrev n_is_fraction : Nat := 3
abbrev n_is_fractions : Nat := 4
abbrev n_is_chances : Nat := 5
abbrev n_plus : Nat := 6
abbrev n_minus : Nat := 7
abbrev n_times : Nat := 8
abbrev n_less : Nat := 9
abbrev n_atmost : Nat := 10
abbrev n_alike : Nat := 11
abbrev n_greatest_of : Nat := 12
abbrev n_bottom_of : Nat := 13
abbrev n_tops_over : Nat := 14
abbrev n_wholes : Nat := 15
abbrev n_raw_dot : Nat := 16
abbrev n_dot : Nat := 17
abbrev n_row_minus : Nat := 18
abbrev n_zeros : Nat := 19
abbrev n_unit : Nat := 20
abbrev n_net_bound : Nat := 21
abbrev n_corners : Nat := 22
abbrev n_least_corner : Nat := 23
abbrev n_corner_chances : Nat := 24
abbrev n_slope_at : Nat := 25
abbrev n_guarantee : Nat := 26
abbrev n_judge_guarantee : Nat := 27
abbrev n__law_flow : Nat := 28
abbrev n__law_draw : Nat := 29
abbrev n__law_pick : Nat := 30
abbrev n__law_shuffled : Nat := 31
abbrev n__law_frac : Nat := 32
abbrev n__law_plus : Nat := 33
abbrev n__law_minus : Nat := 34
abbrev n__law_times : Nat := 35
abbrev n__law_less : Nat := 36
abbrev n__law_greatest : Nat := 37
abbrev n__law_row : Nat := 38
abbrev n__law_total : Nat := 39
abbrev n__law_is_whole : Nat := 40
abbrev n__law_is_fraction : Nat := 41
abbrev n__law_are_rows : Nat := 42
abbrev n__law_is_table : Nat := 43
abbrev n__law_mean : Nat := 44
abbrev n__law_numbers : Nat := 45
abbrev n__law_chances : Nat := 46
abbrev n__law_work : Nat := 47
abbrev n__law_bar : Nat := 48
abbrev n__law_is_guarantee : Nat := 49
abbrev n__law_pays : Nat := 50
abbrev n__law_changed : Nat := 51
abbrev n_law : Nat := 52
def F_common : Fn := ⟨2, 2,
  [.par [0, 1] [(.bi .abs [(.v 0)]), (.bi .abs [(.v 1)])],
   .whl (.tru (.v 1))
      [.par [0, 1] [(.v 1), (.bin .mod (.v 0) (.v 1))]],
   .ret (.v 0)]⟩
def N_common : List Str := ["one", "other"]
def F_ratio : Fn := ⟨2, 3,
  [.set (.nm 2) (.call n_common [(.v 0), (.v 1)] [0, 1]),
   .ife (.cmp .lt (.v 1) (.c (.int 0)))
      [.set (.nm 2) (.neg (.v 2))]
      [],
   .ret (.tup [(.bin .fdiv (.v 0) (.v 2)), (.bin .fdiv (.v 1) (.v 2))])]⟩
def N_ratio : List Str := ["top", "bottom", "shared"]
def F_is_number : Fn := ⟨1, 1,
  [.ret (.and [(.bi .isint [(.v 0)]), (.not (.bi .isbool [(.v 0)]))])]⟩
def N_is_number : List Str := ["value"]
def F_is_fraction : Fn := ⟨1, 1,
  [.ife (.or [(.not (.tru (.bi .istup [(.v 0)]))), (.cmp .ne (.bi .len [(.v 0)]) (.c (.int 2)))])
      [.ret (.c (.bl false))]
      [],
   .ife (.or [(.not (.tru (.call n_is_number [(.idx (.v 0) (.c (.int 0)))] [0]))), (.not (.tru (.call n_is_number [(.idx (.v 0) (.c (.int 1)))] [0])))])
      [.ret (.c (.bl false))]
      [],
   .ret (.and [(.cmp .ge (.idx (.v 0) (.c (.int 1))) (.c (.int 1))), (.cmp .eq (.call n_common [(.idx (.v 0) (.c (.int 0))), (.idx (.v 0) (.c (.int 1)))] [0, 1]) (.c (.int 1)))])]⟩
def N_is_fraction : List Str := ["value"]
def F_is_fractions : Fn := ⟨3, 4,
  [.ife (.or [(.not (.tru (.bi .istup [(.v 0)]))), (.not (.cmp2 .le .le (.v 1) (.bi .len [(.v 0)]) (.v 2)))])
      [.ret (.c (.bl false))]
      [],
   .ret (.gen .all [3] (.call n_is_fraction [(.v 3)] [0]) (.nm 3) .seq [(.v 0)] [])]⟩
def N_is_fractions : List Str := ["value", "low", "high", "part"]
def F_is_chances : Fn := ⟨3, 6,
  [.ife (.not (.tru (.call n_is_fractions [(.v 0), (.v 1), (.v 2)] [0, 1, 2])))
      [.ret (.c (.bl false))]
      [],
   .ife (.tru (.gen .any [3] (.or [(.cmp .lt (.idx (.v 3) (.c (.int 0))) (.c (.int 0))), (.cmp .gt (.idx (.v 3) (.c (.int 0))) (.idx (.v 3) (.c (.int 1))))]) (.nm 3) .seq [(.v 0)] []))
      [.ret (.c (.bl false))]
      [],
   .set (.tp [(.nm 4), (.nm 5)]) (.call n_wholes [(.v 0)] [0]),
   .ret (.cmp .eq (.bi .sum [(.v 4)]) (.v 5))]⟩
def N_is_chances : List Str := ["value", "low", "high", "part", "tops", "bottom"]
def F_plus : Fn := ⟨2, 2,
  [.ret (.call n_ratio [(.bin .add (.bin .mul (.idx (.v 0) (.c (.int 0))) (.idx (.v 1) (.c (.int 1)))) (.bin .mul (.idx (.v 1) (.c (.int 0))) (.idx (.v 0) (.c (.int 1))))), (.bin .mul (.idx (.v 0) (.c (.int 1))) (.idx (.v 1) (.c (.int 1))))] [0, 1])]⟩
def N_plus : List Str := ["one", "other"]
def F_minus : Fn := ⟨2, 2,
  [.ret (.call n_ratio [(.bin .sub (.bin .mul (.idx (.v 0) (.c (.int 0))) (.idx (.v 1) (.c (.int 1)))) (.bin .mul (.idx (.v 1) (.c (.int 0))) (.idx (.v 0) (.c (.int 1))))), (.bin .mul (.idx (.v 0) (.c (.int 1))) (.idx (.v 1) (.c (.int 1))))] [0, 1])]⟩
def N_minus : List Str := ["one", "other"]
def F_times : Fn := ⟨2, 2,
  [.ret (.call n_ratio [(.bin .mul (.idx (.v 0) (.c (.int 0))) (.idx (.v 1) (.c (.int 0)))), (.bin .mul (.idx (.v 0) (.c (.int 1))) (.idx (.v 1) (.c (.int 1))))] [0, 1])]⟩
def N_times : List Str := ["one", "other"]
def F_less : Fn := ⟨2, 2,
  [.ret (.cmp .lt (.bin .mul (.idx (.v 0) (.c (.int 0))) (.idx (.v 1) (.c (.int 1)))) (.bin .mul (.idx (.v 1) (.c (.int 0))) (.idx (.v 0) (.c (.int 1)))))]⟩
def N_less : List Str := ["one", "other"]
def F_atmost : Fn := ⟨2, 2,
  [.ret (.cmp .le (.bin .mul (.idx (.v 0) (.c (.int 0))) (.idx (.v 1) (.c (.int 1)))) (.bin .mul (.idx (.v 1) (.c (.int 0))) (.idx (.v 0) (.c (.int 1)))))]⟩
def N_atmost : List Str := ["one", "other"]
def F_alike : Fn := ⟨2, 2,
  [.ret (.cmp .eq (.bin .mul (.idx (.v 0) (.c (.int 0))) (.idx (.v 1) (.c (.int 1)))) (.bin .mul (.idx (.v 1) (.c (.int 0))) (.idx (.v 0) (.c (.int 1)))))]⟩
def N_alike : List Str := ["one", "other"]
def F_greatest_of : Fn := ⟨1, 3,
  [.set (.nm 1) (.idx (.v 0) (.c (.int 0))),
   .loop (.nm 2) .seq [(.v 0)]
      [.ife (.tru (.call n_less [(.v 1), (.v 2)] [0, 1]))
          [.set (.nm 1) (.v 2)]
          []],
   .ret (.v 1)]⟩
def N_greatest_of : List Str := ["row", "best", "part"]
def F_bottom_of : Fn := ⟨1, 3,
  [.set (.nm 1) (.c (.int 1)),
   .loop (.nm 2) .seq [(.v 0)]
      [.ife (.tru (.bin .mod (.v 1) (.idx (.v 2) (.c (.int 1)))))
          [.set (.nm 1) (.bin .mul (.bin .fdiv (.v 1) (.call n_common [(.v 1), (.idx (.v 2) (.c (.int 1)))] [0, 1])) (.idx (.v 2) (.c (.int 1))))]
          []],
   .ret (.v 1)]⟩
def N_bottom_of : List Str := ["row", "bottom", "part"]
def F_tops_over : Fn := ⟨2, 3,
  [.ret (.gen .tuple [2] (.bin .mul (.idx (.v 2) (.c (.int 0))) (.bin .fdiv (.v 1) (.idx (.v 2) (.c (.int 1))))) (.nm 2) .seq [(.v 0)] [])]⟩
def N_tops_over : List Str := ["row", "bottom", "part"]
def F_wholes : Fn := ⟨1, 2,
  [.set (.nm 1) (.call n_bottom_of [(.v 0)] [0]),
   .ret (.tup [(.call n_tops_over [(.v 0), (.v 1)] [0, 1]), (.v 1)])]⟩
def N_wholes : List Str := ["row", "bottom"]
def F_raw_dot : Fn := ⟨2, 8,
  [.set (.tp [(.nm 2), (.nm 3)]) (.call n_wholes [(.v 0)] [0]),
   .set (.tp [(.nm 4), (.nm 5)]) (.call n_wholes [(.v 1)] [0]),
   .ret (.tup [(.gen .sum [6, 7] (.bin .mul (.v 6) (.v 7)) (.tp [(.nm 6), (.nm 7)]) .zip [(.v 2), (.v 4)] []), (.bin .mul (.v 3) (.v 5))])]⟩
def N_raw_dot : List Str := ["row", "other", "tops", "bottom", "others", "low", "one", "two"]
def F_dot : Fn := ⟨2, 4,
  [.set (.tp [(.nm 2), (.nm 3)]) (.call n_raw_dot [(.v 0), (.v 1)] [0, 1]),
   .ret (.call n_ratio [(.v 2), (.v 3)] [0, 1])]⟩
def N_dot : List Str := ["row", "other", "top", "bottom"]
def F_row_minus : Fn := ⟨2, 4,
  [.ret (.gen .tuple [2, 3] (.call n_minus [(.v 2), (.v 3)] [0, 1]) (.tp [(.nm 2), (.nm 3)]) .zip [(.v 0), (.v 1)] [])]⟩
def N_row_minus : List Str := ["row", "other", "one", "two"]
def F_zeros : Fn := ⟨1, 1,
  [.ret (.bin .mul (.tup [(.g "ZERO")]) (.v 0))]⟩
def N_zeros : List Str := ["many"]
def F_unit : Fn := ⟨2, 3,
  [.ret (.gen .tuple [2] (.ife (.cmp .eq (.v 2) (.v 1)) (.g "ONE") (.g "ZERO")) (.nm 2) .rng [(.v 0)] [])]⟩
def N_unit : List Str := ["many", "place", "at"]
def F_net_bound : Fn := ⟨2, 5,
  [.set (.nm 4) (.lc [2, 3] (.call n_minus [(.call n_dot [(.v 2), (.v 1)] [0, 1]), (.v 3)] [0, 1]) (.tp [(.nm 2), (.nm 3)]) .zip [(.idx (.v 0) (.c (.int 2))), (.idx (.idx (.v 0) (.c (.int 1))) (.c (.int 0)))] []),
   .ret (.call n_greatest_of [(.bin .add (.lst [(.g "ZERO")]) (.v 4))] [0])]⟩
def N_net_bound : List Str := ["work", "pays", "row", "cost", "nets"]
def F_corners : Fn := ⟨3, 9,
  [.set (.nm 3) (.lst []),
   .loop (.tp [(.nm 4), (.nm 5)]) .enm [(.v 1)]
      [.ife (.cmp .ge (.v 5) (.v 2))
          [.ex (.mt .append (.v 3) [(.tup [(.idx (.v 0) (.v 4)), (.c (.int 1)), (.v 4), (.v 4)])])]
          [],
       .ife (.cmp .gt (.v 5) (.v 2))
          [.loop (.tp [(.nm 6), (.nm 7)]) .enm [(.v 1)]
              [.ife (.cmp .lt (.v 7) (.v 2))
                  [.set (.nm 8) (.bin .add (.bin .mul (.bin .sub (.v 2) (.v 7)) (.idx (.v 0) (.v 4))) (.bin .mul (.bin .sub (.v 5) (.v 2)) (.idx (.v 0) (.v 6)))),
                   .ex (.mt .append (.v 3) [(.tup [(.v 8), (.bin .sub (.v 5) (.v 7)), (.v 4), (.v 6)])])]
                  []]]
          []],
   .ret (.v 3)]⟩
def N_corners : List Str := ["rests", "wages", "need", "found", "high", "wage", "low", "lower", "top"]
def F_least_corner : Fn := ⟨3, 6,
  [.set (.nm 3) (.call n_corners [(.v 0), (.v 1), (.v 2)] [0, 1, 2]),
   .set (.nm 4) (.idx (.v 3) (.c (.int 0))),
   .loop (.nm 5) .seq [(.v 3)]
      [.ife (.tru (.call n_less [(.slc (.v 5) none (some (.c (.int 2)))), (.slc (.v 4) none (some (.c (.int 2))))] [0, 1]))
          [.set (.nm 4) (.v 5)]
          []],
   .ret (.v 4)]⟩
def N_least_corner : List Str := ["rests", "wages", "need", "found", "best", "corner"]
def F_corner_chances : Fn := ⟨4, 5,
  [.ife (.cmp .eq (.v 2) (.v 3))
      [.ret (.call n_unit [(.bi .len [(.v 0)]), (.v 2)] [0, 1])]
      [],
   .set (.nm 4) (.bi .list [(.call n_zeros [(.bi .len [(.v 0)])] [0])]),
   .seti (.v 4) (.v 2) (.call n_ratio [(.bin .sub (.v 1) (.idx (.v 0) (.v 3))), (.bin .sub (.idx (.v 0) (.v 2)) (.idx (.v 0) (.v 3)))] [0, 1]),
   .seti (.v 4) (.v 3) (.call n_ratio [(.bin .sub (.idx (.v 0) (.v 2)) (.v 1)), (.bin .sub (.idx (.v 0) (.v 2)) (.idx (.v 0) (.v 3)))] [0, 1]),
   .ret (.bi .tuple [(.v 4)])]⟩
def N_corner_chances : List Str := ["wages", "need", "high", "low", "chances"]
def F_slope_at : Fn := ⟨3, 7,
  [.set (.nm 3) (.tup [(.c (.int 0)), (.c (.int 1))]),
   .loop (.tp [(.nm 4), (.nm 5)]) .zip [(.v 0), (.v 1)]
      [.ife (.cmp .lt (.v 5) (.idx (.v 1) (.v 2)))
          [.set (.nm 6) (.tup [(.bin .sub (.idx (.v 0) (.v 2)) (.v 4)), (.bin .sub (.idx (.v 1) (.v 2)) (.v 5))]),
           .ife (.tru (.call n_less [(.v 3), (.v 6)] [0, 1]))
              [.set (.nm 3) (.v 6)]
              []]
          []],
   .ret (.v 3)]⟩
def N_slope_at : List Str := ["rests", "wages", "high", "best", "rest", "wage", "slope"]
def F_guarantee : Fn := ⟨3, 17,
  [.set (.nm 3) (.call n_net_bound [(.v 0), (.v 2)] [0, 1]),
   .set (.tp [(.nm 4), (.nm 5)]) (.call n_wholes [(.call n_row_minus [(.v 1), (.v 2)] [0, 1])] [0]),
   .set (.tp [(.nm 6), (.nm 7)]) (.call n_wholes [(.bin .add (.v 2) (.tup [(.v 3)]))] [0]),
   .par [8, 9] [(.slc (.v 6) none (some (.neg (.c (.int 1))))), (.idx (.v 6) (.neg (.c (.int 1))))],
   .set (.tp [(.nm 10), (.nm 11), (.nm 12), (.nm 13)]) (.call n_least_corner [(.v 4), (.v 8), (.v 9)] [0, 1, 2]),
   .set (.nm 14) (.call n_slope_at [(.v 4), (.v 8), (.v 12)] [0, 1, 2]),
   .set (.nm 15) (.call n_ratio [(.bin .mul (.idx (.v 14) (.c (.int 0))) (.v 7)), (.bin .mul (.idx (.v 14) (.c (.int 1))) (.v 5))] [0, 1]),
   .set (.nm 16) (.call n_minus [(.call n_ratio [(.idx (.v 4) (.v 12)), (.v 5)] [0, 1]), (.call n_times [(.v 15), (.idx (.v 2) (.v 12))] [0, 1])] [0, 1]),
   .ret (.tup [(.call n_ratio [(.v 10), (.bin .mul (.v 11) (.v 5))] [0, 1]), (.call n_corner_chances [(.v 8), (.v 9), (.v 12), (.v 13)] [0, 1, 2, 3]), (.tup [(.v 16), (.v 15)])])]⟩
def N_guarantee : List Str := ["work", "heights", "pays", "need", "rests", "low_bottom", "sizes", "bottom", "wages", "least", "top", "under", "high", "low", "slope", "q", "p"]
def F_judge_guarantee : Fn := ⟨4, 12,
  [.ife (.or [(.not (.tru (.bi .istup [(.v 3)]))), (.cmp .ne (.bi .len [(.v 3)]) (.c (.int 3))), (.not (.tru (.call n_is_fraction [(.idx (.v 3) (.c (.int 0)))] [0])))])
      [.ret (.c (.bl false))]
      [],
   .ife (.or [(.not (.tru (.call n_is_chances [(.idx (.v 3) (.c (.int 1))), (.bi .len [(.v 2)]), (.bi .len [(.v 2)])] [0, 1, 2]))), (.not (.tru (.call n_is_fractions [(.idx (.v 3) (.c (.int 2))), (.c (.int 2)), (.c (.int 2))] [0, 1, 2])))])
      [.ret (.c (.bl false))]
      [],
   .set (.tp [(.nm 4), (.nm 5), (.tp [(.nm 6), (.nm 7)])]) (.v 3),
   .set (.nm 8) (.call n_net_bound [(.v 0), (.v 2)] [0, 1]),
   .set (.nm 9) (.call n_row_minus [(.v 1), (.v 2)] [0, 1]),
   .ife (.or [(.tru (.call n_less [(.call n_raw_dot [(.v 5), (.v 2)] [0, 1]), (.v 8)] [0, 1])), (.not (.tru (.call n_alike [(.call n_raw_dot [(.v 5), (.v 9)] [0, 1]), (.v 4)] [0, 1])))])
      [.ret (.c (.bl false))]
      [],
   .ife (.or [(.cmp .lt (.idx (.v 7) (.c (.int 0))) (.c (.int 0))), (.cmp .ne (.call n_plus [(.v 6), (.call n_times [(.v 7), (.v 8)] [0, 1])] [0, 1]) (.v 4))])
      [.ret (.c (.bl false))]
      [],
   .ret (.gen .all [10, 11] (.call n_atmost [(.call n_plus [(.v 6), (.call n_times [(.v 7), (.v 10)] [0, 1])] [0, 1]), (.v 11)] [0, 1]) (.tp [(.nm 10), (.nm 11)]) .zip [(.v 2), (.v 9)] [])]⟩
def N_judge_guarantee : List Str := ["work", "heights", "pays", "value", "number", "chances", "p", "q", "need", "rests", "pay", "rest"]
def F__law_flow : Fn := ⟨1, 2,
  [.ret (.lst [(.c (.int 0)), (.c (.int 0)), (.c (.int 0)), (.c (.int 0)), (.lc [1] (.bi .abs [(.bi .int [(.v 1)])]) (.nm 1) .seq [(.slc (.v 0) none (some (.c (.int 63))))] [])])]⟩
def N__law_flow : List Str := ["script", "cell"]
def F__law_draw : Fn := ⟨2, 6,
  [.seti (.v 0) (.c (.int 3)) (.bin .add (.idx (.v 0) (.c (.int 3))) (.c (.int 1))),
   .ife (.and [(.cmp .eq (.idx (.v 0) (.c (.int 1))) (.c (.int 0))), (.cmp .lt (.idx (.v 0) (.c (.int 2))) (.bi .len [(.idx (.v 0) (.c (.int 4)))])), (.cmp .ge (.idx (.idx (.v 0) (.c (.int 4))) (.idx (.v 0) (.c (.int 2)))) (.bin .pow (.c (.int 10)) (.c (.int 18))))])
      [.seti (.v 0) (.c (.int 0)) (.idx (.idx (.v 0) (.c (.int 4))) (.idx (.v 0) (.c (.int 2)))),
       .seti (.v 0) (.c (.int 1)) (.c (.int 60)),
       .seti (.v 0) (.c (.int 2)) (.bin .add (.idx (.v 0) (.c (.int 2))) (.c (.int 1)))]
      [],
   .ife (.cmp .gt (.idx (.v 0) (.c (.int 1))) (.c (.int 0)))
      [.set (.nm 2) (.bin .mod (.bi .int [(.idx (.v 0) (.c (.int 0)))]) (.v 1)),
       .seti (.v 0) (.c (.int 0)) (.bin .fdiv (.idx (.v 0) (.c (.int 0))) (.v 1)),
       .seti (.v 0) (.c (.int 1)) (.bin .mul (.bin .sub (.idx (.v 0) (.c (.int 1))) (.c (.int 1))) (.bi .int [(.cmp .gt (.idx (.v 0) (.c (.int 0))) (.c (.int 0)))])),
       .ret (.v 2)]
      [],
   .set (.nm 3) (.c (.int 7)),
   .ife (.cmp .gt (.bi .len [(.idx (.v 0) (.c (.int 4)))]) (.c (.int 0)))
      [.set (.nm 3) (.idx (.idx (.v 0) (.c (.int 4))) (.bin .mod (.bi .int [(.idx (.v 0) (.c (.int 2)))]) (.bi .len [(.idx (.v 0) (.c (.int 4)))]))),
       .seti (.v 0) (.c (.int 2)) (.bin .add (.idx (.v 0) (.c (.int 2))) (.c (.int 1)))]
      [],
   .set (.nm 4) (.bin .mod (.bi .int [(.bin .add (.bin .mul (.v 3) (.c (.int 48271))) (.bin .mul (.idx (.v 0) (.c (.int 3))) (.c (.int 69621))))]) (.c (.int 2147483647))),
   .set (.nm 5) (.bin .mod (.bi .int [(.bin .add (.bin .mul (.v 4) (.v 4)) (.bin .mul (.idx (.v 0) (.c (.int 3))) (.c (.int 40692))))]) (.c (.int 2147483399))),
   .ret (.bin .mod (.bi .int [(.bin .mod (.bi .int [(.bin .add (.bin .mul (.v 5) (.v 5)) (.v 4))]) (.c (.int 2147483647)))]) (.v 1))]⟩
def N__law_draw : List Str := ["flow", "many", "got", "cell", "first", "second"]
def F__law_pick : Fn := ⟨2, 2,
  [.ret (.idx (.v 1) (.call n__law_draw [(.v 0), (.bi .len [(.v 1)])] [0, 1]))]⟩
def N__law_pick : List Str := ["flow", "things"]
def F__law_shuffled : Fn := ⟨2, 5,
  [.set (.nm 2) (.bi .list [(.v 1)]),
   .set (.nm 3) (.lst []),
   .loop (.nm 4) .rng [(.bi .len [(.v 1)])]
      [.ex (.mt .append (.v 3) [(.mt .popi (.v 2) [(.call n__law_draw [(.v 0), (.bi .len [(.v 2)])] [0, 1])])])],
   .ret (.v 3)]⟩
def N__law_shuffled : List Str := ["flow", "things", "left", "made", "k"]
def F__law_frac : Fn := ⟨2, 5,
  [.par [2, 3] [(.bi .abs [(.v 0)]), (.bi .abs [(.v 1)])],
   .loop (.nm 4) .rng [(.c (.int 99999))]
      [.ife (.cmp .eq (.v 3) (.c (.int 0)))
          [.brk]
          [],
       .par [2, 3] [(.v 3), (.bin .mod (.bi .int [(.v 2)]) (.v 3))]],
   .set (.nm 2) (.ife (.cmp .gt (.v 1) (.c (.int 0))) (.v 2) (.neg (.v 2))),
   .ret (.tup [(.bin .fdiv (.v 0) (.v 2)), (.bin .fdiv (.v 1) (.v 2))])]⟩
def N__law_frac : List Str := ["top", "bottom", "one", "other", "k"]
def F__law_plus : Fn := ⟨2, 2,
  [.ret (.call n__law_frac [(.bin .add (.bin .mul (.idx (.v 0) (.c (.int 0))) (.idx (.v 1) (.c (.int 1)))) (.bin .mul (.idx (.v 1) (.c (.int 0))) (.idx (.v 0) (.c (.int 1))))), (.bin .mul (.idx (.v 0) (.c (.int 1))) (.idx (.v 1) (.c (.int 1))))] [0, 1])]⟩
def N__law_plus : List Str := ["x", "y"]
def F__law_minus : Fn := ⟨2, 2,
  [.ret (.call n__law_frac [(.bin .sub (.bin .mul (.idx (.v 0) (.c (.int 0))) (.idx (.v 1) (.c (.int 1)))) (.bin .mul (.idx (.v 1) (.c (.int 0))) (.idx (.v 0) (.c (.int 1))))), (.bin .mul (.idx (.v 0) (.c (.int 1))) (.idx (.v 1) (.c (.int 1))))] [0, 1])]⟩
def N__law_minus : List Str := ["x", "y"]
def F__law_times : Fn := ⟨2, 2,
  [.ret (.call n__law_frac [(.bin .mul (.idx (.v 0) (.c (.int 0))) (.idx (.v 1) (.c (.int 0)))), (.bin .mul (.idx (.v 0) (.c (.int 1))) (.idx (.v 1) (.c (.int 1))))] [0, 1])]⟩
def N__law_times : List Str := ["x", "y"]
def F__law_less : Fn := ⟨2, 2,
  [.ret (.cmp .lt (.bin .mul (.idx (.v 0) (.c (.int 0))) (.idx (.v 1) (.c (.int 1)))) (.bin .mul (.idx (.v 1) (.c (.int 0))) (.idx (.v 0) (.c (.int 1)))))]⟩
def N__law_less : List Str := ["x", "y"]
def F__law_greatest : Fn := ⟨1, 3,
  [.set (.nm 1) (.idx (.v 0) (.c (.int 0))),
   .loop (.nm 2) .seq [(.v 0)]
      [.set (.nm 1) (.ife (.tru (.call n__law_less [(.v 1), (.v 2)] [0, 1])) (.v 2) (.v 1))],
   .ret (.v 1)]⟩
def N__law_greatest : List Str := ["some", "found", "one"]
def F__law_row : Fn := ⟨3, 7,
  [.par [3, 4] [(.v 2), (.lst [])],
   .loop (.nm 5) .rng [(.bin .sub (.v 1) (.c (.int 1)))]
      [.set (.nm 6) (.call n__law_draw [(.v 0), (.bin .add (.v 3) (.c (.int 1)))] [0, 1]),
       .set (.nm 6) (.ife (.cmp .eq (.call n__law_draw [(.v 0), (.c (.int 2))] [0, 1]) (.c (.int 0))) (.bi .min [(.v 6), (.call n__law_draw [(.v 0), (.bin .add (.v 3) (.c (.int 1)))] [0, 1])]) (.v 6)),
       .ex (.mt .append (.v 4) [(.v 6)]),
       .set (.nm 3) (.bin .sub (.v 3) (.v 6))],
   .ret (.bi .tuple [(.lc [6] (.call n__law_frac [(.v 6), (.v 2)] [0, 1]) (.nm 6) .seq [(.call n__law_shuffled [(.v 0), (.bin .add (.v 4) (.lst [(.v 3)]))] [0, 1])] [])])]⟩
def N__law_row : List Str := ["flow", "many", "whole", "left", "made", "k", "part"]
def F__law_total : Fn := ⟨1, 3,
  [.set (.nm 1) (.tup [(.c (.int 0)), (.c (.int 1))]),
   .loop (.nm 2) .seq [(.v 0)]
      [.set (.nm 1) (.call n__law_plus [(.v 1), (.v 2)] [0, 1])],
   .ret (.v 1)]⟩
def N__law_total : List Str := ["some", "number", "one"]
def F__law_is_whole : Fn := ⟨1, 1,
  [.ret (.and [(.bi .isint [(.v 0)]), (.not (.bi .isbool [(.v 0)]))])]⟩
def N__law_is_whole : List Str := ["value"]
def F__law_is_fraction : Fn := ⟨1, 1,
  [.ife (.or [(.not (.tru (.bi .istup [(.v 0)]))), (.cmp .ne (.bi .len [(.v 0)]) (.c (.int 2))), (.not (.tru (.call n__law_is_whole [(.idx (.v 0) (.c (.int 0)))] [0]))), (.not (.tru (.call n__law_is_whole [(.idx (.v 0) (.c (.int 1)))] [0])))])
      [.ret (.c (.bl false))]
      [],
   .ret (.and [(.cmp .gt (.idx (.v 0) (.c (.int 1))) (.c (.int 0))), (.cmp .eq (.call n__law_frac [(.idx (.v 0) (.c (.int 0))), (.idx (.v 0) (.c (.int 1)))] [0, 1]) (.v 0))])]⟩
def N__law_is_fraction : List Str := ["value"]
def F__law_are_rows : Fn := ⟨3, 5,
  [.ife (.or [(.not (.tru (.bi .istup [(.v 0)]))), (.cmp .ne (.bi .len [(.v 0)]) (.v 1))])
      [.ret (.c (.bl false))]
      [],
   .loop (.nm 3) .seq [(.v 0)]
      [.ife (.or [(.not (.tru (.bi .istup [(.v 3)]))), (.cmp .ne (.bi .len [(.v 3)]) (.v 2)), (.cmp .gt (.bi .len [(.lc [4] (.c (.int 1)) (.nm 4) .seq [(.v 3)] [(.not (.tru (.call n__law_is_fraction [(.v 4)] [0])))])]) (.c (.int 0)))])
          [.ret (.c (.bl false))]
          []],
   .ret (.c (.bl true))]⟩
def N__law_are_rows : List Str := ["value", "many", "long", "row", "one"]
def F__law_is_table : Fn := ⟨3, 5,
  [.ife (.not (.tru (.call n__law_are_rows [(.v 0), (.v 1), (.v 2)] [0, 1, 2])))
      [.ret (.c (.bl false))]
      [],
   .ret (.cmp .eq (.bi .len [(.lc [3] (.c (.int 1)) (.nm 3) .seq [(.v 0)] [(.or [(.cmp .gt (.bi .len [(.lc [4] (.c (.int 1)) (.nm 4) .seq [(.v 3)] [(.cmp .lt (.idx (.v 4) (.c (.int 0))) (.c (.int 0)))])]) (.c (.int 0))), (.cmp .ne (.call n__law_total [(.v 3)] [0]) (.tup [(.c (.int 1)), (.c (.int 1))]))])])]) (.c (.int 0)))]⟩
def N__law_is_table : List Str := ["value", "many", "long", "row", "one"]
def F__law_mean : Fn := ⟨2, 3,
  [.ret (.call n__law_total [(.lc [2] (.call n__law_times [(.idx (.v 0) (.v 2)), (.idx (.v 1) (.v 2))] [0, 1]) (.nm 2) .rng [(.bi .len [(.v 0)])] [])] [0])]⟩
def N__law_mean : List Str := ["row", "some", "k"]
def F__law_numbers : Fn := ⟨3, 5,
  [.set (.nm 4) (.lc [3] (.call n__law_pick [(.v 0), (.lst [(.tup [(.c (.int 0)), (.c (.int 1))]), (.tup [(.c (.int 1)), (.c (.int 1))]), (.tup [(.c (.int 2)), (.c (.int 1))]), (.tup [(.c (.int 5)), (.c (.int 2))]), (.tup [(.c (.int 1)), (.c (.int 3))]), (.tup [(.c (.int 4)), (.c (.int 1))]), (.tup [(.c (.int 7)), (.c (.int 1))]), (.tup [(.c (.int 9)), (.c (.int 4))]), (.tup [(.c (.int 12)), (.c (.int 1))])])] [0, 1]) (.nm 3) .rng [(.v 1)] []),
   .ife (.tru (.v 2))
      [.seti (.v 4) (.call n__law_draw [(.v 0), (.v 1)] [0, 1]) (.tup [(.c (.int 0)), (.c (.int 1))])]
      [],
   .ret (.bi .tuple [(.v 4)])]⟩
def N__law_numbers : List Str := ["flow", "many", "least", "k", "made"]
def F__law_chances : Fn := ⟨3, 5,
  [.set (.nm 4) (.lc [3] (.call n__law_row [(.v 0), (.v 2), (.call n__law_pick [(.v 0), (.lst [(.c (.int 1)), (.c (.int 2)), (.c (.int 3)), (.c (.int 4)), (.c (.int 6)), (.c (.int 10))])] [0, 1])] [0, 1, 2]) (.nm 3) .rng [(.v 1)] []),
   .ife (.and [(.cmp .gt (.v 1) (.c (.int 1))), (.cmp .eq (.call n__law_draw [(.v 0), (.c (.int 5))] [0, 1]) (.c (.int 0)))])
      [.seti (.v 4) (.c (.int 0)) (.idx (.v 4) (.neg (.c (.int 1))))]
      [],
   .ret (.bi .tuple [(.v 4)])]⟩
def N__law_chances : List Str := ["flow", "acts", "results", "a", "rows"]
def F__law_work : Fn := ⟨2, 10,
  [.par [2, 3] [(.bin .add (.c (.int 1)) (.call n__law_draw [(.v 0), (.c (.int 4))] [0, 1])), (.bin .add (.c (.int 1)) (.call n__law_draw [(.v 0), (.c (.int 6))] [0, 1]))],
   .set (.nm 4) (.lst [(.tup [(.c (.int 0)), (.c (.int 1))]), (.tup [(.c (.int 1)), (.c (.int 1))]), (.tup [(.c (.int 1)), (.c (.int 2))]), (.tup [(.c (.int 1)), (.c (.int 4))]), (.tup [(.c (.int 2)), (.c (.int 1))]), (.tup [(.c (.int 3)), (.c (.int 1))]), (.tup [(.c (.int 1)), (.c (.int 10))]), (.tup [(.c (.int 4)), (.c (.int 3))])]),
   .set (.nm 6) (.lc [5] (.call n__law_pick [(.v 0), (.v 4)] [0, 1]) (.nm 5) .rng [(.v 2)] []),
   .ife (.tru (.v 1))
      [.seti (.v 6) (.call n__law_draw [(.v 0), (.v 2)] [0, 1]) (.tup [(.c (.int 0)), (.c (.int 1))])]
      [],
   .set (.nm 7) (.call n__law_chances [(.v 0), (.v 2), (.v 3)] [0, 1, 2]),
   .set (.nm 8) (.call n__law_numbers [(.v 0), (.v 3), (.c (.bl true))] [0, 1, 2]),
   .ret (.tup [(.tup [(.tup [(.tup [(.c (.int 1)), (.c (.int 1))])]), (.tup [(.bi .tuple [(.v 6)])]), (.v 7)]), (.v 8), (.lc [9] (.call n__law_mean [(.v 9), (.v 8)] [0, 1]) (.nm 9) .seq [(.v 7)] [])])]⟩
def N__law_work : List Str := ["flow", "zero", "acts", "results", "some", "a", "costs", "chances", "heights", "row"]
def F__law_bar : Fn := ⟨2, 3,
  [.ret (.call n__law_greatest [(.bin .add (.lst [(.tup [(.c (.int 0)), (.c (.int 1))])]) (.lc [2] (.call n__law_minus [(.call n__law_mean [(.idx (.idx (.v 0) (.c (.int 2))) (.v 2)), (.v 1)] [0, 1]), (.idx (.idx (.idx (.v 0) (.c (.int 1))) (.c (.int 0))) (.v 2))] [0, 1]) (.nm 2) .rng [(.bi .len [(.idx (.v 0) (.c (.int 2)))])] []))] [0])]⟩
def N__law_bar : List Str := ["work", "pays", "a"]
def F__law_is_guarantee : Fn := ⟨4, 9,
  [.ife (.or [(.not (.tru (.bi .istup [(.v 3)]))), (.cmp .ne (.bi .len [(.v 3)]) (.c (.int 3))), (.not (.tru (.call n__law_is_fraction [(.idx (.v 3) (.c (.int 0)))] [0]))), (.not (.tru (.call n__law_is_table [(.tup [(.idx (.v 3) (.c (.int 1)))]), (.c (.int 1)), (.bi .len [(.v 1)])] [0, 1, 2])))])
      [.ret (.c (.bl false))]
      [],
   .ife (.or [(.not (.tru (.call n__law_are_rows [(.tup [(.idx (.v 3) (.c (.int 2)))]), (.c (.int 1)), (.c (.int 2))] [0, 1, 2]))), (.cmp .lt (.idx (.idx (.idx (.v 3) (.c (.int 2))) (.c (.int 1))) (.c (.int 0))) (.c (.int 0)))])
      [.ret (.c (.bl false))]
      [],
   .set (.tp [(.nm 4), (.nm 5)]) (.idx (.v 3) (.c (.int 2))),
   .set (.nm 6) (.call n__law_bar [(.v 0), (.v 2)] [0, 1]),
   .set (.nm 8) (.lc [7] (.call n__law_minus [(.idx (.v 1) (.v 7)), (.idx (.v 2) (.v 7))] [0, 1]) (.nm 7) .rng [(.bi .len [(.v 1)])] []),
   .ife (.or [(.tru (.call n__law_less [(.call n__law_mean [(.idx (.v 3) (.c (.int 1))), (.v 2)] [0, 1]), (.v 6)] [0, 1])), (.cmp .ne (.call n__law_mean [(.idx (.v 3) (.c (.int 1))), (.v 8)] [0, 1]) (.idx (.v 3) (.c (.int 0))))])
      [.ret (.c (.bl false))]
      [],
   .loop (.nm 7) .rng [(.bi .len [(.v 1)])]
      [.ife (.tru (.call n__law_less [(.idx (.v 8) (.v 7)), (.call n__law_plus [(.v 4), (.call n__law_times [(.v 5), (.idx (.v 2) (.v 7))] [0, 1])] [0, 1])] [0, 1]))
          [.ret (.c (.bl false))]
          []],
   .ret (.cmp .eq (.call n__law_plus [(.v 4), (.call n__law_times [(.v 5), (.v 6)] [0, 1])] [0, 1]) (.idx (.v 3) (.c (.int 0))))]⟩
def N__law_is_guarantee : List Str := ["work", "heights", "pays", "value", "p", "q", "bar", "r", "rest"]
def F__law_pays : Fn := ⟨2, 7,
  [.set (.nm 2) (.call n__law_draw [(.v 0), (.c (.int 4))] [0, 1]),
   .ife (.cmp .eq (.v 2) (.c (.int 0)))
      [.set (.nm 3) (.call n__law_pick [(.v 0), (.lst [(.tup [(.c (.int 1)), (.c (.int 2))]), (.tup [(.c (.int 1)), (.c (.int 3))]), (.tup [(.c (.int 3)), (.c (.int 4))]), (.tup [(.c (.int 1)), (.c (.int 1))]), (.tup [(.c (.int 1)), (.c (.int 10))])])] [0, 1]),
       .ret (.bi .tuple [(.lc [4] (.call n__law_times [(.v 3), (.v 4)] [0, 1]) (.nm 4) .seq [(.v 1)] [])])]
      [],
   .ife (.cmp .eq (.v 2) (.c (.int 1)))
      [.set (.nm 5) (.call n__law_draw [(.v 0), (.bi .len [(.v 1)])] [0, 1]),
       .ret (.bi .tuple [(.lc [6] (.tup [(.bin .mul (.bi .int [(.cmp .eq (.v 6) (.v 5))]) (.bin .add (.c (.int 1)) (.call n__law_draw [(.v 0), (.c (.int 5))] [0, 1]))), (.c (.int 1))]) (.nm 6) .rng [(.bi .len [(.v 1)])] [])])]
      [],
   .ret (.ife (.cmp .gt (.call n__law_draw [(.v 0), (.c (.int 5))] [0, 1]) (.c (.int 0))) (.call n__law_numbers [(.v 0), (.bi .len [(.v 1)]), (.c (.bl false))] [0, 1, 2]) (.bin .mul (.tup [(.tup [(.c (.int 0)), (.c (.int 1))])]) (.bi .len [(.v 1)])))]⟩
def N__law_pays : List Str := ["flow", "heights", "kind", "share", "one", "at", "k"]
def F__law_changed : Fn := ⟨3, 4,
  [.ife (.tru (.call n__law_is_fraction [(.v 1)] [0]))
      [.ret (.call n__law_pick [(.v 0), (.lst [(.tup [(.c (.int 0)), (.c (.int 1))]), (.tup [(.c (.int 1)), (.c (.int 1))]), (.tup [(.neg (.c (.int 1))), (.c (.int 1))]), (.tup [(.c (.int 1)), (.c (.int 2))]), (.tup [(.c (.int 2)), (.c (.int 4))]), (.c (.int 0)), (.tup [(.idx (.v 1) (.c (.int 0))), (.c (.bl true))]), (.c (.non))])] [0, 1])]
      [],
   .ife (.and [(.tru (.bi .istup [(.v 1)])), (.cmp .gt (.bi .len [(.v 1)]) (.c (.int 0))), (.cmp .gt (.v 2) (.c (.int 0))), (.cmp .gt (.call n__law_draw [(.v 0), (.c (.int 6))] [0, 1]) (.c (.int 0)))])
      [.set (.nm 3) (.call n__law_draw [(.v 0), (.bi .len [(.v 1)])] [0, 1]),
       .ret (.bin .add (.bin .add (.slc (.v 1) none (some (.v 3))) (.tup [(.call n__law_changed [(.v 0), (.idx (.v 1) (.v 3)), (.bin .sub (.v 2) (.c (.int 1)))] [0, 1, 2])])) (.slc (.v 1) (some (.bin .add (.v 3) (.c (.int 1)))) none))]
      [],
   .ret (.ife (.tru (.bi .istup [(.v 1)])) (.call n__law_pick [(.v 0), (.lst [(.c (.non)), (.tup []), (.slc (.v 1) (some (.c (.int 1))) none), (.bin .add (.v 1) (.slc (.v 1) none (some (.c (.int 1))))), (.bi .rv [(.v 1)]), (.c (.int 7))])] [0, 1]) (.c (.non)))]⟩
def N__law_changed : List Str := ["flow", "value", "deep", "at"]
def F_law : Fn := ⟨1, 12,
  [.set (.nm 1) (.call n__law_flow [(.v 0)] [0]),
   .loop (.nm 2) .rng [(.c (.int 3))]
      [.set (.tp [(.nm 3), (.nm 4), (.nm 5)]) (.call n__law_work [(.v 1), (.c (.bl false))] [0, 1]),
       .set (.nm 6) (.call n__law_pays [(.v 1), (.v 4)] [0, 1]),
       .set (.nm 7) (.ife (.cmp .gt (.v 2) (.c (.int 0))) (.call n_guarantee [(.v 3), (.v 4), (.v 6)] [0, 1, 2]) (.call n_guarantee [(.v 6), (.v 4), (.v 3)] [2, 1, 0])),
       .ife (.not (.tru (.call n__law_is_guarantee [(.v 3), (.v 4), (.v 6), (.v 7)] [0, 1, 2, 3])))
          [.ret (.c (.bl false))]
          [],
       .set (.nm 9) (.bin .add (.lst [(.v 7), (.c (.non)), (.tup [(.idx (.v 7) (.c (.int 0))), (.idx (.v 7) (.c (.int 1))), (.tup [(.tup [(.c (.int 0)), (.c (.int 1))]), (.tup [(.c (.int 0)), (.c (.int 1))])])])]) (.lc [8] (.call n__law_changed [(.v 1), (.v 7), (.c (.int 4))] [0, 1, 2]) (.nm 8) .rng [(.c (.int 6))] [])),
       .loop (.nm 10) .seq [(.v 9)]
          [.ife (.cmp .eq (.call n__law_draw [(.v 1), (.c (.int 4))] [0, 1]) (.c (.int 0)))
              [.set (.nm 11) (.call n_judge_guarantee [(.v 10), (.v 6), (.v 4), (.v 3)] [3, 2, 1, 0])]
              [.set (.nm 11) (.call n_judge_guarantee [(.v 3), (.v 4), (.v 6), (.v 10)] [0, 1, 2, 3])],
           .ife (.or [(.not (.tru (.bi .isbool [(.v 11)]))), (.cmp .ne (.v 11) (.call n__law_is_guarantee [(.v 3), (.v 4), (.v 6), (.v 10)] [0, 1, 2, 3]))])
              [.ret (.c (.bl false))]
              []]],
   .ret (.c (.bl true))]⟩
def N_law : List Str := ["script", "flow", "turn", "work", "heights", "high", "pays", "found", "k", "values", "value", "told"]
def fns : List Fn := [F_common, F_ratio, F_is_number, F_is_fraction, F_is_fractions, F_is_chances, F_plus, F_minus, F_times, F_less, F_atmost, F_alike, F_greatest_of, F_bottom_of, F_tops_over, F_wholes, F_raw_dot, F_dot, F_row_minus, F_zeros, F_unit, F_net_bound, F_corners, F_least_corner, F_corner_chances, F_slope_at, F_guarantee, F_judge_guarantee, F__law_flow, F__law_draw, F__law_pick, F__law_shuffled, F__law_frac, F__law_plus, F__law_minus, F__law_times, F__law_less, F__law_greatest, F__law_row, F__law_total, F__law_is_whole, F__law_is_fraction, F__law_are_rows, F__law_is_table, F__law_mean, F__law_numbers, F__law_chances, F__law_work, F__law_bar, F__law_is_guarantee, F__law_pays, F__law_changed, F_law]
def tab (n : Nat) : Option Fn := fns[n]?
def pgF_0 : List (Str × (Nat × List Str × List (List Str))) := [("common", (0, ["one", "other"], [])), ("ratio", (1, ["top", "bottom"], [])), ("is_number", (2, ["value"], [])), ("is_fraction", (3, ["value"], [])), ("is_fractions", (4, ["value", "low", "high"], [])), ("is_chances", (5, ["value", "low", "high"], [])), ("plus", (6, ["one", "other"], [])), ("minus", (7, ["one", "other"], [])), ("times", (8, ["one", "other"], [])), ("less", (9, ["one", "other"], [])), ("atmost", (10, ["one", "other"], [])), ("alike", (11, ["one", "other"], [])), ("greatest_of", (12, ["row"], [])), ("bottom_of", (13, ["row"], [])), ("tops_over", (14, ["row", "bottom"], [])), ("wholes", (15, ["row"], [])), ("raw_dot", (16, ["row", "other"], [])), ("dot", (17, ["row", "other"], [])), ("row_minus", (18, ["row", "other"], [])), ("zeros", (19, ["many"], [])), ("unit", (20, ["many", "place"], [])), ("net_bound", (21, ["work", "pays"], [])), ("corners", (22, ["rests", "wages", "need"], [])), ("least_corner", (23, ["rests", "wages", "need"], [])), ("corner_chances", (24, ["wages", "need", "high", "low"], [])), ("slope_at", (25, ["rests", "wages", "high"], [])), ("guarantee", (26, ["work", "heights", "pays"], [["pays", "heights", "work"]])), ("judge_guarantee", (27, ["work", "heights", "pays", "value"], [["value", "pays", "heights", "work"]])), ("_law_flow", (28, ["script"], [])), ("_law_draw", (29, ["flow", "many"], []))]
def pgF_1 : List (Str × (Nat × List Str × List (List Str))) := [("_law_pick", (30, ["flow", "things"], [])), ("_law_shuffled", (31, ["flow", "things"], [])), ("_law_frac", (32, ["top", "bottom"], [])), ("_law_plus", (33, ["x", "y"], [])), ("_law_minus", (34, ["x", "y"], [])), ("_law_times", (35, ["x", "y"], [])), ("_law_less", (36, ["x", "y"], [])), ("_law_greatest", (37, ["some"], [])), ("_law_row", (38, ["flow", "many", "whole"], [])), ("_law_total", (39, ["some"], [])), ("_law_is_whole", (40, ["value"], [])), ("_law_is_fraction", (41, ["value"], [])), ("_law_are_rows", (42, ["value", "many", "long"], [])), ("_law_is_table", (43, ["value", "many", "long"], [])), ("_law_mean", (44, ["row", "some"], [])), ("_law_numbers", (45, ["flow", "many", "least"], [])), ("_law_chances", (46, ["flow", "acts", "results"], [])), ("_law_work", (47, ["flow", "zero"], [])), ("_law_bar", (48, ["work", "pays"], [])), ("_law_is_guarantee", (49, ["work", "heights", "pays", "value"], [])), ("_law_pays", (50, ["flow", "heights"], [])), ("_law_changed", (51, ["flow", "value", "deep"], [])), ("law", (52, ["script"], []))]
def pgF : List (Str × (Nat × List Str × List (List Str))) := pgF_0 ++ pgF_1

def pg : Pg := ⟨[("ZERO", .tup [.int 0, .int 1]), ("ONE", .tup [.int 1, .int 1])], pgF⟩
end K30
end

section
set_option autoImplicit false
set_option linter.all false
/-! What shares guarantee: y + c less twice the root of y c. -/
namespace GU
/-- big's one less root is under small's, gap between the ones -/
def rootU (small big gap : Rat) : Bool :=
  if 0 ≤ gap then decide (small - big - gap * gap < 0) || decide ((small - big - gap * gap) * (small - big - gap * gap) < 4 * (gap * gap * big))
  else decide (0 < big - small - gap * gap) && decide (4 * (gap * gap * small) < (big - small - gap * gap) * (big - small - gap * gap))
/-- the best of the known acts: (mean, cost) -/
def upB (b : Option (Rat × Rat)) (q : Rat × Rat) : Option (Rat × Rat) :=
  if q.2 < q.1 then (match b with
    | none => some q
    | some p => if rootU (4 * (q.1 * q.2)) (4 * (p.1 * p.2)) (q.1 + q.2 - (p.1 + p.2)) = true then some q else some p)
  else b
def bestK (l : List (Rat × Rat)) : Option (Rat × Rat) := l.foldl upB none
theorem upB_mem (l : List (Rat × Rat)) : ∀ (b : Option (Rat × Rat)) (e : Rat × Rat), l.foldl upB b = some e → b = some e ∨ (e ∈ l ∧ e.2 < e.1) := by
  induction l with
  | nil => intro b e h; exact .inl h
  | cons q l ih =>
    intro b e h
    rcases ih (upB b q) e h with z | ⟨z, z2⟩
    · unfold upB at z
      split at z
      · rename_i hq
        split at z
        · cases z; exact .inr ⟨List.mem_cons_self, hq⟩
        · split at z
          · cases z; exact .inr ⟨List.mem_cons_self, hq⟩
          · exact .inl z
      · exact .inl z
    · exact .inr ⟨List.mem_cons_of_mem _ z, z2⟩
/-- one less the root of other is at least a number; more than it -/
def least (one other x : Rat) : Bool := decide (0 ≤ one - x) && decide (other ≤ (one - x) * (one - x))
def more (one other x : Rat) : Bool := decide (0 ≤ one - x) && decide (other < (one - x) * (one - x))
theorem more_neg {y c x : Rat} (h : c < y) (hc : 0 ≤ c) (hx : x < 0) : more (y + c) (4 * (y * c)) x = true := by
  unfold more
  have h1 : 0 ≤ (y - c) * (y - c) := Rat.mul_nonneg (by grind) (by grind)
  have h2 : 0 < -x * (2 * (y + c) + -x) := Rat.mul_pos (by grind) (by grind)
  have e1 : (y - c) * (y - c) = (y + c) * (y + c) - 4 * (y * c) := by grind
  have e2 : -x * (2 * (y + c) + -x) = (y + c - x) * (y + c - x) - (y + c) * (y + c) := by grind
  rw [Bool.and_eq_true, decide_eq_true_eq, decide_eq_true_eq]
  grind
/-- the share near it -/
theorem share_ok {y c x s : Rat} (h : c < y) (hc : 0 ≤ c) (hx : 0 ≤ x) (h0 : 0 < y + c - x) (hm : 4 * (y * c) < (y + c - x) * (y + c - x)) (hs : s = (y + c - x) / (2 * y)) : 0 < s ∧ s ≤ 1 ∧ 0 ≤ s * y - c ∧ x < (1 - s) / s * (s * y - c) := by
  have hy : 0 < y := by grind
  have h2 : 0 < 2 * y := by grind
  have es : s * (2 * y) = y + c - x := by rw [hs]; exact Rat.div_mul_cancel (by grind)
  have s0 : 0 < s := by
    have : 0 < s * (2 * y) := by rw [es]; exact h0
    exact (Rat.mul_pos_iff_of_pos_right h2).mp this
  have s1 : s ≤ 1 := by
    have : s * (2 * y) ≤ 1 * (2 * y) := by rw [es]; grind
    exact Rat.le_of_mul_le_mul_right this h2
  have er : (y + c - x) * (y + c - x) = 4 * y * (s * s * y) := by rw [← es]; grind
  have hd : 0 < 4 * y * (s * s * y - c) := by
    have : 4 * y * (s * s * y - c) = 4 * y * (s * s * y) - 4 * (y * c) := by grind
    rw [this, ← er]; grind
  have hd2 : 0 < s * s * y - c := (Rat.mul_pos_iff_of_pos_left (by grind : (0:Rat) < 4 * y)).mp hd
  have key : x * s < (1 - s) * (s * y - c) := by
    have ex : x = y + c - s * (2 * y) := by grind
    rw [ex]
    have : (1 - s) * (s * y - c) - (y + c - s * (2 * y)) * s = s * s * y - c := by grind
    grind
  have b0 : 0 ≤ s * y - c := by
    have hp : 0 ≤ (1 - s) * (s * y) := Rat.mul_nonneg (by grind) (Rat.mul_nonneg (by grind) (by grind))
    have : (1 - s) * (s * y) = s * y - s * s * y := by grind
    grind
  refine ⟨s0, s1, b0, ?_⟩
  have e2 : (1 - s) / s * (s * y - c) = ((1 - s) * (s * y - c)) / s := by rw [Rat.div_def, Rat.div_def]; grind
  rw [e2, Rat.lt_div_iff s0]
  exact key
end GU
end

section
set_option autoImplicit false
set_option linter.all false
/-! What a contract guarantees: the least corner, and the line that shows it. -/
namespace GA
theorem can {a x y : Rat} (h : 0 < a) (e : a * x ≤ a * y) : x ≤ y := Rat.le_of_mul_le_mul_left e h
theorem cert {n : Nat} (w s : Nat → Rat) {N v σ : Rat} {h : Nat} (hh : h < n)
    (F1 : ∀ r, r < n → N ≤ w r → v ≤ s r)
    (F2 : ∀ a b, a < n → b < n → N < w a → w b < N → v * (w a - w b) ≤ (N - w b) * s a + (w a - N) * s b)
    (F3 : (v = s h ∧ N ≤ w h) ∨ ∃ l, l < n ∧ N < w h ∧ w l < N ∧ v * (w h - w l) = (N - w l) * s h + (w h - N) * s l)
    (S0 : 0 ≤ σ) (S1 : ∀ r, r < n → w r < w h → s h - s r ≤ σ * (w h - w r))
    (S2 : σ = 0 ∨ ∃ r, r < n ∧ w r < w h ∧ s h - s r = σ * (w h - w r)) :
    (∀ r, r < n → s h + σ * (w r - w h) ≤ s r) ∧ v = s h - σ * (w h - N) := by
  rcases F3 with ⟨hv, hN⟩ | ⟨l, hl, hN, hlN, hv⟩
  · by_cases g : N < w h
    · have all : ∀ r, r < n → s h ≤ s r := by
        intro r hr
        by_cases hw : w r < N
        · have := F2 h r hh hr g hw
          have hp : 0 < w h - N := by grind
          refine can hp ?_
          grind
        · have := F1 r hr (Rat.not_lt.mp hw)
          grind
      have z : σ = 0 := by
        rcases S2 with z | ⟨r, hr, hw, e⟩
        · exact z
        · have := all r hr
          have hp : 0 < w h - w r := by grind
          have : (w h - w r) * σ ≤ (w h - w r) * 0 := by grind
          have := can hp this
          grind
      subst z
      exact ⟨fun r hr => by have := all r hr; grind, by grind⟩
    · have e : w h = N := by grind
      refine ⟨fun r hr => ?_, by rw [e]; grind⟩
      by_cases c1 : w r < w h
      · have := S1 r hr c1; grind
      · by_cases c2 : w r = w h
        · have := F1 r hr (by grind)
          rw [c2]; grind
        · rcases S2 with z | ⟨q, hq, hw, ez⟩
          · have := F1 r hr (by grind)
            rw [z]; grind
          · have f := F2 r q hr hq (by grind) (by grind)
            have hp : 0 < w h - w q := by grind
            refine can hp ?_
            have e1 : s q = s h - σ * (w h - w q) := by grind
            rw [← e, e1, hv] at f
            grind
  · have hp : 0 < w h - w l := by grind
    have hp1 : 0 < w h - N := by grind
    have hp2 : 0 < N - w l := by grind
    obtain ⟨τ, ht⟩ : ∃ τ : Rat, τ * (w h - w l) = s h - s l := ⟨(s h - s l) / (w h - w l), Rat.div_mul_cancel (by grind)⟩
    have v1 : v = s h - τ * (w h - N) := by
      have : (w h - w l) * v = (w h - w l) * (s h - τ * (w h - N)) := by
        have : (w h - w l) * (s h - τ * (w h - N)) = (w h - w l) * s h - (τ * (w h - w l)) * (w h - N) := by grind
        rw [this, ht]; grind
      have a := can hp (show (w h - w l) * v ≤ (w h - w l) * (s h - τ * (w h - N)) by rw [this]; exact Rat.le_refl)
      have b := can hp (show (w h - w l) * (s h - τ * (w h - N)) ≤ (w h - w l) * v by rw [this]; exact Rat.le_refl)
      grind
    have el : s l = s h - τ * (w h - w l) := by grind
    have all : ∀ r, r < n → s h + τ * (w r - w h) ≤ s r := by
      intro r hr
      by_cases c1 : w r < N
      · have f := F2 h r hh hr hN c1
        rw [v1] at f
        refine can hp1 ?_
        grind
      · by_cases c2 : w r = N
        · have f := F1 r hr (by grind)
          rw [c2]; grind
        · have f := F2 r l hr hl (by grind) hlN
          rw [v1, el] at f
          refine can hp2 ?_
          grind
    have t1 : τ ≤ σ := by
      have := S1 l hl (by grind)
      refine can hp ?_
      grind
    have t2 : σ ≤ τ := by
      rcases S2 with z | ⟨r, hr, hw, ez⟩
      · rw [z]
        have f := F1 h hh (by grind)
        rw [v1] at f
        refine can hp1 ?_
        grind
      · have f := all r hr
        have : 0 < w h - w r := by grind
        refine can this ?_
        grind
    have : τ = σ := by grind
    subst this
    exact ⟨all, v1⟩
theorem sq {a : Rat} : 0 ≤ a * a := by
  by_cases h : 0 ≤ a
  · exact Rat.mul_nonneg h h
  · have : 0 ≤ (-a) * (-a) := Rat.mul_nonneg (by grind) (by grind)
    grind
theorem sq_le {a b : Rat} (hb : 0 ≤ b) (h : a * a ≤ b * b) : a ≤ b := by
  by_cases g : a ≤ b
  · exact g
  · have h1 : 0 < a - b := by grind
    have h2 : 0 < a + b := by grind
    have := Rat.mul_pos h1 h2
    grind
theorem sq_lt {a b : Rat} (hb : 0 ≤ b) (h : a * a < b * b) : a < b := by
  by_cases g : b ≤ a
  · have h1 : 0 ≤ a - b := by grind
    have h2 : 0 ≤ a + b := by grind
    have := Rat.mul_nonneg h1 h2
    grind
  · exact Rat.not_le.mp g
theorem sq_mono {a b : Rat} (ha : 0 ≤ a) (h : a ≤ b) : a * a ≤ b * b := by
  have h1 : 0 ≤ b - a := by grind
  have h2 : 0 ≤ a + b := by grind
  have := Rat.mul_nonneg h1 h2
  grind
/-- number is at most one less the root of other -/
def Under (p : Rat × Rat) (x : Rat) : Prop := 0 ≤ p.1 - x ∧ p.2 ≤ (p.1 - x) * (p.1 - x)
theorem least_iff {p : Rat × Rat} {x : Rat} : GU.least p.1 p.2 x = true ↔ Under p x := by
  unfold GU.least Under
  rw [Bool.and_eq_true, decide_eq_true_eq, decide_eq_true_eq]
theorem root_t {small big gap one : Rat} (h : GU.rootU small big gap = true) (hs : 0 ≤ small) {x : Rat} (hx : Under (one, big) x) : Under (one + gap, small) x := by
  obtain ⟨h1, h2⟩ := hx
  dsimp only at h1 h2
  unfold Under
  dsimp only
  have e : one + gap - x = (one - x) + gap := by grind
  rw [e]
  generalize one - x = u at *
  unfold GU.rootU at h
  by_cases g : 0 ≤ gap
  · rw [if_pos g, Bool.or_eq_true, decide_eq_true_eq, decide_eq_true_eq] at h
    refine ⟨by grind, ?_⟩
    have p : 0 ≤ gap * u := Rat.mul_nonneg g h1
    rcases h with h | h
    · grind
    · have gg := @sq gap
      have k := Rat.mul_le_mul_of_nonneg_left h2 gg
      have : (small - big - gap * gap) * (small - big - gap * gap) ≤ (2 * (gap * u)) * (2 * (gap * u)) := by grind
      have := sq_le (by grind) this
      grind
  · rw [if_neg g, Bool.and_eq_true, decide_eq_true_eq, decide_eq_true_eq] at h
    obtain ⟨m0, m1⟩ := h
    have c0 : -gap ≤ u := by
      refine sq_le h1 ?_
      grind
    refine ⟨by grind, ?_⟩
    by_cases z : small ≤ (u + gap) * (u + gap)
    · exact z
    · have z := Rat.not_le.mp z
      have gg := @sq gap
      have k := Rat.mul_le_mul_of_nonneg_left (Rat.le_of_lt z) gg
      have : (2 * ((u + gap) * (-gap))) * (2 * ((u + gap) * (-gap))) < (big - small - gap * gap) * (big - small - gap * gap) := by grind
      have := sq_lt (by grind) this
      grind
theorem root_f {small big gap one : Rat} (h : GU.rootU small big gap = false) (hb : 0 ≤ big) {x : Rat} (hx : Under (one + gap, small) x) : Under (one, big) x := by
  obtain ⟨h1, h2⟩ := hx
  dsimp only at h1 h2
  unfold Under
  dsimp only
  have e : one + gap - x = (one - x) + gap := by grind
  rw [e] at h1 h2
  generalize one - x = u at *
  unfold GU.rootU at h
  by_cases g : 0 ≤ gap
  · rw [if_pos g, Bool.or_eq_false_iff, decide_eq_false_iff_not, decide_eq_false_iff_not] at h
    obtain ⟨m0, m1⟩ := h
    have c0 : gap ≤ u + gap := by
      refine sq_le h1 ?_
      grind
    refine ⟨by grind, ?_⟩
    by_cases z : big ≤ u * u
    · exact z
    · have z := Rat.not_le.mp z
      have gg := @sq gap
      have k := Rat.mul_le_mul_of_nonneg_left (Rat.le_of_lt z) gg
      have : (2 * (u * gap)) * (2 * (u * gap)) ≤ (small - big - gap * gap) * (small - big - gap * gap) := by grind
      have := sq_le (by grind) this
      grind
  · rw [if_neg g, Bool.and_eq_false_iff, decide_eq_false_iff_not, decide_eq_false_iff_not] at h
    refine ⟨by grind, ?_⟩
    have p : 0 ≤ (-gap) * (u + gap) := Rat.mul_nonneg (by grind) h1
    rcases h with h | h
    · grind
    · have gg := @sq gap
      have k := Rat.mul_le_mul_of_nonneg_left h2 gg
      have : (big - small - gap * gap) * (big - small - gap * gap) ≤ (2 * ((-gap) * (u + gap))) * (2 * ((-gap) * (u + gap))) := by grind
      have := sq_le (by grind) this
      grind
/-- an act's bound -/
def bp (q : Rat × Rat) : Rat × Rat := (q.1 + q.2, 4 * (q.1 * q.2))
theorem fold_under : ∀ (l : List (Rat × Rat)) (b : Option (Rat × Rat)), (∀ q ∈ l, 0 ≤ q.2) → (∀ q, b = some q → 0 ≤ q.1 * q.2) → ∀ q, (b = some q ∨ (q ∈ l ∧ q.2 < q.1)) → ∃ e, l.foldl GU.upB b = some e ∧ ∀ x, Under (bp q) x → Under (bp e) x
  | [], b, _, _, q, h => by
    rcases h with h | h
    · exact ⟨q, h, fun x hx => hx⟩
    · simp at h
  | a :: l, b, hl, hb, q, h => by
    have ha := hl a List.mem_cons_self
    have hn : ∀ q, GU.upB b a = some q → 0 ≤ q.1 * q.2 := by
      intro q hq
      unfold GU.upB at hq
      split at hq
      · rename_i c
        have : 0 ≤ a.1 * a.2 := Rat.mul_nonneg (by grind) ha
        split at hq
        · cases hq; exact this
        · split at hq
          · cases hq; exact this
          · cases hq; exact hb _ rfl
      · exact hb _ hq
    -- what q is after the step
    have step : (∃ q', GU.upB b a = some q' ∧ ∀ x, Under (bp q) x → Under (bp q') x) ∨ (q ∈ l ∧ q.2 < q.1) := by
      have mv : q = a → q.2 < q.1 → ∃ q', GU.upB b a = some q' ∧ ∀ x, Under (bp q) x → Under (bp q') x := by
        intro e c
        subst e
        cases b with
        | none => exact ⟨q, by simp [GU.upB, c], fun x hx => hx⟩
        | some p =>
          by_cases r : GU.rootU (4 * (q.1 * q.2)) (4 * (p.1 * p.2)) (q.1 + q.2 - (p.1 + p.2)) = true
          · exact ⟨q, by simp [GU.upB, c, r], fun x hx => hx⟩
          · refine ⟨p, by simp [GU.upB, c, r], fun x hx => ?_⟩
            have hp := hb p rfl
            refine root_f (small := 4 * (q.1 * q.2)) (gap := q.1 + q.2 - (p.1 + p.2)) (Bool.eq_false_iff.mpr r) (by grind) ?_
            have : p.1 + p.2 + (q.1 + q.2 - (p.1 + p.2)) = q.1 + q.2 := by grind
            rw [this]; exact hx
      rcases h with h | ⟨h, c⟩
      · left
        subst h
        by_cases c : a.2 < a.1
        · by_cases r : GU.rootU (4 * (a.1 * a.2)) (4 * (q.1 * q.2)) (a.1 + a.2 - (q.1 + q.2)) = true
          · refine ⟨a, by simp [GU.upB, c, r], fun x hx => ?_⟩
            have : 0 ≤ a.1 * a.2 := Rat.mul_nonneg (by grind) ha
            have z := root_t (one := q.1 + q.2) r (by grind) hx
            have e : q.1 + q.2 + (a.1 + a.2 - (q.1 + q.2)) = a.1 + a.2 := by grind
            rw [e] at z; exact z
          · exact ⟨q, by simp [GU.upB, c, r], fun x hx => hx⟩
        · exact ⟨q, by simp [GU.upB, c], fun x hx => hx⟩
      · rcases List.mem_cons.mp h with h | h
        · exact .inl (mv h c)
        · exact .inr ⟨h, c⟩
    rcases step with ⟨q', e, hq⟩ | h
    · obtain ⟨e', e2, he⟩ := fold_under l (GU.upB b a) (fun q hq => hl q (List.mem_cons_of_mem _ hq)) hn q' (.inl e)
      exact ⟨e', e2, fun x hx => he x (hq x hx)⟩
    · exact fold_under l (GU.upB b a) (fun q hq => hl q (List.mem_cons_of_mem _ hq)) hn q (.inr h)
/-- what is at most what an act can bring is under the bound -/
theorem val_under {y c t v : Rat} (hc : 0 ≤ c) (hct : c ≤ t) (ht : 0 < t) (hv : v * t ≤ (t - c) * (y - t)) : (c < y ∧ Under (bp (y, c)) v) ∨ v ≤ 0 := by
  by_cases h : c < y
  · left
    refine ⟨h, ?_⟩
    unfold Under bp
    dsimp only
    have hy : 0 ≤ c * y := Rat.mul_nonneg hc (by grind)
    have k : t * t + c * y ≤ t * (y + c - v) := by grind
    have tt := Rat.mul_pos ht ht
    have u0 : 0 ≤ y + c - v := by refine can ht ?_; grind
    refine ⟨u0, ?_⟩
    have k2 := sq_mono (by grind) k
    have k3 := @sq (t * t - c * y)
    refine can tt ?_
    grind
  · right
    have : 0 ≤ (t - c) * (t - y) := Rat.mul_nonneg (by grind) (by grind)
    refine can ht ?_
    grind
theorem under_mono {p : Rat × Rat} {x z : Rat} (h : Under p z) (hx : x ≤ z) : Under p x := by
  obtain ⟨h1, h2⟩ := h
  refine ⟨by grind, ?_⟩
  have := sq_mono h1 (show p.1 - z ≤ p.1 - x by grind)
  grind
theorem under_zero {q : Rat × Rat} (h : q.2 < q.1) (hc : 0 ≤ q.2) : Under (bp q) 0 := by
  unfold Under bp
  dsimp only
  refine ⟨by grind, ?_⟩
  have := @sq (q.1 - q.2)
  grind
end GA
end

section
set_option linter.all false
set_option autoImplicit false
set_option maxRecDepth 10000
set_option exponentiation.threshold 100000
set_option maxHeartbeats 4000000
namespace K30
open PySem IX
abbrev G : Str → Option P := fun x => pg.G.lookup x
def LL : Nat := 2 ^ 20000
theorem LL_big : 2 ^ 9000 < LL := Nat.pow_lt_pow_right (by decide) (by decide)
theorem LL_of {b : Nat} (h : b < 2 ^ 9000) : b < LL := Nat.lt_trans h LL_big
abbrev W (k : Nat) : Wd := evF tab G LL k
/-- the def f, with fuel k + 1 -/
theorem enter {k f : Nat} {ds : List D} {M : Mem} (fn : Fn) {Q : D × Mem → Prop} (h : tab f = some fn) (hl : ds.length = fn.np) (w : Wp (evSs (W k) G LL fn.body (entry fn ds) M) (Fin Q)) : Wp (W (k + 1) f ds M) Q := wp_fn fn h hl w

theorem gcd_whl {V : Wd} {N : Nat} {M : Mem} : ∀ (fuel b a : Nat), b < fuel →
    whl V G N (.tru (.v 1)) [.par [0, 1] [.v 1, .bin .mod (.v 0) (.v 1)]] fuel [some (.p (.int a)), some (.p (.int b))] M =
      some (.nx [some (.p (.int (Nat.gcd a b))), some (.p (.int 0))] M) := by
  intro fuel
  induction fuel with
  | zero => intro b a h; omega
  | succ fuel ih =>
    intro b a h
    rw [whl_step]
    by_cases hb : b = 0
    · subst hb
      simp
    · have hne : (b : Int) ≠ 0 := by omega
      simp [-Option.bind_some, ss_cons', hb]
      rw [fmod_nat, ih (a % b) b (by have := Nat.mod_lt a (Nat.pos_of_ne_zero hb); omega)]
      rw [Nat.gcd_comm b (a % b), ← Nat.gcd_rec, Nat.gcd_comm b a]
theorem p_common (k : Nat) (a b : Int) (hL : b.natAbs < 2 ^ 9000) (M : Mem) : Pure (W (k + 1)) n_common [.p (.int a), .p (.int b)] (.int (Nat.gcd a.natAbs b.natAbs)) M := by
  refine pure_of (cl_int _) (enter F_common rfl rfl ?_)
  have lp := gcd_whl (V := W k) (N := LL) (M := M) LL b.natAbs a.natAbs (LL_of hL)
  simp [-Option.bind_some, F_common, entry, abs_nat, lp]
theorem c_common (k : Nat) (a b : Int) (hL : b.natAbs < 2 ^ 9000) (M : Mem) : callX (W (k + 1)) n_common [.p (.int a), .p (.int b)] M = some (.p (.int (Nat.gcd a.natAbs b.natAbs)), M) := (p_common k a b hL M).call
theorem p_ratio (k : Nat) (n : Int) (d : Nat) (hd : 0 < d) (h1 : d < 2 ^ 9000) (M : Mem) : Pure (W (k + 2)) n_ratio [.p (.int n), .p (.int d)] (fr (mkRat n d)) M := by
  refine pure_of (fr_cl _) (enter F_ratio rfl rfl ?_)
  have hg : 0 < n.natAbs.gcd d := Nat.gcd_pos_of_pos_right _ hd
  have hg2 : n.natAbs.gcd d < 2 ^ 9000 := Nat.lt_of_le_of_lt (Nat.gcd_le_right _ hd) h1
  have c := c_common k n d h1 M
  rw [Int.natAbs_natCast] at c
  have hdo := divOk_of hg hg2
  have hn : ¬ ((d : Int) < 0) := by omega
  obtain ⟨e1, e2⟩ := num_eq n d (by omega)
  have f1 : n.fdiv ((n.natAbs.gcd d : Nat) : Int) = (mkRat n d).num := by rw [e1, Int.fdiv_eq_ediv_of_nonneg _ (by omega)]
  have f2 : (d : Int).fdiv ((n.natAbs.gcd d : Nat) : Int) = ((mkRat n d).den : Int) := by rw [e2, Int.fdiv_eq_ediv_of_nonneg _ (by omega)]; rfl
  simp [-Option.bind_some, F_ratio, entry, c, hn, hdo, f1, f2, fr, s2]
theorem c_ratio (k : Nat) (n : Int) {dI : Int} (d : Nat) (he : dI = (d : Int)) (hd : 0 < d) (h1 : d < 2 ^ 9000) (M : Mem) : callX (W (k + 2)) n_ratio [.p (.int n), .p (.int dI)] M = some (.p (fr (mkRat n d)), M) := by
  subst he; exact (p_ratio k n d hd h1 M).call
theorem c_ratio_bd (k : Nat) {m n : Nat} (q r : Rat) (t : Int) (h1 : Bd m q) (h2 : Bd n r) (hm : m ≤ 4000) (hn : n ≤ 4000) (M : Mem) : callX (W (k + 2)) n_ratio [.p (.int t), .p (.int ((q.den : Int) * r.den))] M = some (.p (fr (mkRat t (q.den * r.den))), M) :=
  c_ratio k t (q.den * r.den) (by simp) (Nat.mul_pos q.den_pos r.den_pos) (Nat.lt_of_lt_of_le (pw h1.2 h2.2) (Nat.pow_le_pow_right (by decide) (by omega))) M
theorem c_plus (k : Nat) {m n : Nat} {q r : Rat} (h1 : Bd m q) (h2 : Bd n r) (hm : m ≤ 4000) (hn : n ≤ 4000) (M : Mem) : callX (W (k + 3)) n_plus [.p (fr q), .p (fr r)] M = some (.p (fr (q + r)), M) := by
  refine (pure_of (fr_cl _) (enter F_plus rfl rfl ?_)).call
  have c := c_ratio_bd k q r (q.num * r.den + r.num * q.den) h1 h2 hm hn M
  rw [← Rat.add_def'] at c
  simp [-Option.bind_some, F_plus, entry, fr, mulOk_sm (h1.n hm) (h2.d hn), mulOk_sm (h2.n hn) (h1.d hm), mulOk_sm (h1.d hm) (h2.d hn)] at c ⊢
  simp [c]
theorem c_minus (k : Nat) {m n : Nat} {q r : Rat} (h1 : Bd m q) (h2 : Bd n r) (hm : m ≤ 4000) (hn : n ≤ 4000) (M : Mem) : callX (W (k + 3)) n_minus [.p (fr q), .p (fr r)] M = some (.p (fr (q - r)), M) := by
  refine (pure_of (fr_cl _) (enter F_minus rfl rfl ?_)).call
  have c := c_ratio_bd k q r (q.num * r.den - r.num * q.den) h1 h2 hm hn M
  rw [← Rat.sub_def'] at c
  simp [-Option.bind_some, F_minus, entry, fr, mulOk_sm (h1.n hm) (h2.d hn), mulOk_sm (h2.n hn) (h1.d hm), mulOk_sm (h1.d hm) (h2.d hn)] at c ⊢
  simp [c]
theorem c_times (k : Nat) {m n : Nat} {q r : Rat} (h1 : Bd m q) (h2 : Bd n r) (hm : m ≤ 4000) (hn : n ≤ 4000) (M : Mem) : callX (W (k + 3)) n_times [.p (fr q), .p (fr r)] M = some (.p (fr (q * r)), M) := by
  refine (pure_of (fr_cl _) (enter F_times rfl rfl ?_)).call
  have c := c_ratio_bd k q r (q.num * r.num) h1 h2 hm hn M
  rw [← Rat.mul_def'] at c
  simp [-Option.bind_some, F_times, entry, fr, mulOk_sm (h1.n hm) (h2.n hn), mulOk_sm (h1.d hm) (h2.d hn)] at c ⊢
  simp [c]
theorem c_less (k : Nat) {m n : Nat} {q r : Rat} (h1 : Bd m q) (h2 : Bd n r) (hm : m ≤ 4000) (hn : n ≤ 4000) (M : Mem) : callX (W (k + 1)) n_less [.p (fr q), .p (fr r)] M = some (.p (.bl (decide (q < r))), M) := by
  refine (pure_of (cl_bl _) (enter F_less rfl rfl ?_)).call
  simp [-Option.bind_some, F_less, entry, fr, mulOk_sm (h1.n hm) (h2.d hn), mulOk_sm (h2.n hn) (h1.d hm), lt_iff']
theorem c_atmost (k : Nat) {m n : Nat} {q r : Rat} (h1 : Bd m q) (h2 : Bd n r) (hm : m ≤ 4000) (hn : n ≤ 4000) (M : Mem) : callX (W (k + 1)) n_atmost [.p (fr q), .p (fr r)] M = some (.p (.bl (decide (q ≤ r))), M) := by
  refine (pure_of (cl_bl _) (enter F_atmost rfl rfl ?_)).call
  simp [-Option.bind_some, F_atmost, entry, fr, mulOk_sm (h1.n hm) (h2.d hn), mulOk_sm (h2.n hn) (h1.d hm), le_iff']
theorem c_alike (k : Nat) {m n : Nat} {q r : Rat} (h1 : Bd m q) (h2 : Bd n r) (hm : m ≤ 4000) (hn : n ≤ 4000) (M : Mem) : callX (W (k + 1)) n_alike [.p (fr q), .p (fr r)] M = some (.p (.bl (decide (q = r))), M) := by
  refine (pure_of (cl_bl _) (enter F_alike rfl rfl ?_)).call
  simp [-Option.bind_some, F_alike, entry, fr, mulOk_sm (h1.n hm) (h2.d hn), mulOk_sm (h2.n hn) (h1.d hm), eq_iff']
theorem c_greatest_of (k : Nat) {m : Nat} {d : D} (q : Rat) (l : List Rat) (hA : AllB m (q :: l)) (hm : m ≤ 4000) {M : Mem} (hd : Seq M d ((q :: l).map fr)) : callX (W (k + 2)) n_greatest_of [d] M = some (.p (fr (l.foldl (fun b x => if b < x then x else b) q)), M) := by
  refine (pure_of (fr_cl _) (enter F_greatest_of rfl rfl ?_)).call
  obtain ⟨s, e1, e2, e3⟩ := hd.src
  have i0 := at_nat (i := 0) hd.it (x := fr q) rfl
  simp [-Option.bind_some, F_greatest_of, entry, e1] at i0 ⊢
  simp only [i0, obs, putD_nm]
  simp [-Option.bind_some, e1, e2]
  rw [← List.map_cons (f := fr)]
  refine lop_wp fr (fun pre r ρ M' => M' = M ∧ AllB m r ∧ ∃ b z, Bd m b ∧ ρ = [some d, some (.p (fr b)), z] ∧ r.foldl (fun b x => if b < x then x else b) b = l.foldl (fun b x => if b < x then x else b) q) (q :: l) ⟨rfl, hA, q, none, hA q List.mem_cons_self, rfl, by simp [Rat.lt_irrefl]⟩ ?_ ?_
  · rintro pre x r ρ M' _ ⟨rfl, hr, b, z, hb, rfl, hf⟩
    have c := c_less k hb (hr x List.mem_cons_self) hm hm M'
    simp [c, e3]
    have hr' : AllB m r := fun y hy => hr y (List.mem_cons_of_mem _ hy)
    rw [List.foldl_cons] at hf
    exact ⟨fun h => ⟨hr', x, hr x List.mem_cons_self, rfl, by simpa [h] using hf⟩, fun h => ⟨hr', b, hb, rfl, by rw [if_neg h] at hf; exact hf⟩⟩
  · rintro ρ M' ⟨rfl, _, b, z, hb, rfl, hf⟩
    simp at hf ⊢
    rw [hf]
theorem c_bottom_of (k a : Nat) {d : D} (l : List Rat) (hA : AllB a l) (h : 1 + a * l.length ≤ 4000) {M : Mem} (hd : Seq M d (l.map fr)) : callX (W (k + 2)) n_bottom_of [d] M = some (.p (.int (bot l 1)), M) := by
  refine (pure_of (cl_int _) (enter F_bottom_of rfl rfl ?_)).call
  obtain ⟨s, e1, e2, e3⟩ := hd.src
  simp [-Option.bind_some, F_bottom_of, entry, e1, e2]
  refine lop_wp fr (fun pre r ρ M' => M' = M ∧ ∃ z, ρ = [some d, some (.p (.int (bot pre 1))), z]) l ⟨rfl, none, rfl⟩ ?_ ?_
  · rintro pre q r ρ M' hl ⟨rfl, z, rfl⟩
    have hq : Bd a q := hA q (by rw [hl]; simp)
    have hlen : pre.length + 1 ≤ l.length := by rw [hl]; simp
    have ha : 1 + a * (pre.length + 1) ≤ 4000 := Nat.le_trans (Nat.add_le_add_left (Nat.mul_le_mul_left a hlen) 1) h
    rw [Nat.mul_succ] at ha
    have hp : AllB a pre := fun y hy => hA y (by rw [hl]; simp [hy])
    have hb0 := bot_pos pre 1 (by decide)
    have hb : bot pre 1 < 2 ^ (1 + a * pre.length) := bot_lt pre 1 1 hp (by decide)
    have hd0 := q.den_pos
    have hne : ¬ (q.den = 0) := by omega
    have hqd : q.den < 2 ^ 4000 := big hq.2 (by omega)
    have cc := c_common k (bot pre 1 : Nat) (q.den : Int) (by rw [Int.natAbs_natCast]; exact Nat.lt_of_lt_of_le hqd (Nat.pow_le_pow_right (by decide) (by decide))) M'
    rw [Int.natAbs_natCast, Int.natAbs_natCast] at cc
    have hg : 0 < (bot pre 1).gcd q.den := Nat.gcd_pos_of_pos_left _ hb0
    have hdo : divOk (((bot pre 1).gcd q.den : Nat) : Int) = true := divOk_of hg (Nat.lt_of_le_of_lt (Nat.gcd_le_left _ hb0) (Nat.lt_of_lt_of_le (big hb (by omega)) (Nat.pow_le_pow_right (by decide) (by decide))))
    have hf0 : ((bot pre 1 : Nat) : Int).fdiv (((bot pre 1).gcd q.den : Nat) : Int) = ((bot pre 1 / (bot pre 1).gcd q.den : Nat) : Int) := by rw [Int.fdiv_eq_ediv_of_nonneg _ (by omega)]; simp
    have hmo : mulOk ((bot pre 1 / (bot pre 1).gcd q.den : Nat) : Int) (q.den : Int) = true := mulOk_of (by
      rw [Int.natAbs_natCast]
      exact Nat.lt_of_le_of_lt (Nat.div_le_self _ _) (big hb (by omega))) (by rw [Int.natAbs_natCast]; exact hqd)
    have hs := bot_snoc pre 1 q
    by_cases hz : bot pre 1 % q.den = 0
    · have i1 : (((bot pre 1 : Nat) : Int).fmod (q.den : Int) != 0) = false := by rw [fmod_nat, hz]; rfl
      rw [if_pos hz] at hs
      simp [-Option.bind_some, fr, hne, i1, e3, hs]
    · have i1 : (((bot pre 1 : Nat) : Int).fmod (q.den : Int) != 0) = true := by
        rw [fmod_nat]
        have : ((bot pre 1 % q.den : Nat) : Int) ≠ 0 := by omega
        simpa using this
      rw [if_neg hz] at hs
      simp [-Option.bind_some, -Int.natCast_ediv, fr, hne, i1, e3, hs, cc, hdo, hf0, hmo]
  · rintro ρ M' ⟨rfl, z, rfl⟩
    simp
theorem c_tops_over (k a B : Nat) {d : D} (l : List Rat) (hA : AllB a l) (ha : a ≤ 4000) (hB : B < 2 ^ 4000) (hl : l.length ≤ 4000) {M : Mem} (hd : Seq M d (l.map fr)) : callX (W (k + 1)) n_tops_over [d, .p (.int B)] M = some (.p (.tup (l.map fun q => .int (tp B q))), M) := by
  refine (pure_of (cl_tup fun _ _ => cl_int _) (enter F_tops_over rfl rfl ?_)).call
  obtain ⟨s, e1, e2, e3⟩ := hd.src
  simp [-Option.bind_some, F_tops_over, entry, e1, e2]
  rw [gturns_map fr (fun q => .int (tp B q)) l]
  · simp [len_ok hl]
  · intro q hq
    have b := hA q hq
    have hd : divOk (q.den : Int) = true := den_ok b ha
    have e : (B : Int).fdiv (q.den : Int) = ((B / q.den : Nat) : Int) := by
      rw [Int.fdiv_eq_ediv_of_nonneg _ (by omega)]; rfl
    have hm : mulOk q.num ((B / q.den : Nat) : Int) = true := mulOk_of (b.n ha) (by rw [Int.natAbs_natCast]; exact Nat.lt_of_le_of_lt (Nat.div_le_self _ _) hB)
    simp [-Option.bind_some, -Int.natCast_ediv, gnx, wipeE, fr, hd, e, hm, tp]
theorem c_wholes (k a : Nat) {d : D} (l : List Rat) (hA : AllB a l) (ha : a ≤ 4000) (h : 1 + a * l.length ≤ 4000) (hl : l.length ≤ 4000) {M : Mem} (hd : Seq M d (l.map fr)) : callX (W (k + 3)) n_wholes [d] M = some (.p (.tup [.tup (l.map fun q => .int (tp (bot l 1) q)), .int (bot l 1)]), M) := by
  refine (pure_of (fun n => ?_) (enter F_wholes rfl rfl ?_)).call
  · simp [cl_tup (g := fun q => P.int (tp (bot l 1) q)) (as := l) (fun _ _ => cl_int _) n, unds_map (fun q => P.int (tp (bot l 1) q)) n l fun _ _ => by simp]
  · have c1 := c_bottom_of k a l hA h hd
    have c2 := c_tops_over (k + 1) a (bot l 1) l hA ha (bot4 hA h) hl hd
    simp [-Option.bind_some, F_wholes, entry, c1, c2, s2]
theorem c_raw_dot (k a : Nat) {d1 d2 : D} (l r : List Rat) (h1 : AllB a l) (h2 : AllB a r) (h : 1 + a + a * l.length ≤ 4000) (h' : 1 + a + a * r.length ≤ 4000) (hl : l.length ≤ 4000) (hr : r.length ≤ 4000) {M : Mem} (hd1 : Seq M d1 (l.map fr)) (hd2 : Seq M d2 (r.map fr)) : callX (W (k + 4)) n_raw_dot [d1, d2] M = some (.p (.tup [.int (sumZ (bot l 1) (bot r 1) l r), .int (bot l 1 * bot r 1 : Nat)]), M) := by
  refine (pure_of (fun n => by simp) (enter F_raw_dot rfl rfl ?_)).call
  have c1 := c_wholes k a l h1 (by omega) (by omega) hl hd1
  have c2 := c_wholes k a r h2 (by omega) (by omega) hr hd2
  have hm : mulOk ((bot l 1 : Nat) : Int) ((bot r 1 : Nat) : Int) = true := mulOk_of (by rw [Int.natAbs_natCast]; exact bot4 h1 (by omega)) (by rw [Int.natAbs_natCast]; exact bot4 h2 (by omega))
  have zz := zipP_map (fun q : Rat => P.int (tp (bot l 1) q)) (fun q : Rat => P.int (tp (bot r 1) q)) l r
  simp [-Option.bind_some, F_raw_dot, entry, c1, c2, zz]
  rw [gturns_map (fun q : Rat × Rat => .tup [.int (tp (bot l 1) q.1), .int (tp (bot r 1) q.2)]) (fun q => .int (tp (bot l 1) q.1 * tp (bot r 1) q.2)) (l.zip r)]
  · have ii := intsP_map (fun q : Rat × Rat => tp (bot l 1) q.1 * tp (bot r 1) q.2) (l.zip r)
    simp only [obs, ii]
    have sl : min l.length r.length + 1 < sizeLine := len_ok (by omega)
    simp [sl, hm, s2, sumZ]
  · intro q hq
    have m1 : q.1 ∈ l := (List.of_mem_zip (a := q.1) (b := q.2) hq).1
    have m2 : q.2 ∈ r := (List.of_mem_zip (a := q.1) (b := q.2) hq).2
    have hm : mulOk (tp (bot l 1) q.1) (tp (bot r 1) q.2) = true := mulOk_of (tp_lt (h1 _ m1) (bot_lt l 1 1 h1 (by decide)) (by omega)) (tp_lt (h2 _ m2) (bot_lt r 1 1 h2 (by decide)) (by omega))
    simp [-Option.bind_some, gnx, wipeE, hm]
theorem c_dot (k a : Nat) {d1 d2 : D} (l r : List Rat) (h1 : AllB a l) (h2 : AllB a r) (h : 1 + a + a * l.length ≤ 4000) (h' : 1 + a + a * r.length ≤ 4000) (hl : l.length ≤ 4000) (hr : r.length ≤ 4000) {M : Mem} (hd1 : Seq M d1 (l.map fr)) (hd2 : Seq M d2 (r.map fr)) : callX (W (k + 5)) n_dot [d1, d2] M = some (.p (fr (dot l r)), M) := by
  refine (pure_of (fr_cl _) (enter F_dot rfl rfl ?_)).call
  have c1 := c_raw_dot k a l r h1 h2 h h' hl hr hd1 hd2
  have hp : 0 < bot l 1 * bot r 1 := Nat.mul_pos (bot_pos _ _ (by decide)) (bot_pos _ _ (by decide))
  have hb : bot l 1 * bot r 1 < 2 ^ 9000 := Nat.lt_of_lt_of_le (pw (bot4 h1 (by omega)) (bot4 h2 (by omega))) (Nat.pow_le_pow_right (by decide) (by decide))
  have c2 := c_ratio (k + 2) (sumZ (bot l 1) (bot r 1) l r) (bot l 1 * bot r 1 : Nat) rfl hp hb M
  rw [mk_of hp (by rw [sumZ_eq l r (bot_mem l 1) (bot_mem r 1), Rat.natCast_mul])] at c2
  rw [Int.natCast_mul] at c2
  simp [-Option.bind_some, F_dot, entry, c1, c2]

end K30
end

section
set_option linter.all false
set_option autoImplicit false
set_option maxRecDepth 10000
set_option exponentiation.threshold 100000
set_option maxHeartbeats 4000000
namespace K30
open PySem IX
/-- the draws' state: list i, its cells list j -/
def Flow (i j : Nat) (M : Mem) : Prop := i ≠ j ∧ ∃ (a b d : Int) (c : Nat) (cs : List Int), M[i]? = some [.int a, .int b, .int c, .int d, .ref j] ∧ M[j]? = some (cs.map .int) ∧ cs.length ≤ 63
theorem Flow.lt {i j : Nat} {M : Mem} (h : Flow i j M) : i < M.length ∧ j < M.length := by
  obtain ⟨_, a, b, d, c, cs, h1, h2, _⟩ := h
  exact ⟨get_lt h1, get_lt h2⟩
theorem Flow.kp {i j n : Nat} {M M' : Mem} (h : Flow i j M) (k : Chg n M M') (h1 : n ≠ i) (h2 : n ≠ j) : Flow i j M' := by
  obtain ⟨hij, a, b, d, c, cs, e1, e2, hl⟩ := h
  exact ⟨hij, a, b, d, c, cs, k.at h1.symm e1, k.at h2.symm e2, hl⟩
theorem Flow.app {i j : Nat} {M : Mem} (h : Flow i j M) (X : Mem) : Flow i j (M ++ X) := by
  obtain ⟨hij, a, b, d, c, cs, e1, e2, hl⟩ := h
  exact ⟨hij, a, b, d, c, cs, get_app e1, get_app e2, hl⟩
theorem Flow.set {i j n : Nat} {M M0 : Mem} (h : Flow i j M) (h0 : Flow i j M0) (hn : M0.length ≤ n) (xs : List P) : Flow i j (M.set n xs) :=
  h.kp (Chg.set n M xs) (by have := h0.lt.1; omega) (by have := h0.lt.2; omega)
theorem Flow.take {i j n : Nat} {M : Mem} (h : Flow i j M) (h1 : i < n) (h2 : j < n) : Flow i j (M.take n) := by
  obtain ⟨hij, a, b, d, c, cs, e1, e2, hl⟩ := h
  exact ⟨hij, a, b, d, c, cs, by rw [List.getElem?_take, if_pos h1]; exact e1, by rw [List.getElem?_take, if_pos h2]; exact e2, hl⟩
/-- a call that draws: a datum of which R holds -/
def Dr (V : Wd) (i j : Nat) (M : Mem) (f : Nat) (as : List D) (R : P → Prop) : Prop := Wp (callX V f as M) fun r => ∃ x, r.1 = .p x ∧ R x ∧ Flow i j r.2 ∧ Chg i M r.2
theorem Dr.use {V : Wd} {i j : Nat} {M : Mem} {f : Nat} {as : List D} {R : P → Prop} {B : Type} {g : D × Mem → Option B} {Q : B → Prop} (h : Dr V i j M f as R) (k : ∀ x M', R x → Flow i j M' → Chg i M M' → Wp (g (.p x, M')) Q) : Wp ((callX V f as M).bind g) Q :=
  h.bind fun ⟨d, M'⟩ ⟨x, e, r, fl, c⟩ => by
    dsimp only at e fl c
    subst e
    exact k x M' r fl c
theorem dr_of {V : Wd} {i j : Nat} {M : Mem} {f : Nat} {as : List D} {R : P → Prop} (hf : Flow i j M) (w : Wp (V f as M) fun r => ∃ x, r.1 = .p x ∧ x.cl ∧ R x ∧ Flow i j r.2 ∧ Kp i M r.2) : Dr V i j M f as R := by
  obtain ⟨⟨d, M'⟩, e, x, rfl, hc, hr, fl, kp⟩ := w
  refine ⟨(.p x, M'.take M.length), ?_, x, rfl, hr, fl.take hf.lt.1 hf.lt.2, take_chg kp⟩
  unfold callX
  rw [e]
  have hj := hf.lt.2
  obtain ⟨_, a, b, d, c, cs, e1, _⟩ := fl
  exact congrArg some (back_kp (d := .p x) (hc _) kp e1 (by simp [P.und, hj]))
theorem d_draw (k : Nat) {i j : Nat} {M : Mem} (hf : Flow i j M) (m : Nat) (hm : 0 < m) (hm2 : m < 2 ^ 9000) : Dr (W (k + 1)) i j M n__law_draw [.p (.ref i), .p (.int m)] fun x => ∃ d : Nat, x = .int d ∧ d < m := by
  refine dr_of hf (enter F__law_draw rfl rfl ?_)
  obtain ⟨hij, a, b, d, c, cs, e1, e2, hl⟩ := hf
  have gs : ∀ ys : List P, (M.set i ys)[i]? = some ys := fun ys => get_set e1
  have gj : ∀ ys : List P, (M.set i ys)[j]? = some (cs.map .int) := fun ys => get_set_ne e2 hij
  have dm : divOk (m : Int) = true := divOk_of hm hm2
  have m0 : ¬ m = 0 := by omega
  have q : ∀ x : Int, ∃ d : Nat, x.fmod m = d ∧ d < m := fun x => ⟨(x.fmod m).toNat, by have := Int.fmod_nonneg_of_pos x (b := m) (by omega); omega, by have := Int.fmod_lt_of_pos x (b := m) (by omega); have := Int.fmod_nonneg_of_pos x (b := m) (by omega); omega⟩
  have fin : ∀ (x : Int) (a b d : Int) (c : Nat), (P.int (x.fmod m)).cl ∧ (∃ d : Nat, x.fmod m = d ∧ d < m) ∧ Flow i j (M.set i [.int a, .int b, .int c, .int d, .ref j]) ∧ Kp i M (M.set i [.int a, .int b, .int c, .int d, .ref j]) := fun x a b d c =>
    ⟨cl_int _, q x, ⟨hij, a, b, d, c, cs, gs _, gj _, hl⟩, (Chg.set i M _).kp⟩
  have mb : ∀ (x y : Int), mulOk x (if 0 < y then 1 else 0) = true := fun x y => mulOk_r (by split <;> decide) (by split <;> decide)
  have m1 : ∀ x : Int, mulOk x 48271 = true := fun x => mulOk_r (by decide) (by decide)
  have m2 : ∀ x : Int, mulOk x 69621 = true := fun x => mulOk_r (by decide) (by decide)
  have m3 : ∀ x : Int, mulOk x 40692 = true := fun x => mulOk_r (by decide) (by decide)
  have fb : ∀ (x k : Int), 0 < k → k < 2 ^ 64 → ∀ y, mulOk (x.fmod k) y = true := fun x k h1 h2 y => mulOk_l (by have := Int.fmod_nonneg_of_pos x h1; omega) (by have := Int.fmod_lt_of_pos x h1; omega)
  have f1 : ∀ (x y : Int), mulOk (x.fmod 2147483647) y = true := fun x => fb x _ (by decide) (by decide)
  have f2 : ∀ (x y : Int), mulOk (x.fmod 2147483399) y = true := fun x => fb x _ (by decide) (by decide)
  have ic : ∀ (c : Nat) (z : Int), cs[c]? = some z → atx (cs.map .int) (c : Int) = some (.int z) := fun c z h => atx_nat (by rw [List.getElem?_map, h]; rfl)
  by_cases hg : b = 0 ∧ c < cs.length ∧ ∀ z, cs[c]? = some z → 1000000000000000000 ≤ z
  · obtain ⟨hb, hc, hz⟩ := hg
    have hcz := List.getElem?_eq_getElem hc
    have hz := hz _ hcz
    generalize cs[c] = z at hcz hz
    have ix := ic c z hcz
    simp [-Option.bind_some, F__law_draw, entry, e1, e2, gs, gj, hb, hc, ix, hz, dm, m0, mb]
    exact fin _ _ _ _ (c + 1)
  · by_cases hb : 0 < b
    · have hb0 : ¬ b = 0 := by omega
      simp [-Option.bind_some, F__law_draw, entry, e1, e2, gs, gj, hb, hb0, dm, m0, mb]
      exact fin _ _ _ _ c
    · have nn : ¬ ((c : Int) < 0) := by omega
      by_cases h0 : cs = []
      · subst h0
        by_cases hb0 : b = 0
        · simp [-Option.bind_some, F__law_draw, entry, e1, e2, gs, gj, hb0, nn, m0, m1, m2, m3, f1, f2]
          exact fin _ _ _ _ c
        · simp [-Option.bind_some, F__law_draw, entry, e1, e2, gs, gj, hb, hb0, m0, m1, m2, m3, f1, f2]
          exact fin _ _ _ _ c
      · have hp : 0 < cs.length := List.length_pos_iff.mpr h0
        obtain ⟨y, hy⟩ : ∃ y, cs[c % cs.length]? = some y := ⟨_, List.getElem?_eq_getElem (Nat.mod_lt _ hp)⟩
        have iy := ic _ y hy
        rw [← fmod_nat] at iy
        by_cases hb0 : b = 0
        · by_cases hc : c < cs.length
          · have hcz := List.getElem?_eq_getElem hc
            have hz : cs[c] < 1000000000000000000 := by
              refine Int.not_le.mp fun z => hg ⟨hb0, hc, fun w hw => ?_⟩
              rw [hcz] at hw; cases hw; exact z
            generalize cs[c] = z at hcz hz
            have ix := ic c z hcz
            have hz' : ¬ (1000000000000000000 ≤ z) := by omega
            simp [-Option.bind_some, F__law_draw, entry, e1, e2, gs, gj, hb0, hc, ix, hz', h0, hp, iy, m0, m1, m2, m3, f1, f2]
            exact fin _ _ _ _ (c + 1)
          · simp [-Option.bind_some, F__law_draw, entry, e1, e2, gs, gj, hb0, hc, h0, hp, iy, m0, m1, m2, m3, f1, f2]
            exact fin _ _ _ _ (c + 1)
        · simp [-Option.bind_some, F__law_draw, entry, e1, e2, gs, gj, hb, hb0, h0, hp, iy, m0, m1, m2, m3, f1, f2]
          exact fin _ _ _ _ (c + 1)

end K30
end

section
set_option linter.all false
set_option autoImplicit false
set_option maxRecDepth 10000
set_option exponentiation.threshold 100000
set_option maxHeartbeats 4000000
namespace K30
open PySem IX
theorem d_pick (k : Nat) {i j : Nat} {M : Mem} (hf : Flow i j M) {d : D} {xs : List P} (hd : ∀ M', Chg i M M' → items M' d = some xs) (h0 : 0 < xs.length) (h1 : xs.length < 2 ^ 9000) (hc : ∀ x ∈ xs, x.cl) : Dr (W (k + 2)) i j M n__law_pick [.p (.ref i), d] fun x => x ∈ xs := by
  refine dr_of hf (enter F__law_pick rfl rfl ?_)
  simp [-Option.bind_some, F__law_pick, entry, hd M (Chg.refl i M)]
  refine (d_draw k hf xs.length h0 h1).use fun x M' hx hf' hc' => ?_
  obtain ⟨n, rfl, hn⟩ := hx
  have ix := at_nat (hd M' hc') (List.getElem?_eq_getElem hn)
  simp [-Option.bind_some, ix]
  exact ⟨hc _ (List.getElem_mem hn), hf', hc'.kp⟩
theorem c_lfrac (k : Nat) (n : Int) {dI : Int} (d : Nat) (he : dI = (d : Int)) (hd : 0 < d) (h1 : d < 2 ^ 9000) (M : Mem) : callX (W (k + 1)) n__law_frac [.p (.int n), .p (.int dI)] M = some (.p (fr (mkRat n d)), M) := by
  subst he
  refine (pure_of (fr_cl _) (enter F__law_frac rfl rfl ?_)).call
  have hg : 0 < n.natAbs.gcd d := Nat.gcd_pos_of_pos_right _ hd
  have hg2 : n.natAbs.gcd d < 2 ^ 9000 := Nat.lt_of_le_of_lt (Nat.gcd_le_right _ hd) h1
  have hdo := divOk_of hg hg2
  obtain ⟨e1, e2⟩ := num_eq n d (by omega)
  have f1 : n.fdiv ((n.natAbs.gcd d : Nat) : Int) = (mkRat n d).num := by rw [e1, Int.fdiv_eq_ediv_of_nonneg _ (by omega)]
  have f2 : (d : Int).fdiv ((n.natAbs.gcd d : Nat) : Int) = ((mkRat n d).den : Int) := by rw [e2, Int.fdiv_eq_ediv_of_nonneg _ (by omega)]; rfl
  have na : ¬ ((d : Int) < 0) := by omega
  simp [-Option.bind_some, F__law_frac, entry, abs_nat, src_rng1 (n := 99999) (M := M) (by decide)]
  refine gcd_wp (fun a b ρ => ∃ z, ρ = [some (.p (.int n)), some (.p (.int d)), some (.p (.int a)), some (.p (.int b)), z]) (m := 9000) (a := n.natAbs) (c := d) (by simp [rangeP_map]) h1 ⟨_, rfl⟩ rfl
    (by rintro x a ρ ⟨z, rfl⟩; exact ⟨_, rfl, _, rfl⟩) ?_ ?_
  · rintro x a c ρ hc ⟨z, rfl⟩
    have h0 : ¬ (c = 0) := by omega
    refine ⟨[some (.p (.int n)), some (.p (.int d)), some (.p (.int c)), some (.p (.int (a % c : Nat))), some (.p x)], ?_, _, rfl⟩
    simp [-Option.bind_some, ss_cons', h0, fmod_nat]
  · rintro ρ' ⟨z, rfl⟩
    simp [-Option.bind_some, hd, hdo, f1, f2, fr, s2]
theorem c_lfrac_bd (k : Nat) {m n : Nat} (q r : Rat) (t : Int) (h1 : Bd m q) (h2 : Bd n r) (hm : m ≤ 4000) (hn : n ≤ 4000) (M : Mem) : callX (W (k + 1)) n__law_frac [.p (.int t), .p (.int ((q.den : Int) * r.den))] M = some (.p (fr (mkRat t (q.den * r.den))), M) :=
  c_lfrac k t (q.den * r.den) (by simp) (Nat.mul_pos q.den_pos r.den_pos) (Nat.lt_of_lt_of_le (pw h1.2 h2.2) (Nat.pow_le_pow_right (by decide) (by omega))) M
theorem c_lplus (k : Nat) {m n : Nat} {q r : Rat} (h1 : Bd m q) (h2 : Bd n r) (hm : m ≤ 4000) (hn : n ≤ 4000) (M : Mem) : callX (W (k + 2)) n__law_plus [.p (fr q), .p (fr r)] M = some (.p (fr (q + r)), M) := by
  refine (pure_of (fr_cl _) (enter F__law_plus rfl rfl ?_)).call
  have c := c_lfrac_bd k q r (q.num * r.den + r.num * q.den) h1 h2 hm hn M
  rw [← Rat.add_def'] at c
  simp [-Option.bind_some, F__law_plus, entry, fr, mulOk_sm (h1.n hm) (h2.d hn), mulOk_sm (h2.n hn) (h1.d hm), mulOk_sm (h1.d hm) (h2.d hn)] at c ⊢
  simp [c]
theorem c_lminus (k : Nat) {m n : Nat} {q r : Rat} (h1 : Bd m q) (h2 : Bd n r) (hm : m ≤ 4000) (hn : n ≤ 4000) (M : Mem) : callX (W (k + 2)) n__law_minus [.p (fr q), .p (fr r)] M = some (.p (fr (q - r)), M) := by
  refine (pure_of (fr_cl _) (enter F__law_minus rfl rfl ?_)).call
  have c := c_lfrac_bd k q r (q.num * r.den - r.num * q.den) h1 h2 hm hn M
  rw [← Rat.sub_def'] at c
  simp [-Option.bind_some, F__law_minus, entry, fr, mulOk_sm (h1.n hm) (h2.d hn), mulOk_sm (h2.n hn) (h1.d hm), mulOk_sm (h1.d hm) (h2.d hn)] at c ⊢
  simp [c]
theorem c_ltimes (k : Nat) {m n : Nat} {q r : Rat} (h1 : Bd m q) (h2 : Bd n r) (hm : m ≤ 4000) (hn : n ≤ 4000) (M : Mem) : callX (W (k + 2)) n__law_times [.p (fr q), .p (fr r)] M = some (.p (fr (q * r)), M) := by
  refine (pure_of (fr_cl _) (enter F__law_times rfl rfl ?_)).call
  have c := c_lfrac_bd k q r (q.num * r.num) h1 h2 hm hn M
  rw [← Rat.mul_def'] at c
  simp [-Option.bind_some, F__law_times, entry, fr, mulOk_sm (h1.n hm) (h2.n hn), mulOk_sm (h1.d hm) (h2.d hn)] at c ⊢
  simp [c]
/-- times one over: (bottom, top) -/
theorem c_lover (k : Nat) {m n : Nat} {q r : Rat} (h1 : Bd m q) (h2 : Bd n r) (hm : m ≤ 4000) (hn : n ≤ 4000) (hr : 0 < r) (M : Mem) : callX (W (k + 2)) n__law_times [.p (fr q), .p (.tup [.int r.den, .int r.num])] M = some (.p (fr (q / r)), M) := by
  refine (pure_of (fr_cl _) (enter F__law_times rfl rfl ?_)).call
  have hr0 : 0 < r.num := by
    have := (Rat.lt_iff 0 r).mp hr
    simpa using this
  have hn' : r.num = (r.num.natAbs : Int) := by omega
  have c := c_lfrac k (q.num * r.den) (dI := (q.den : Int) * r.num) (q.den * r.num.natAbs) (by rw [Int.natCast_mul, ← hn']) (Nat.mul_pos q.den_pos (by omega)) (Nat.lt_of_lt_of_le (pw h1.2 h2.1) (Nat.pow_le_pow_right (by decide) (by omega))) M
  have e : mkRat (q.num * r.den) (q.den * r.num.natAbs) = q / r := by
    rw [Rat.div_def, Rat.mul_def', Rat.num_inv, Rat.den_inv, if_neg (by omega), Int.sign_eq_one_of_pos hr0, Int.one_mul]
  rw [e] at c
  simp [-Option.bind_some, F__law_times, entry, fr, mulOk_sm (h1.n hm) (h2.d hn), mulOk_sm (h1.d hm) (h2.n hn)] at c ⊢
  simp [c]
theorem c_lless (k : Nat) {m n : Nat} {q r : Rat} (h1 : Bd m q) (h2 : Bd n r) (hm : m ≤ 4000) (hn : n ≤ 4000) (M : Mem) : callX (W (k + 1)) n__law_less [.p (fr q), .p (fr r)] M = some (.p (.bl (decide (q < r))), M) := by
  refine (pure_of (cl_bl _) (enter F__law_less rfl rfl ?_)).call
  simp [-Option.bind_some, F__law_less, entry, fr, mulOk_sm (h1.n hm) (h2.d hn), mulOk_sm (h2.n hn) (h1.d hm), lt_iff']
theorem c_lgreatest (k : Nat) {m : Nat} {d : D} (q : Rat) (l : List Rat) (hA : AllB m (q :: l)) (hm : m ≤ 4000) {M : Mem} (hd : Seq M d ((q :: l).map fr)) : callX (W (k + 2)) n__law_greatest [d] M = some (.p (fr (l.foldl (fun b x => if b < x then x else b) q)), M) := by
  refine (pure_of (fr_cl _) (enter F__law_greatest rfl rfl ?_)).call
  obtain ⟨s, e1, e2, e3⟩ := hd.src
  have i0 := at_nat (i := 0) hd.it (x := fr q) rfl
  simp [-Option.bind_some, F__law_greatest, entry, e1] at i0 ⊢
  simp only [i0, obs, putD_nm]
  simp [-Option.bind_some, e1, e2]
  rw [← List.map_cons (f := fr)]
  refine lop_wp fr (fun pre r ρ M' => M' = M ∧ AllB m r ∧ ∃ b z, Bd m b ∧ ρ = [some d, some (.p (fr b)), z] ∧ r.foldl (fun b x => if b < x then x else b) b = l.foldl (fun b x => if b < x then x else b) q) (q :: l) ⟨rfl, hA, q, none, hA q List.mem_cons_self, rfl, by simp [Rat.lt_irrefl]⟩ ?_ ?_
  · rintro pre x r ρ M' _ ⟨rfl, hr, b, z, hb, rfl, hf⟩
    have c := c_lless k hb (hr x List.mem_cons_self) hm hm M'
    simp [c, e3]
    have hr' : AllB m r := fun y hy => hr y (List.mem_cons_of_mem _ hy)
    rw [List.foldl_cons] at hf
    exact ⟨fun h => ⟨hr', x, hr x List.mem_cons_self, rfl, by simpa [h] using hf⟩, fun h => ⟨hr', b, hb, rfl, by rw [if_neg h] at hf; exact hf⟩⟩
  · rintro ρ M' ⟨rfl, _, b, z, hb, rfl, hf⟩
    simp at hf ⊢
    rw [hf]
theorem c_ltotal (k : Nat) {m : Nat} {d : D} (l : List Rat) (hA : AllB m l) (hm : (m + 1) * l.length + 1 ≤ 4000) (hm' : m ≤ 4000) {M : Mem} (hd : Seq M d (l.map fr)) : callX (W (k + 3)) n__law_total [d] M = some (.p (fr l.sum), M) := by
  refine (pure_of (fr_cl _) (enter F__law_total rfl rfl ?_)).call
  obtain ⟨s, e1, e2, e3⟩ := hd.src
  simp [-Option.bind_some, F__law_total, entry, e1, e2, s2]
  refine lop_wp fr (fun pre r ρ M' => M' = M ∧ ∃ z, ρ = [some d, some (.p (fr pre.sum)), z]) l ⟨rfl, none, rfl⟩ ?_ ?_
  · rintro pre x r ρ M' hl ⟨rfl, z, rfl⟩
    have hx : Bd m x := hA x (by rw [hl]; simp)
    have hp : AllB m pre := fun y hy => hA y (by rw [hl]; simp [hy])
    have hlen : pre.length ≤ l.length := by rw [hl]; simp
    have hs := (Bd.sum hp).mono (Nat.add_le_add_right (Nat.mul_le_mul_left (m + 1) hlen) 1)
    have c := c_lplus k hs hx hm hm' M'
    simp [c, e3, Rat.add_zero]
  · rintro ρ M' ⟨rfl, z, rfl⟩
    simp
theorem c_lmean (k : Nat) {m : Nat} {d1 d2 : D} (l r : List Rat) (h1 : AllB m l) (h2 : AllB m r) (hlr : l.length = r.length) (hm : (2 * m + 1) * l.length + 1 ≤ 4000) (hm' : 2 * m ≤ 4000) {M : Mem} (hd1 : items M d1 = some (l.map fr)) (hd2 : items M d2 = some (r.map fr)) : callX (W (k + 4)) n__law_mean [d1, d2] M = some (.p (fr (dot l r)), M) := by
  refine (pure_of (fr_cl _) (enter F__law_mean rfl rfl ?_)).call
  have hll : l.length ≤ 4000 := Nat.le_trans (Nat.le_trans (Nat.le_mul_of_pos_left _ (by omega)) (Nat.le_add_right _ 1)) hm
  have sm : small (l.length : Int) = true := by unfold small; simp; omega
  have hb : AllB (2 * m) ((l.zip r).map fun q => q.1 * q.2) := by
    intro x hx
    obtain ⟨q, hq, rfl⟩ := List.mem_map.mp hx
    exact ((h1 _ (List.of_mem_zip (a := q.1) (b := q.2) hq).1).mul (h2 _ (List.of_mem_zip (a := q.1) (b := q.2) hq).2)).mono (by omega)
  have hzl : ((l.zip r).map fun q => q.1 * q.2).length = l.length := by simp [hlr]
  have ct : ∀ (M : Mem), M[M.length - 1]? = some (((l.zip r).map fun q => q.1 * q.2).map fr) → callX (W (k + 3)) n__law_total [.p (.ref (M.length - 1))] M = some (.p (fr (dot l r)), M) := fun M h =>
    c_ltotal k ((l.zip r).map fun q => q.1 * q.2) hb (by rw [hzl]; exact hm) hm' (Seq.ref h)
  have cm : ∀ x, x < l.length → callX (W (k + 3)) n__law_times [.p (fr (l[x]?.getD 0)), .p (fr (r[x]?.getD 0))] M = some (.p (fr (l[x]?.getD 0 * r[x]?.getD 0)), M) := fun x hx => by
    have hx2 : x < r.length := by omega
    exact c_ltimes (k + 1) (h1 _ (by simp [hx])) (h2 _ (by simp [hx2])) (by omega) (by omega) M
  generalize W (k + 3) = V at ct cm ⊢
  simp [-Option.bind_some, F__law_mean, entry, hd1, src_rng1 sm, rangeP_map]
  rw [lcs_map (fun x : Nat => P.int (x : Int)) (fun x => fr ((l[x]?.getD 0) * (r[x]?.getD 0))) rfl (List.range l.length)]
  · have e : (List.range l.length).map (fun x => fr ((l[x]?.getD 0) * (r[x]?.getD 0))) = ((l.zip r).map fun q => q.1 * q.2).map fr := by
      apply List.ext_getElem
      · simp [hlr]
      · intro n g1 g2
        have g3 : n < l.length := by simpa using g1
        have g4 : n < r.length := by omega
        simp [g3, g4]
    have c := ct (M ++ [((l.zip r).map fun q => q.1 * q.2).map fr]) (by simp)
    simp only [List.length_append, List.length_singleton, Nat.add_sub_cancel] at c
    rw [obs, newl_ok (by simp [szl]; omega), e]
    simp only [obs]
    rw [c]
    simp
  · intro x hx
    have hx : x < l.length := List.mem_range.mp hx
    have hx2 : x < r.length := by omega
    have i1 := at_nat (M := M) hd1 (x := fr (l[x]?.getD 0)) (i := x) (by simp [hx])
    have i2 := at_nat (M := M) hd2 (x := fr (r[x]?.getD 0)) (i := x) (by simp [hx2])
    simp [-Option.bind_some, lcx, wipeE, i1, i2, cm x hx]

end K30
end

section
set_option linter.all false
set_option autoImplicit false
set_option maxRecDepth 10000
set_option exponentiation.threshold 100000
set_option maxHeartbeats 4000000
namespace K30
open PySem IX
theorem d_shuffled (k : Nat) {i j : Nat} {M : Mem} (hf : Flow i j M) {d : D} {xs : List P} (hd : items M d = some xs) (h1 : xs.length ≤ 4000) : Wp (W (k + 2) n__law_shuffled [.p (.ref i), d] M) fun r => ∃ n ys, r.1 = .p (.ref n) ∧ r.2[n]? = some ys ∧ ys.Perm xs ∧ M.length ≤ n ∧ Flow i j r.2 ∧ Kp i M r.2 := by
  refine enter F__law_shuffled rfl rfl ?_
  have hi := hf.lt.1
  have hj := hf.lt.2
  have sm : small (xs.length : Int) = true := by unfold small; simp; omega
  have nl : newl xs M = some (.p (.ref M.length), M ++ [xs]) := newl_ok (len_le h1)
  have nl2 : newl [] (M ++ [xs]) = some (.p (.ref (M.length + 1)), M ++ [xs] ++ [[]]) := by
    rw [newl_ok (by simp)]; simp
  have i0 : items (M ++ [xs, []]) d = some xs := items_app hd _
  have dd : ∀ (M : Mem) (m : Nat), Flow i j M → 0 < m → m ≤ 4000 → Dr (W (k + 1)) i j M n__law_draw [.p (.ref i), .p (.int m)] fun x => ∃ d : Nat, x = .int d ∧ d < m := fun M m hf h0 h1 => d_draw k hf m h0 (Nat.lt_of_le_of_lt h1 (Nat.lt_of_lt_of_le (by decide : 4000 < 2 ^ 12) (Nat.pow_le_pow_right (by decide) (by decide))))
  generalize W (k + 1) = V at dd ⊢
  simp [-Option.bind_some, F__law_shuffled, entry, hd, nl, nl2, i0, src_rng1 sm, rangeP_map]
  refine lop_wp (fun x : Nat => P.int (x : Int)) (fun pre r ρ M' => Flow i j M' ∧ Kp i M M' ∧ ∃ left made z, ρ = [some (.p (.ref i)), some d, some (.p (.ref M.length)), some (.p (.ref (M.length + 1))), z] ∧ M'[M.length]? = some left ∧ M'[M.length + 1]? = some made ∧ left.length = r.length ∧ (made ++ left).Perm xs) (List.range xs.length)
    ⟨(hf.app _), Kp.app i M _, xs, [], none, rfl, get_e0 _ _ _, get_e1 _ _ _ _, by simp, by simp⟩ ?_ ?_
  · rintro pre a r ρ M' hl ⟨fl, kp, left, made, z, rfl, e1, e2, h2, h3⟩
    have hlen : left.length ≤ 4000 := by
      have := h3.length_eq
      simp at this
      omega
    simp [-Option.bind_some, e1]
    refine (dd M' left.length fl (by rw [h2]; simp) hlen).use fun x M2 hx fl2 c2 => ?_
    obtain ⟨n, rfl, hn⟩ := hx
    have e1' := c2.at (by omega) e1
    have e2' := c2.at (by omega) e2
    have po := popi_nat (M := M2) (List.getElem?_eq_getElem hn) (by omega)
    have e3 := get_set_ne (ys := left.eraseIdx n) e2' (show M.length ≠ M.length + 1 by omega)
    have ml : made.length < sizeLine := by
      have := h3.length_eq
      simp at this
      rw [szl]; omega
    simp [-Option.bind_some, -mt_popi', e1', e2', po, ml]
    have g1 : Kp i M ((M2.set M.length (left.eraseIdx n)).set (M.length + 1) (made ++ [left[n]])) := ((kp.chg c2).set (Nat.le_refl _) _).set (by omega) _
    refine ⟨(fl2.set hf (Nat.le_refl _) _).set hf (by omega) _, g1, left.eraseIdx n, by simp [List.getElem?_set, get_lt e1'], made ++ [left[n]], by simp [List.getElem?_set, get_lt e2'], ?_, ?_⟩
    · rw [List.length_eraseIdx_of_lt hn, h2]; simp
    · refine List.Perm.trans ?_ h3
      rw [List.append_assoc]
      refine List.Perm.append_left made ?_
      exact perm_erase left n _ (List.getElem?_eq_getElem hn)
  · rintro ρ M' ⟨fl, kp, left, made, z, rfl, e1, e2, h2, h3⟩
    have : left = [] := List.eq_nil_of_length_eq_zero h2
    subst this
    simp [-Option.bind_some]
    exact ⟨made, e2, by simpa using h3, fl, kp⟩

end K30
end

section
set_option linter.all false
set_option autoImplicit false
set_option maxRecDepth 10000
set_option exponentiation.threshold 100000
set_option maxHeartbeats 4000000
namespace K30
open PySem IX
theorem d_row (k : Nat) {i j : Nat} {M : Mem} (hf : Flow i j M) (many whole : Nat) (h0 : 0 < many) (h1 : many ≤ 1000) (hw0 : 0 < whole) (hw1 : whole < 2 ^ 7) : Dr (W (k + 3)) i j M n__law_row [.p (.ref i), .p (.int many), .p (.int whole)] fun x => ∃ l : List Rat, x = row l ∧ l.length = many ∧ (∀ q ∈ l, 0 ≤ q) ∧ l.sum = 1 ∧ AllB 8 l := by
  refine dr_of hf (enter F__law_row rfl rfl ?_)
  have hi := hf.lt.1
  have hj := hf.lt.2
  have sm : small ((many : Int) - 1) = true := by unfold small; simp; omega
  have em : ((many : Int) - 1).toNat = many - 1 := by omega
  have dd : ∀ (M : Mem) (m : Nat) {mI : Int}, mI = (m : Int) → Flow i j M → 0 < m → m ≤ 4000 → Dr (W (k + 2)) i j M n__law_draw [.p (.ref i), .p (.int mI)] fun x => ∃ d : Nat, x = .int d ∧ d < m := fun M m mI e hf h0 h1 => by
    subst e
    exact d_draw (k + 1) hf m h0 (Nat.lt_of_le_of_lt h1 (Nat.lt_of_lt_of_le (by decide : 4000 < 2 ^ 12) (Nat.pow_le_pow_right (by decide) (by decide))))
  have cf : ∀ (p : Nat) (M : Mem), callX (W (k + 2)) n__law_frac [.p (.int p), .p (.int whole)] M = some (.p (fr (mkRat p whole)), M) := fun p M => c_lfrac (k + 1) p whole rfl hw0 (Nat.lt_trans hw1 (Nat.pow_lt_pow_right (by decide) (by decide))) M
  have sh : ∀ (M : Mem) (n : Nat) (xs : List P), Flow i j M → M[n]? = some xs → xs.length ≤ 4000 → Wp (callX (W (k + 2)) n__law_shuffled [.p (.ref i), .p (.ref n)] M) fun r => ∃ n ys, r.1 = .p (.ref n) ∧ r.2[n]? = some ys ∧ ys.Perm xs ∧ Flow i j r.2 ∧ Kp i M r.2 := fun M n xs hf h hl => by
    unfold callX
    refine (d_shuffled k hf (d := .p (.ref n)) h hl).bind fun ⟨d, M'⟩ ⟨n, ys, e, e2, p, hn, fl, kp⟩ => ?_
    dsimp only at e e2 fl kp
    subst e
    rw [back_new hn]
    exact ⟨_, rfl, n, ys, rfl, e2, p, fl, kp⟩
  have nl : newl [] M = some (.p (.ref M.length), M ++ [[]]) := newl_ok (by simp)
  generalize W (k + 2) = V at dd cf sh ⊢
  simp [-Option.bind_some, F__law_row, entry, nl, src_rng1 sm, em, rangeP_map]
  refine lop_wpJ (fun x : Nat => P.int (x : Int)) (fun pre r ρ M' => Flow i j M' ∧ Kp i M M' ∧ ∃ (left : Nat) (made : List Nat) (z z2 : Option D), ρ = [some (.p (.ref i)), some (.p (.int many)), some (.p (.int whole)), some (.p (.int left)), some (.p (.ref M.length)), z, z2] ∧ M'[M.length]? = some (made.map fun (p : Nat) => .int p) ∧ made.length = pre.length ∧ made.sum + left = whole) (List.range (many - 1))
    ⟨hf.app _, Kp.app i M _, whole, [], none, none, rfl, get_e0 _ _ _, rfl, by simp⟩ ?_ ?_
  · rintro J Q hJ - pre a r ρ M' hl ⟨fl, kp, left, made, z, z2, rfl, e1, h2, h3⟩
    have hlen : pre.length ≤ many := by
      have := congrArg List.length hl
      simp at this; omega
    simp [-Option.bind_some]
    refine (dd M' (left + 1) (by simp) fl (by omega) (by omega)).use fun x M2 hx fl2 c2 => ?_
    obtain ⟨p, rfl, hp⟩ := hx
    simp [-Option.bind_some]
    refine (dd M2 2 rfl fl2 (by omega) (by omega)).use fun x M3 hx fl3 c3 => ?_
    obtain ⟨t, rfl, ht⟩ := hx
    have ml : made.length < sizeLine := by rw [szl]; omega
    have fin : ∀ (q : Nat) (M4 : Mem), q ≤ left → Flow i j M4 → Chg i M3 M4 → Wp (evS V G LL (.ex (.mt .append (.v 4) [(.v 6)])) [some (.p (.ref i)), some (.p (.int many)), some (.p (.int whole)), some (.p (.int left)), some (.p (.ref M.length)), some (.p (.int a)), some (.p (.int q))] M4) (After V G LL [.set (.nm 3) (.bin .sub (.v 3) (.v 6))] (LP { xs := List.map (fun (k : Nat) => P.int (k : Int)) (List.range (many - 1)), ls := [] } (J (pre ++ [a]) r) Q)) := fun q M4 hq fl4 c4 => by
      have e4 := (c2.trans (c3.trans c4)).at (show M.length ≠ i by omega) e1
      simp [-Option.bind_some, e4, ml]
      rw [hJ]
      refine ⟨fl4.set hf (Nat.le_refl _) _, (kp.chg (c2.trans (c3.trans c4))).set (Nat.le_refl _) _, left - q, made ++ [q], _, _, by rw [Int.ofNat_sub hq], by simp [List.getElem?_set, get_lt e4], by simp [h2], ?_⟩
      simp; omega
    by_cases h0 : t = 0
    · subst h0
      simp [-Option.bind_some]
      refine (dd M3 (left + 1) (by simp) fl3 (by omega) (by omega)).use fun x M4 hx fl4 c4 => ?_
      obtain ⟨p2, rfl, hp2⟩ := hx
      have hmin : (if (p2 : Int) < (p : Int) then (p2 : Int) else (p : Int)) = ((min p2 p : Nat) : Int) := by
        split <;> omega
      simp only [obs, bf_min2, hmin, putD_nm, es_nil, es_cons, e_v]
      simp only [wp_some, List.length_cons, List.length_nil, Nat.zero_add, Nat.reduceAdd, Nat.reduceLT, if_true, obs, after_nx, wp_cons, List.set_cons_succ, List.set_cons_zero]
      exact fin (min p2 p) M4 (by omega) fl4 c4
    · have h0' : ¬ ((t : Int) = 0) := by omega
      simp only [c_eq, beq_iff_eq, obs, h0', beq_eq_false_iff_ne.mpr h0', if_false, wp_some, after_nx, wp_cons, putD_nm, List.length_cons, List.length_nil, Nat.zero_add, Nat.reduceAdd, Nat.reduceLT, if_true, List.set_cons_succ, List.set_cons_zero, e_v, List.getElem?_cons_succ, List.getElem?_cons_zero, e_c, Bool.false_eq_true]
      exact fin p M3 (by omega) fl3 (Chg.refl _ _)
  · rintro ρ M' ⟨fl, kp, left, made, z, z2, rfl, e1, h2, h3⟩
    have h2' : made.length = many - 1 := by simpa using h2
    have l1 : M.length < M'.length := get_lt e1
    have e2 : (M' ++ [[.int left]])[M.length]? = some (made.map fun (p : Nat) => .int p) := get_app e1
    have nl1 : newl [.int left] M' = some (.p (.ref M'.length), M' ++ [[.int left]]) := newl_ok (by simp [szl])
    have nl2 : newl ((made.map fun (p : Nat) => P.int p) ++ [.int left]) (M' ++ [[.int left]]) = some (.p (.ref (M'.length + 1)), M' ++ [[.int left], (made.map fun (p : Nat) => P.int p) ++ [.int left]]) := by
      rw [newl_ok (by simp [szl]; omega)]; simp
    simp [-Option.bind_some, nl1, e2, nl2]
    have fl2 : Flow i j (M' ++ [[.int left], (made.map fun (p : Nat) => P.int p) ++ [.int left]]) := fl.app _
    refine (sh _ _ _ fl2 (get_e1 _ _ _ _) (by simp; omega)).bind fun ⟨d, M2⟩ ⟨n, ys, hd, e3, pm, fl3, kp3⟩ => ?_
    dsimp only at hd e3 fl3 kp3
    subst hd
    obtain ⟨ps, pp, rfl⟩ := perm_map_inv (fun (p : Nat) => P.int p) pm (made ++ [left]) (by simp)
    have pl : ps.length = many := by have := pp.length_eq; simp at this; omega
    have psum : ps.sum = whole := by rw [perm_sumN pp]; simp; omega
    simp [-Option.bind_some, e3]
    rw [lcs_map (fun (p : Nat) => P.int p) (fun p => fr (mkRat p whole)) (by simp [e3]) ps (fun p _ => by simp [-Option.bind_some, lcx, wipeE, cf])]
    have nl3 : newl (ps.map fun (p : Nat) => fr (mkRat p whole)) M2 = some (.p (.ref M2.length), M2 ++ [ps.map fun (p : Nat) => fr (mkRat p whole)]) := newl_ok (by simp [szl]; omega)
    simp [-Option.bind_some, nl3]
    have er : (P.tup (ps.map fun (p : Nat) => fr (mkRat p whole))) = row (ps.map fun (p : Nat) => mkRat p whole) := by simp [row]
    rw [er]
    refine ⟨row_cl _, ⟨_, rfl, by simp [pl], ?_, ?_, ?_⟩, fl3.app _, ((kp.trans (Kp.app i M' _)).trans kp3).trans (Kp.app i M2 _)⟩
    · intro q hq
      obtain ⟨p, _, rfl⟩ := List.mem_map.mp hq
      exact mkRat_nonneg whole
    · rw [sum_parts whole hw0, psum, mkRat_self' whole hw0]
    · intro q hq
      obtain ⟨p, hp, rfl⟩ := List.mem_map.mp hq
      have : p ≤ ps.sum := le_sumN hp
      refine mk_bd hw0 ?_ (Nat.lt_trans hw1 (by decide))
      rw [Int.natAbs_natCast]
      omega

end K30
end

section
set_option linter.all false
set_option autoImplicit false
set_option maxRecDepth 10000
set_option exponentiation.threshold 100000
set_option maxHeartbeats 4000000
namespace K30
open PySem IX
theorem lcs_draw {A B : Type} {V : Wd} {vs : List Nat} {elt : E} {t : T} {ifs : List E} {s : Src} {ρ : IX.Env} {i j : Nat} {M : Mem} (g : A → P) (h : B → P) (R : B → Prop) (ok : ∀ M, s.ok M = true) (as : List A) (hf : Flow i j M)
    (step : ∀ a ∈ as, ∀ M', Flow i j M' → Kp i M M' → Wp (lcx V G vs elt t ifs ρ (g a) M') fun o => ∃ b, o.1 = [h b] ∧ R b ∧ Flow i j o.2 ∧ Kp i M' o.2) :
    Wp (lcs V G vs elt t ifs s (as.map g) ρ M) fun q => ∃ bs : List B, q.1 = bs.map h ∧ bs.length = as.length ∧ (∀ b ∈ bs, R b) ∧ Flow i j q.2 ∧ Kp i M q.2 := by
  refine lcs_wp g (fun pre r acc M' => ∃ bs : List B, acc = bs.map h ∧ bs.length = pre.length ∧ (∀ b ∈ bs, R b) ∧ Flow i j M' ∧ Kp i M M') as ⟨[], rfl, rfl, by simp, hf, Kp.refl _ _⟩ ?_ ?_
  · rintro pre a r acc M' e ⟨bs, rfl, hl, hb, fl, kp⟩
    refine (step a (by rw [e]; simp) M' fl kp).mono ?_
    rintro ⟨x, M2⟩ ⟨b, h1, h2, h3, h4⟩
    dsimp only at h1 h3 h4 ⊢
    subst h1
    refine ⟨ok _, bs ++ [b], by simp, by simp [hl], ?_, h3, kp.trans h4⟩
    intro c hc
    rcases List.mem_append.mp hc with hc | hc
    · exact hb c hc
    · rw [List.mem_singleton.mp hc]; exact h2
  · rintro acc M' ⟨bs, h1, h2, h3, h4, h5⟩
    exact ⟨bs, h1, h2, h3, h4, h5⟩
theorem rpick (k : Nat) {i j : Nat} {M : Mem} {d : D} {A : Type} (f : A → P) (xs : List A) (hf : Flow i j M) (hd : ∀ M', Chg i M M' → items M' d = some (xs.map f)) (h0 : 0 < xs.length) (h1 : xs.length ≤ 4000) (hc : ∀ x ∈ xs, (f x).cl) : Dr (W (k + 2)) i j M n__law_pick [.p (.ref i), d] fun x => ∃ a ∈ xs, x = f a := by
  refine (d_pick k hf hd (by simpa using h0) (by rw [List.length_map]; exact lt9000 h1) (by simpa using hc)).mono ?_
  rintro r ⟨x, e, hx, h⟩
  obtain ⟨a, ha, rfl⟩ := List.mem_map.mp hx
  exact ⟨_, e, ⟨a, ha, rfl⟩, h⟩
def numQ : List Rat := [0, 1, 2, mkRat 5 2, mkRat 1 3, 4, 7, mkRat 9 4, 12]
def numP : List P := [.tup [.int 0, .int 1], .tup [.int 1, .int 1], .tup [.int 2, .int 1], .tup [.int 5, .int 2], .tup [.int 1, .int 3], .tup [.int 4, .int 1], .tup [.int 7, .int 1], .tup [.int 9, .int 4], .tup [.int 12, .int 1]]
theorem numP_eq : numP = numQ.map fr := by rfl
theorem numQ_ok : ∀ q ∈ numQ, 0 ≤ q ∧ Bd 4 q := by
  have : ∀ q ∈ numQ, (decide (0 ≤ q.num) && (decide (q.num.natAbs < 2 ^ 4) && decide (q.den < 2 ^ 4))) = true := by decide
  intro q hq
  have := this q hq
  rw [Bool.and_eq_true, Bool.and_eq_true, decide_eq_true_eq, decide_eq_true_eq, decide_eq_true_eq] at this
  exact ⟨Rat.num_nonneg.mp this.1, this.2⟩
theorem bd0 : Bd 4 0 := ⟨by decide, by decide⟩
theorem fr0 : P.tup [.int 0, .int 1] = fr 0 := by rfl
theorem fr1 : P.tup [.int 1, .int 1] = fr 1 := by rfl
theorem set_map {A B : Type} (f : A → B) (l : List A) (i : Nat) (a : A) : (l.map f).set i (f a) = (l.set i a).map f := by rw [List.map_set]
theorem d_numbers (k : Nat) {i j : Nat} {M : Mem} (hf : Flow i j M) (many : Nat) (least : Bool) (h0 : 0 < many) (h1 : many ≤ 1000) : Dr (W (k + 3)) i j M n__law_numbers [.p (.ref i), .p (.int many), .p (.bl least)] fun x => ∃ l : List Rat, x = row l ∧ l.length = many ∧ (∀ q ∈ l, 0 ≤ q) ∧ (least = true → 0 ∈ l) ∧ AllB 4 l := by
  refine dr_of hf (enter F__law_numbers rfl rfl ?_)
  have hi := hf.lt.1
  have sm : small (many : Int) = true := by unfold small; simp; omega
  have dp : ∀ (M : Mem) (n : Nat), Flow i j M → n ≠ i → M[n]? = some numP → Dr (W (k + 2)) i j M n__law_pick [.p (.ref i), .p (.ref n)] fun x => ∃ a ∈ numQ, x = fr a := fun M n hf hn e => rpick k fr numQ hf (fun M' c => by rw [← numP_eq]; exact c.at hn e) (by decide) (by decide) (fun x _ => fr_cl x)
  have dd : ∀ (M : Mem), Flow i j M → Dr (W (k + 2)) i j M n__law_draw [.p (.ref i), .p (.int many)] fun x => ∃ d : Nat, x = .int d ∧ d < many := fun M hf => d_draw (k + 1) hf many h0 (lt9000 (by omega))
  have nl : ∀ M : Mem, newl numP M = some (.p (.ref M.length), M ++ [numP]) := fun M => newl_ok (by decide)
  generalize W (k + 2) = V at dd dp ⊢
  simp only [numP] at nl
  simp [-Option.bind_some, F__law_numbers, entry, src_rng1 sm, rangeP_map]
  refine (lcs_draw (fun x : Nat => P.int (x : Int)) fr (fun q => 0 ≤ q ∧ Bd 4 q) (fun _ => rfl) (List.range many) hf ?_).bind ?_
  · intro a ha M' fl kp
    simp [-Option.bind_some, lcx, wipeE, nl, s2]
    refine (dp _ _ (fl.app [numP]) (by have := fl.lt.1; omega) (by simp [numP])).use fun x M2 hx fl2 c2 => ?_
    obtain ⟨q, hq, rfl⟩ := hx
    simp [-Option.bind_some]
    exact ⟨q, rfl, numQ_ok q hq, fl2, (Kp.app i M' _).trans c2.kp⟩
  · rintro ⟨acc, M2⟩ ⟨qs, h1', h2, h3, fl2, kp2⟩
    dsimp only at h1' fl2 kp2
    subst h1'
    have h2 : qs.length = many := by simpa using h2
    have nl2 : newl (qs.map fr) M2 = some (.p (.ref M2.length), M2 ++ [qs.map fr]) := newl_ok (by simp [szl]; omega)
    cases least with
    | false =>
      simp [-Option.bind_some, nl2]
      exact ⟨row_cl qs, ⟨qs, rfl, h2, fun q hq => (h3 q hq).1, fun q hq => (h3 q hq).2⟩, fl2.app _, kp2.trans (Kp.app i M2 _)⟩
    | true =>
      simp [-Option.bind_some, nl2, s2]
      have ml : i ≠ M2.length := by have := fl2.lt.1; omega
      refine (dd _ (fl2.app _)).use fun x M3 hx fl3 c3 => ?_
      obtain ⟨d, rfl, hd⟩ := hx
      have e3 := c3.at (Ne.symm ml) (get_end M2 (qs.map fr))
      have se : seti (qs.map fr) (d : Int) (.tup [.int 0, .int 1]) = some ((qs.map fr).set d (fr 0)) := by
        rw [seti_nat (by simp; omega), fr0]
      have er : P.tup ((qs.map fr).set d (fr 0)) = row (qs.set d 0) := by rw [set_map]; rfl
      have gs : ∀ ys, (M3.set M2.length ys)[M2.length]? = some ys := fun ys => get_set e3
      simp [-Option.bind_some, e3, se, gs]
      rw [er]
      refine ⟨row_cl _, ⟨_, rfl, by simp [h2], ?_, ?_, ?_⟩, ?_, ?_⟩
      · intro q hq
        rcases List.mem_or_eq_of_mem_set hq with h | h
        · exact (h3 q h).1
        · rw [h]; exact Rat.le_refl
      · exact List.mem_set (by omega) 0
      · intro q hq
        rcases List.mem_or_eq_of_mem_set hq with h | h
        · exact (h3 q h).2
        · rw [h]; exact bd0
      · exact fl3.set hf kp2.1 _
      · exact (((kp2.trans (Kp.app i M2 _)).chg c3)).set kp2.1 _
def divQ : List Nat := [1, 2, 3, 4, 6, 10]
def tabP (T : List (List Rat)) : P := .tup (T.map row)
theorem tabP_cl (T : List (List Rat)) : (tabP T).cl := cl_tup fun r _ => row_cl r
/-- a row of chances -/
def Cha (n : Nat) (l : List Rat) : Prop := l.length = n ∧ (∀ q ∈ l, 0 ≤ q) ∧ l.sum = 1 ∧ AllB 8 l
theorem d_chances (k : Nat) {i j : Nat} {M : Mem} (hf : Flow i j M) (acts results : Nat) (h0 : 0 < acts) (h1 : acts ≤ 1000) (h2 : 0 < results) (h3 : results ≤ 1000) : Dr (W (k + 4)) i j M n__law_chances [.p (.ref i), .p (.int acts), .p (.int results)] fun x => ∃ T : List (List Rat), x = tabP T ∧ T.length = acts ∧ ∀ r ∈ T, Cha results r := by
  refine dr_of hf (enter F__law_chances rfl rfl ?_)
  have hi := hf.lt.1
  have sm : small (acts : Int) = true := by unfold small; simp; omega
  have dp : ∀ (M : Mem) (n : Nat), Flow i j M → n ≠ i → M[n]? = some (divQ.map fun (d : Nat) => .int d) → Dr (W (k + 3)) i j M n__law_pick [.p (.ref i), .p (.ref n)] fun x => ∃ a ∈ divQ, x = .int a := fun M n hf hn e => rpick (k + 1) (fun (d : Nat) => P.int d) divQ hf (fun M' c => c.at hn e) (by decide) (by decide) (fun x _ => cl_int x)
  have dd : ∀ (M : Mem), Flow i j M → Dr (W (k + 3)) i j M n__law_draw [.p (.ref i), .p (.int 5)] fun x => ∃ d : Nat, x = .int d ∧ d < 5 := fun M hf => d_draw (k + 2) hf 5 (by decide) (lt9000 (by decide))
  have dr : ∀ (M : Mem) (w : Nat), Flow i j M → w ∈ divQ → Dr (W (k + 3)) i j M n__law_row [.p (.ref i), .p (.int results), .p (.int w)] fun x => ∃ l : List Rat, x = row l ∧ Cha results l := fun M w hf hw => d_row k hf results w h2 h3 (by revert w; decide) (by revert w; decide)
  have nl : ∀ M : Mem, newl [.int 1, .int 2, .int 3, .int 4, .int 6, .int 10] M = some (.p (.ref M.length), M ++ [divQ.map fun (d : Nat) => .int d]) := fun M => newl_ok (by decide)
  generalize W (k + 3) = V at dd dp dr ⊢
  simp [-Option.bind_some, F__law_chances, entry, src_rng1 sm, rangeP_map]
  refine (lcs_draw (fun x : Nat => P.int (x : Int)) row (Cha results) (fun _ => rfl) (List.range acts) hf ?_).bind ?_
  · intro a ha M' fl kp
    simp only [lcx, wipeE, ifs0, obs, put_nm, e_call, es_cons, es_nil, e_lst, e_c, datas_cons, datas_nil, nl]
    simp [-Option.bind_some]
    refine (dp _ _ (fl.app _) (by have := fl.lt.1; omega) (get_end _ _)).use fun x M2 hx fl2 c2 => ?_
    obtain ⟨q, hq, rfl⟩ := hx
    simp [-Option.bind_some]
    refine (dr _ q fl2 hq).use fun x M3 hx fl3 c3 => ?_
    obtain ⟨l, rfl, hl⟩ := hx
    simp [-Option.bind_some]
    exact ⟨l, rfl, hl, fl3, (Kp.app i M' _).trans (c2.trans c3).kp⟩
  · rintro ⟨acc, M2⟩ ⟨T, h1', h2', h3', fl2, kp2⟩
    dsimp only at h1' fl2 kp2
    subst h1'
    have hT : T.length = acts := by simpa using h2'
    have nl2 : newl (T.map row) M2 = some (.p (.ref M2.length), M2 ++ [T.map row]) := newl_ok (by simp [szl]; omega)
    have ml : i ≠ M2.length := by have := fl2.lt.1; omega
    have endd : ∀ (T' : List (List Rat)) (M3 : Mem), T'.length = acts → (∀ r ∈ T', Cha results r) → Flow i j M3 → Kp i M M3 → ∃ x, P.tup (T'.map row) = x ∧ x.cl ∧ (∃ T : List (List Rat), x = tabP T ∧ T.length = acts ∧ ∀ r ∈ T, Cha results r) ∧ Flow i j M3 ∧ Kp i M M3 := fun T' M3 a b c d => ⟨_, rfl, tabP_cl T', ⟨T', rfl, a, b⟩, c, d⟩
    by_cases h1a : (1 : Int) < acts
    · simp [-Option.bind_some, nl2, h1a]
      refine (dd _ (fl2.app _)).use fun x M3 hx fl3 c3 => ?_
      obtain ⟨d, rfl, hd⟩ := hx
      have e3 := c3.at (Ne.symm ml) (get_end M2 (T.map row))
      have k3 : Kp i M M3 := (kp2.trans (Kp.app i M2 _)).chg c3
      by_cases hz : d = 0
      · subst hz
        match T, hT, h3' with
        | [], hT, _ => simp at hT; omega
        | r :: T, hT, h3' =>
          have la : atx ((r :: T).map row) (-1) = some (row ((r :: T).getLast (by simp))) := by
            rw [atx_neg1 (by simp), List.getLast?_map, List.getLast?_eq_some_getLast (by simp)]; rfl
          simp only [List.map_cons] at e3 la
          have gs : ∀ ys, (M3.set M2.length ys)[M2.length]? = some ys := fun ys => get_set e3
          simp [-Option.bind_some, e3, la, gs]
          have := endd ((r :: T).getLast (by simp) :: T) (M3.set M2.length (row ((r :: T).getLast (by simp)) :: T.map row)) (by simpa using hT) (by
            intro x hx
            rcases List.mem_cons.mp hx with rfl | hx
            · exact h3' _ (List.getLast_mem _)
            · exact h3' _ (List.mem_cons_of_mem _ hx)) (fl3.set hf kp2.1 _) (k3.set kp2.1 _)
          obtain ⟨x, h1, h2⟩ := this
          simp only [List.map_cons] at h1
          rw [h1]; exact h2
      · have hz' : ¬ ((d : Int) = 0) := by omega
        simp [-Option.bind_some, hz', hz, e3]
        obtain ⟨x, h1, h2⟩ := endd T M3 hT h3' fl3 k3
        rw [h1]; exact h2
    · simp [-Option.bind_some, nl2, h1a]
      obtain ⟨x, h1, h2⟩ := endd T _ hT h3' (fl2.app [T.map row]) (kp2.trans (Kp.app i M2 _))
      rw [h1]; exact h2
def costQ : List Rat := [0, 1, mkRat 1 2, mkRat 1 4, 2, 3, mkRat 1 10, mkRat 4 3]
def costP : List P := [.tup [.int 0, .int 1], .tup [.int 1, .int 1], .tup [.int 1, .int 2], .tup [.int 1, .int 4], .tup [.int 2, .int 1], .tup [.int 3, .int 1], .tup [.int 1, .int 10], .tup [.int 4, .int 3]]
theorem costP_eq : costP = costQ.map fr := by rfl
theorem costQ_ok : ∀ q ∈ costQ, 0 ≤ q ∧ Bd 4 q := by
  have : ∀ q ∈ costQ, (decide (0 ≤ q.num) && (decide (q.num.natAbs < 2 ^ 4) && decide (q.den < 2 ^ 4))) = true := by decide
  intro q hq
  have := this q hq
  rw [Bool.and_eq_true, Bool.and_eq_true, decide_eq_true_eq, decide_eq_true_eq, decide_eq_true_eq] at this
  exact ⟨Rat.num_nonneg.mp this.1, this.2⟩
/-- a work with one kind -/
def workP (costs : List Rat) (T : List (List Rat)) : P := .tup [.tup [fr 1], .tup [row costs], tabP T]
theorem workP_cl (costs : List Rat) (T : List (List Rat)) : (workP costs T).cl := fun n => by simp [workP, tabP_cl T n]
/-- what is drawn: costs, chances, heights -/
structure Drawn (zero : Bool) (cs : List Rat) (T : List (List Rat)) (hs : List Rat) : Prop where
  n0 : 0 < cs.length
  n4 : cs.length ≤ 4
  tl : T.length = cs.length
  c0 : ∀ q ∈ cs, 0 ≤ q
  cz : zero = true → 0 ∈ cs
  cb : AllB 4 cs
  r0 : 0 < hs.length
  r6 : hs.length ≤ 6
  ch : ∀ r ∈ T, Cha hs.length r
  h0 : ∀ q ∈ hs, 0 ≤ q
  hz : 0 ∈ hs
  hb : AllB 4 hs
theorem d_work (k : Nat) {i j : Nat} {M : Mem} (hf : Flow i j M) (zero : Bool) : Wp (callX (W (k + 5)) n__law_work [.p (.ref i), .p (.bl zero)] M) fun r => ∃ cs T hs n, r.1 = .p (.tup [workP cs T, row hs, .ref n]) ∧ Drawn zero cs T hs ∧ n ≠ i ∧ n ≠ j ∧ M.length ≤ n ∧ r.2[n]? = some (T.map fun r => fr (dot r hs)) ∧ Flow i j r.2 ∧ Kp i M r.2 := by
  have key : Wp (W (k + 5) n__law_work [.p (.ref i), .p (.bl zero)] M) fun r => ∃ cs T hs n, r.1 = .p (.tup [workP cs T, row hs, .ref n]) ∧ Drawn zero cs T hs ∧ M.length ≤ n ∧ r.2[n]? = some (T.map fun r => fr (dot r hs)) ∧ Flow i j r.2 ∧ Kp i M r.2 := by
    refine enter F__law_work rfl rfl ?_
    have hi := hf.lt.1
    have dd : ∀ (M : Mem) (m : Nat) {mI : Int}, mI = (m : Int) → Flow i j M → 0 < m → m ≤ 4000 → Dr (W (k + 4)) i j M n__law_draw [.p (.ref i), .p (.int mI)] fun x => ∃ d : Nat, x = .int d ∧ d < m := fun M m mI e hf h0 h1 => by
      subst e; exact d_draw (k + 3) hf m h0 (lt9000 h1)
    have dp : ∀ (M : Mem) (n : Nat), Flow i j M → n ≠ i → M[n]? = some (costQ.map fr) → Dr (W (k + 4)) i j M n__law_pick [.p (.ref i), .p (.ref n)] fun x => ∃ a ∈ costQ, x = fr a := fun M n hf hn e => rpick (k + 2) fr costQ hf (fun M' c => c.at hn e) (by decide) (by decide) (fun x _ => fr_cl x)
    have dc := fun (M : Mem) (a r : Nat) (hf : Flow i j M) => d_chances k hf a r
    have dn := fun (M : Mem) (r : Nat) (hf : Flow i j M) => d_numbers (k + 1) hf r true
    have cm : ∀ (l r : List Rat) (M : Mem), AllB 8 l → AllB 4 r → l.length = r.length → l.length ≤ 6 → callX (W (k + 4)) n__law_mean [.p (row l), .p (row r)] M = some (.p (fr (dot l r)), M) := fun l r M h1 h2 h3 h4 => c_lmean k l r h1 (h2.mono (by decide)) h3 (by omega) (by decide) rfl rfl
    have nl : ∀ M : Mem, newl costP M = some (.p (.ref M.length), M ++ [costQ.map fr]) := fun M => by rw [← costP_eq]; exact newl_ok (by decide)
    simp only [costP] at nl
    simp only [Nat.add_assoc, Nat.reduceAdd] at dn
    generalize W (k + 4) = V at dd dp dc dn cm ⊢
    simp [-Option.bind_some, F__law_work, entry]
    refine (dd M 4 rfl hf (by decide) (by decide)).use fun x M1 hx fl1 c1 => ?_
    obtain ⟨a, rfl, ha⟩ := hx
    simp [-Option.bind_some]
    refine (dd M1 6 rfl fl1 (by decide) (by decide)).use fun x M2 hx fl2 c2 => ?_
    obtain ⟨b, rfl, hb⟩ := hx
    have sm : small (1 + (a : Int)) = true := by unfold small; simp; omega
    have em : (1 + (a : Int)).toNat = a + 1 := by omega
    simp [-Option.bind_some, s2, nl, src_rng1 sm, em, rangeP_map]
    have k2 : Kp i M M2 := (c1.trans c2).kp
    refine (lcs_draw (fun x : Nat => P.int (x : Int)) fr (fun q => 0 ≤ q ∧ Bd 4 q) (fun _ => rfl) (List.range (a + 1)) (fl2.app [costQ.map fr]) ?_).bind ?_
    · intro x hx M' fl kp
      have e1 := kp.at (show M2.length ≠ i by have := fl2.lt.1; omega) (get_end M2 _)
      simp [-Option.bind_some, lcx, wipeE]
      refine (dp _ _ fl (by have := fl2.lt.1; omega) e1).use fun x M3 hx fl3 c3 => ?_
      obtain ⟨q, hq, rfl⟩ := hx
      simp [-Option.bind_some]
      exact ⟨q, rfl, costQ_ok q hq, fl3, c3.kp⟩
    · rintro ⟨acc, M3⟩ ⟨cs, h1, h2, h3, fl3, k3⟩
      dsimp only at h1 fl3 k3
      subst h1
      have hl : cs.length = a + 1 := by simpa using h2
      have k3' : Kp i M M3 := (k2.trans (Kp.app i M2 _)).trans k3
      have nl2 : newl (cs.map fr) M3 = some (.p (.ref M3.length), M3 ++ [cs.map fr]) := newl_ok (by simp [szl]; omega)
      -- from the costs on
      have rest : ∀ (cs : List Rat) (M4 : Mem) (z5 : Option D) (Q : Out → Prop), cs.length = a + 1 → (∀ q ∈ cs, 0 ≤ q ∧ Bd 4 q) → (zero = true → 0 ∈ cs) → Flow i j M4 → Kp i M M4 → M4[M3.length]? = some (cs.map fr) →
          (∀ T hs n M5, Drawn zero cs T hs → M.length ≤ n → M5[n]? = some (T.map fun r => fr (dot r hs)) → Flow i j M5 → Kp i M M5 → Q (.rt (.p (.tup [workP cs T, row hs, .ref n])) M5)) →
          Wp (evSs V G LL (F__law_work.body.drop 4) [some (.p (.ref i)), some (.p (.bl zero)), some (.p (.int (1 + (a : Int)))), some (.p (.int (1 + (b : Int)))), some (.p (.ref M2.length)), z5, some (.p (.ref M3.length)), none, none, none] M4) Q := by
        intro cs M4 z5 Q hl hc hz fl4 k4 e4 hQ
        have ea : (1 + (a : Int)) = ((a + 1 : Nat) : Int) := by omega
        have eb : (1 + (b : Int)) = ((b + 1 : Nat) : Int) := by omega
        rw [ea, eb]
        simp [-Option.bind_some, -Int.natCast_add, F__law_work]
        refine (dc M4 (a + 1) (b + 1) fl4 (by omega) (by omega) (by omega) (by omega)).use fun x M5 hx fl5 c5 => ?_
        obtain ⟨T, rfl, hT, hch⟩ := hx
        simp [-Option.bind_some, -Int.natCast_add]
        refine (dn M5 (b + 1) fl5 (by omega) (by omega)).use fun x M6 hx fl6 c6 => ?_
        obtain ⟨hs, rfl, hhl, hh0, hhz, hhb⟩ := hx
        have e6 := (c5.trans c6).at (show M3.length ≠ i by have := fl3.lt.1; omega) e4
        simp [-Option.bind_some, -Int.natCast_add, e6, s1, tabP]
        rw [lcs_map row (fun r => fr (dot r hs)) rfl T (by
          intro r hr
          have := hch r hr
          simp [-Option.bind_some, lcx, wipeE, cm r hs M6 this.2.2.2 hhb (by rw [this.1, hhl]) (by rw [this.1]; omega)])]
        have nl5 : newl (T.map fun r => fr (dot r hs)) M6 = some (.p (.ref M6.length), M6 ++ [T.map fun r => fr (dot r hs)]) := newl_ok (by simp [szl]; omega)
        simp [-Option.bind_some, nl5, s3, s2]
        exact hQ T hs M6.length _ ⟨by omega, by omega, by omega, fun q hq => (hc q hq).1, hz, fun q hq => (hc q hq).2, by omega, by omega, fun r hr => by rw [hhl]; exact hch r hr, hh0, hhz trivial, hhb⟩ (by have := (k4.chg (c5.trans c6)).1; exact this) (get_end _ _) (fl6.app _) ((k4.chg (c5.trans c6)).trans (Kp.app i M6 _))
      simp [-Option.bind_some, -wp_cons, nl2]
      rw [wp_cons]
      refine Wp.mono (P := fun o => ∃ (cs' : List Rat) (M4 : Mem), o = .nx [some (.p (.ref i)), some (.p (.bl zero)), some (.p (.int (1 + (a : Int)))), some (.p (.int (1 + (b : Int)))), some (.p (.ref M2.length)), none, some (.p (.ref M3.length)), none, none, none] M4 ∧ cs'.length = a + 1 ∧ (∀ q ∈ cs', 0 ≤ q ∧ Bd 4 q) ∧ (zero = true → 0 ∈ cs') ∧ Flow i j M4 ∧ Kp i M M4 ∧ M4[M3.length]? = some (cs'.map fr)) ?_ ?_
      · cases zero with
        | false =>
          simp [-Option.bind_some]
          exact ⟨cs, hl, h3, fl3.app _, k3'.trans (Kp.app i M3 _), rfl⟩
        | true =>
          have ml : i ≠ M3.length := by have := fl3.lt.1; omega
          simp [-Option.bind_some, s2]
          refine (dd _ (a + 1) (by omega) (fl3.app _) (by omega) (by omega)).use fun x M4 hx fl4 c4 => ?_
          obtain ⟨d, rfl, hd⟩ := hx
          have e4 := c4.at (Ne.symm ml) (get_end M3 (cs.map fr))
          have se : seti (cs.map fr) (d : Int) (.tup [.int 0, .int 1]) = some ((cs.map fr).set d (fr 0)) := by
            rw [seti_nat (by simp; omega), fr0]
          simp [-Option.bind_some, e4, se]
          refine ⟨cs.set d 0, by simp [hl], ?_, List.mem_set (by omega) 0, fl4.set hf k3'.1 _, ((k3'.trans (Kp.app i M3 _)).chg c4).set k3'.1 _, ?_⟩
          · intro q hq
            rcases List.mem_or_eq_of_mem_set hq with h | h
            · exact h3 q h
            · rw [h]; exact ⟨Rat.le_refl, bd0⟩
          · rw [get_set e4, set_map]
      · rintro o ⟨cs', M4, rfl, q1, q2, q3, q4, q5, q6⟩
        rw [after_nx]
        refine rest cs' M4 none _ q1 q2 q3 q4 q5 q6 ?_
        intro T hs n M5 w1 w2 w3 w4 w5
        simp
        exact ⟨cs', T, hs, n, ⟨rfl, rfl, rfl⟩, w1, w2, w3, w4, w5⟩
  obtain ⟨⟨d, M'⟩, e, cs, T, hs, n, h1, h2, h3, h4, h5, h6⟩ := key
  dsimp only at h1 h4 h5 h6
  subst h1
  refine ⟨(.p (.tup [workP cs T, row hs, .ref n]), M'), ?_, cs, T, hs, n, rfl, h2, by have := hf.lt.1; omega, by have := hf.lt.2; omega, h3, h4, h5, h6⟩
  unfold callX
  rw [e]
  show some (back M _ M') = _
  unfold back
  rw [if_neg]
  have : (D.p (.tup [workP cs T, row hs, .ref n])).und M.length = false := by
    show P.und M.length (.tup [workP cs T, row hs, .ref n]) = false
    simp [P.und]; omega
  rw [this]; simp
theorem flow_ok (k : Nat) (ns : List Int) (h : ns.length ≤ 63) (M : Mem) : Wp (callX (W (k + 1)) n__law_flow [.scr (ns.map .int)] M) fun r => ∃ i j, r.1 = .p (.ref i) ∧ Flow i j r.2 := by
  have key : Wp (W (k + 1) n__law_flow [.scr (ns.map .int)] M) fun r => ∃ i j, r.1 = .p (.ref i) ∧ M.length ≤ i ∧ Flow i j r.2 := by
    refine enter F__law_flow rfl rfl ?_
    generalize W k = V
    have cu : cutp (ns.map P.int) none (some 63) = ns.map P.int := by
      unfold cutp clip
      simp only [List.drop_zero, Nat.sub_zero]
      rw [if_neg (by decide)]
      apply List.take_of_length_le
      simp; omega
    have nl : newl (ns.map P.int) M = some (.p (.ref M.length), M ++ [ns.map .int]) := newl_ok (by simp [szl]; omega)
    simp [-Option.bind_some, F__law_flow, entry, cu, nl]
    rw [lcs_map P.int (fun (z : Int) => P.int (if z < 0 then -z else z)) (by simp) ns (fun z _ => by simp [-Option.bind_some, lcx, wipeE])]
    have nl2 : newl (ns.map fun (z : Int) => P.int (if z < 0 then -z else z)) (M ++ [ns.map .int]) = some (.p (.ref (M.length + 1)), M ++ [ns.map .int, ns.map fun (z : Int) => P.int (if z < 0 then -z else z)]) := by
      rw [newl_ok (by simp [szl]; omega)]; simp
    have nl3 : ∀ a : P, newl [.int 0, .int 0, .int 0, .int 0, a] (M ++ [ns.map .int, ns.map fun (z : Int) => P.int (if z < 0 then -z else z)]) = some (.p (.ref (M.length + 2)), M ++ [ns.map .int, ns.map fun (z : Int) => P.int (if z < 0 then -z else z), [.int 0, .int 0, .int 0, .int 0, a]]) := fun a => by
      rw [newl_ok (by simp [szl])]; simp
    simp [-Option.bind_some, nl2, nl3]
    refine ⟨M.length + 1, by omega, 0, 0, 0, 0, ns.map fun (z : Int) => if z < 0 then -z else z, get_e2 _ _ _ _ _, ?_, ?_⟩
    · simp [List.map_map, Function.comp]
    · simpa using h
  obtain ⟨⟨d, M'⟩, e, i, j, h1, h2, h3⟩ := key
  dsimp only at h1 h3
  subst h1
  refine ⟨(.p (.ref i), M'), ?_, i, j, rfl, h3⟩
  unfold callX
  rw [e]
  exact congrArg some (back_new h2)

end K30
end

section
set_option linter.all false
set_option autoImplicit false
set_option maxRecDepth 10000
set_option exponentiation.threshold 100000
set_option maxHeartbeats 4000000
namespace K30
open PySem IX
/-- a pair of numbers -/
def pr (q : Rat × Rat) : P := .tup [fr q.1, fr q.2]
theorem pr_row (q : Rat × Rat) : pr q = row [q.1, q.2] := by rfl
theorem pr_cl (q : Rat × Rat) : (pr q).cl := fun n => by simp [pr]
theorem pr_nil (q : Rat × Rat) (M : Mem) : cmpop .eq (.p (pr q)) (.p (.tup [])) M = some false := ceq_nil (by simp [P.fits, fit_fr])
theorem pr0 (q : Rat × Rat) (M : Mem) : index (.p (pr q)) (.p (.int 0)) M = some (fr q.1) := by rfl
theorem pr1 (q : Rat × Rat) (M : Mem) : index (.p (pr q)) (.p (.int 1)) M = some (fr q.2) := by rfl

theorem c_is_whole (k : Nat) (i : Int) (M : Mem) : callX (W (k + 1)) n__law_is_whole [.p (.int i)] M = some (.p (.bl true), M) := by
  refine (pure_of (cl_bl _) (enter F__law_is_whole rfl rfl ?_)).call
  generalize W k = V
  simp [-Option.bind_some, F__law_is_whole, entry]
theorem c_is_fraction (k : Nat) {m : Nat} {q : Rat} (h : Bd m q) (hm : m ≤ 4000) (M : Mem) : callX (W (k + 2)) n__law_is_fraction [.p (fr q)] M = some (.p (.bl true), M) := by
  refine (pure_of (cl_bl _) (enter F__law_is_fraction rfl rfl ?_)).call
  have w := fun i => c_is_whole k i M
  have c := c_lfrac k q.num q.den rfl q.den_pos (Nat.lt_of_lt_of_le (big h.2 hm) (Nat.pow_le_pow_right (by decide) (by omega))) M
  rw [Rat.mkRat_self] at c
  have ce := ceq_fr q q M
  generalize W (k + 1) = V at w c ⊢
  have hd : (0 : Int) < (q.den : Int) := by have := q.den_pos; omega
  unfold fr at c ce ⊢
  simp [-Option.bind_some, F__law_is_fraction, entry, w, c, q.den_pos]
  rw [ce]
  simp

end K30
end

section
set_option linter.all false
set_option autoImplicit false
set_option maxRecDepth 10000
set_option exponentiation.threshold 100000
set_option maxHeartbeats 4000000
namespace K30
open PySem IX
/-- what the acts bring at some pays, less their costs -/
def netsOf (cs : List Rat) (T : List (List Rat)) (ps : List Rat) : List Rat := (T.zip cs).map fun q => dot q.1 ps - q.2
def barOf (cs : List Rat) (T : List (List Rat)) (ps : List Rat) : Rat := fmax 0 (netsOf cs T ps)
theorem g_zero3 : List.lookup ("ZERO" : Str) pg.G = some (fr 0) := by rfl
theorem netsOf_bd {cs : List Rat} {T : List (List Rat)} {ps : List Rat} (hc : AllB 8 cs) (hT : ∀ r ∈ T, Cha ps.length r) (hp : AllB 12 ps) (h6 : ps.length ≤ 6) : AllB 160 (netsOf cs T ps) := by
  intro q hq
  obtain ⟨x, hx, rfl⟩ := List.mem_map.mp hq
  have hx := List.of_mem_zip (a := x.1) (b := x.2) hx
  have h := hT _ hx.1
  refine ((Bd.dot (h.2.2.2.mono (by decide)) hp).sub (hc _ hx.2)).mono ?_
  rw [h.1]; omega
theorem barOf_bd {cs : List Rat} {T : List (List Rat)} {ps : List Rat} (hc : AllB 8 cs) (hT : ∀ r ∈ T, Cha ps.length r) (hp : AllB 12 ps) (h6 : ps.length ≤ 6) : Bd 160 (barOf cs T ps) := by
  obtain ⟨_, _, h⟩ := fmax_ge (netsOf cs T ps) 0
  unfold barOf
  rcases h with h | h
  · rw [h]; exact bdz.mono (by decide)
  · exact netsOf_bd hc hT hp h6 _ h
theorem c_net_bound (k : Nat) {cs ps : List Rat} {T : List (List Rat)} (hc : AllB 8 cs) (h4 : cs.length ≤ 4) (hT : ∀ r ∈ T, Cha ps.length r) (hp : AllB 12 ps) (h6 : ps.length ≤ 6) (M : Mem) : callX (W (k + 6)) n_net_bound [.p (workP cs T), .p (row ps)] M = some (.p (fr (barOf cs T ps)), M) := by
  refine (pure_of (fr_cl _) (enter F_net_bound rfl rfl ?_)).call
  have cd : ∀ q ∈ T.zip cs, callX (W (k + 5)) n_dot [.p (row q.1), .p (row ps)] M = some (.p (fr (dot q.1 ps)), M) := fun q hq => by
    have h := hT q.1 (List.of_mem_zip (a := q.1) (b := q.2) hq).1
    have hl := h.1
    exact c_dot k 12 q.1 ps (h.2.2.2.mono (by decide)) hp (by omega) (by omega) (by omega) (by omega) (Seq.tup M _) (Seq.tup M _)
  have cm : ∀ q ∈ T.zip cs, callX (W (k + 5)) n_minus [.p (fr (dot q.1 ps)), .p (fr q.2)] M = some (.p (fr (dot q.1 ps - q.2)), M) := fun q hq => by
    have hx := List.of_mem_zip (a := q.1) (b := q.2) hq
    have h := hT q.1 hx.1
    exact c_minus (k + 2) (m := 160) ((Bd.dot (h.2.2.2.mono (by decide)) hp).mono (by rw [h.1]; omega)) (hc _ hx.2) (by decide) (by decide) M
  have nb := netsOf_bd hc hT hp h6
  have ln : (netsOf cs T ps).length ≤ 4 := by simp [netsOf]; omega
  have nl1 : newl [fr 0] M = some (.p (.ref M.length), M ++ [[fr 0]]) := newl_ok (by simp [szl])
  have nl1' : newl ((netsOf cs T ps).map fr) M = some (.p (.ref M.length), M ++ [(netsOf cs T ps).map fr]) := newl_ok (by rw [List.length_map, szl]; omega)
  have nl2 : newl [fr 0] (M ++ [(netsOf cs T ps).map fr]) = some (.p (.ref (M.length + 1)), M ++ [(netsOf cs T ps).map fr, [fr 0]]) := by rw [newl_ok (by simp [szl])]; simp
  have nl3 : newl (fr 0 :: (netsOf cs T ps).map fr) (M ++ [(netsOf cs T ps).map fr, [fr 0]]) = some (.p (.ref (M.length + 2)), M ++ [(netsOf cs T ps).map fr, [fr 0], fr 0 :: (netsOf cs T ps).map fr]) := by
    rw [newl_ok (by rw [List.length_cons, List.length_map, szl]; omega)]; simp
  have cg := c_greatest_of (k + 3) 0 (netsOf cs T ps) (m := 160) (by
    intro q hq
    rcases List.mem_cons.mp hq with rfl | hq
    · exact bdz.mono (by decide)
    · exact nb _ hq) (by decide) (M := M ++ [(netsOf cs T ps).map fr, [fr 0], fr 0 :: (netsOf cs T ps).map fr]) (d := .p (.ref (M.length + 2))) (Seq.ref (by rw [get_e2]; rfl))
  rw [show (netsOf cs T ps).foldl (fun b x => if b < x then x else b) 0 = barOf cs T ps from rfl] at cg
  have zz := zipP_map row fr T cs
  have en : ((T.zip cs).map fun q => fr (dot q.1 ps - q.2)) = (netsOf cs T ps).map fr := by rw [netsOf, List.map_map]; rfl
  generalize W (k + 5) = V at *
  simp [-Option.bind_some, F_net_bound, entry]
  simp [-Option.bind_some, row, workP, tabP]
  have zz' : zipP (T.map row) (cs.map fr) = _ := zz
  rw [zz']
  rw [lcs_map (fun q : List Rat × Rat => P.tup [row q.1, fr q.2]) (fun q => fr (dot q.1 ps - q.2)) rfl (T.zip cs) (fun q hq => by
    have h1 := cd q hq
    have h2 := cm q hq
    unfold row at h1 ⊢
    simp [-Option.bind_some, lcx, wipeE, h1, h2]), en]
  have ev : (netsOf cs T ps).map fr = List.map fr (netsOf cs T ps) := rfl
  simp [-Option.bind_some, nl1', g_zero3, nl2, nl3, cg]
theorem c_row_minus (k : Nat) {hs ps : List Rat} (hl : hs.length = ps.length) (hh : AllB 12 hs) (hp : AllB 12 ps) (h6 : ps.length ≤ 6) (M : Mem) : callX (W (k + 4)) n_row_minus [.p (row hs), .p (row ps)] M = some (.p (row ((List.range hs.length).map fun a => gf hs a - gf ps a)), M) := by
  refine (pure_of (row_cl _) (enter F_row_minus rfl rfl ?_)).call
  have cm : ∀ q ∈ hs.zip ps, callX (W (k + 3)) n_minus [.p (fr q.1), .p (fr q.2)] M = some (.p (fr (q.1 - q.2)), M) := fun q hq => by
    have hx := List.of_mem_zip (a := q.1) (b := q.2) hq
    exact c_minus k (hh _ hx.1) (hp _ hx.2) (by decide) (by decide) M
  have e : (hs.zip ps).map (fun q => fr (q.1 - q.2)) = ((List.range hs.length).map fun a => gf hs a - gf ps a).map fr := by
    apply List.ext_getElem (by simp [hl])
    intro i h1 h2
    have h3 : i < hs.length := by simpa using h2
    have e1 := gf_get (l := hs) h3
    have e2 := gf_get (l := ps) (a := i) (by omega)
    rw [List.getElem?_eq_getElem h3] at e1
    rw [List.getElem?_eq_getElem (by omega)] at e2
    simp at e1 e2 ⊢
    rw [e1, e2]
  have zz := zipP_map fr fr hs ps
  generalize W (k + 3) = V at cm ⊢
  simp [-Option.bind_some, F_row_minus, entry]
  simp [-Option.bind_some, row, zz]
  rw [gturns_map (fun q : Rat × Rat => P.tup [fr q.1, fr q.2]) (fun q => fr (q.1 - q.2)) (hs.zip ps)]
  · rw [e]
    simp [-Option.bind_some, len_ok (show hs.length ≤ 4000 by omega)]
  · intro q hq
    simp [-Option.bind_some, gnx, wipeE, cm q hq]
theorem c_lessI (k : Nat) {a b c d : Int} (h1 : Sm a) (h2 : Sm b) (h3 : Sm c) (h4 : Sm d) (M : Mem) : callX (W (k + 1)) n_less [.p (.tup [.int a, .int b]), .p (.tup [.int c, .int d])] M = some (.p (.bl (decide (a * d < c * b))), M) := by
  refine (pure_of (cl_bl _) (enter F_less rfl rfl ?_)).call
  simp [-Option.bind_some, F_less, entry, mulOk_sm h1 h4, mulOk_sm h3 h2]
def gi (l : List Int) (a : Nat) : Int := l.getD a 0
theorem gi_get {l : List Int} {a : Nat} (h : a < l.length) : l[a]? = some (gi l a) := by simp [gi, List.getD_eq_getElem?_getD, h]
theorem gi_mem {l : List Int} {a : Nat} (h : a < l.length) : gi l a ∈ l := List.mem_of_getElem? (gi_get h)
theorem atx_gi {l : List Int} {a : Nat} (ha : a < l.length) : atx (l.map P.int) (a : Int) = some (.int (gi l a)) := atx_nat (by rw [List.getElem?_map, gi_get ha]; rfl)
theorem enum_gi (l : List Int) : enumP 0 (l.map P.int) = (List.range l.length).map fun a => .tup [.int (a : Int), .int (gi l a)] := by
  rw [enumP_map]
  apply List.ext_getElem?
  intro i
  simp only [List.getElem?_map, List.getElem?_zipIdx, List.getElem?_range]
  by_cases h : i < l.length
  · rw [gi_get h]; simp [h]
  · simp [h]
theorem zip_gi (s w : List Int) (hl : s.length = w.length) : zipP (s.map P.int) (w.map P.int) = (List.range w.length).map fun a => .tup [.int (gi s a), .int (gi w a)] := by
  rw [zipP_map]
  apply List.ext_getElem (by simp [hl])
  intro i h1 h2
  have h3 : i < w.length := by simpa using h2
  have e1 := gi_get (l := s) (a := i) (by omega)
  have e2 := gi_get (l := w) h3
  rw [List.getElem?_eq_getElem (by omega)] at e1
  rw [List.getElem?_eq_getElem h3] at e2
  simp at e1 e2 ⊢
  rw [e1, e2]; exact ⟨rfl, rfl⟩
/-- a corner: a result at or over the need, or one over it with one under it -/
def okC (w : List Int) (N : Int) (x : Nat × Nat) : Prop := x.1 < w.length ∧ x.2 < w.length ∧ ((x.1 = x.2 ∧ N ≤ gi w x.1) ∨ (gi w x.2 < N ∧ N < gi w x.1))
def topI (s w : List Int) (N : Int) (x : Nat × Nat) : Int := if x.1 = x.2 then gi s x.1 else (N - gi w x.2) * gi s x.1 + (gi w x.1 - N) * gi s x.2
def undI (w : List Int) (x : Nat × Nat) : Int := if x.1 = x.2 then 1 else gi w x.1 - gi w x.2
def coP (s w : List Int) (N : Int) (x : Nat × Nat) : P := .tup [.int (topI s w N x), .int (undI w x), .int x.1, .int x.2]
def AllZ (m : Nat) (l : List Int) : Prop := ∀ i ∈ l, i.natAbs < 2 ^ m
theorem sm_of {m : Nat} {i : Int} (h : i.natAbs < 2 ^ m) (hm : m ≤ 4000) : Sm i := big h hm
theorem w_corners (k : Nat) {s w : List Int} {N : Int} (hl : s.length = w.length) (h6 : w.length ≤ 6) (hs : AllZ 1400 s) (hw : AllZ 1400 w) (hN : N.natAbs < 2 ^ 1400) (M : Mem) :
    ∃ L : List (Nat × Nat), (∀ x, x ∈ L ↔ okC w N x) ∧ callX (W (k + 1)) n_corners [.p (.tup (s.map P.int)), .p (.tup (w.map P.int)), .p (.int N)] M = some (.p (.ref M.length), M ++ [L.map (coP s w N)]) := by
  suffices h : Wp (W (k + 1) n_corners [.p (.tup (s.map P.int)), .p (.tup (w.map P.int)), .p (.int N)] M) fun r => ∃ L : List (Nat × Nat), (∀ x, x ∈ L ↔ okC w N x) ∧ r = (.p (.ref M.length), M ++ [L.map (coP s w N)]) by
    obtain ⟨r, e, L, h1, rfl⟩ := h
    refine ⟨L, h1, ?_⟩
    unfold callX
    rw [e]
    exact congrArg some (back_new (Nat.le_refl _))
  refine enter F_corners rfl rfl ?_
  have nl : newl [] M = some (.p (.ref M.length), M ++ [[]]) := newl_ok (by decide)
  have ixs : ∀ (a : Nat) (M : Mem), a < w.length → index (.p (.tup (s.map P.int))) (.p (.int (a : Int))) M = some (.int (gi s a)) := fun a M ha => by rw [ix_tup]; exact atx_gi (by omega)
  have sub1 : ∀ a, a < w.length → Sm (N - gi w a) := fun a ha => sm_of (m := 1401) (by have := hw _ (gi_mem ha); omega) (by decide)
  have sub2 : ∀ a, a < w.length → Sm (gi w a - N) := fun a ha => sm_of (m := 1401) (by have := hw _ (gi_mem ha); omega) (by decide)
  have sms : ∀ a, a < w.length → Sm (gi s a) := fun a ha => sm_of (hs _ (gi_mem (by omega))) (by decide)
  generalize W k = V
  simp [-Option.bind_some, F_corners, entry, nl, enum_gi]
  refine lop_wpJ (fun a : Nat => P.tup [.int (a : Int), .int (gi w a)]) (fun pre r ρ M' => ∃ (L : List (Nat × Nat)) (z4 z5 z6 z7 z8 : Option D), M' = M ++ [L.map (coP s w N)] ∧ ρ = [some (.p (.tup (s.map P.int))), some (.p (.tup (w.map P.int))), some (.p (.int N)), some (.p (.ref M.length)), z4, z5, z6, z7, z8] ∧ L.length ≤ pre.length * 7 ∧ ∀ x, x ∈ L ↔ okC w N x ∧ x.1 < pre.length) (List.range w.length)
    ⟨[], none, none, none, none, none, rfl, rfl, by simp, fun x => by simp⟩ ?_ ?_
  · rintro J Q hJ - pre a r ρ M' hr ⟨L, z4, z5, z6, z7, z8, rfl, rfl, hLl, hL⟩
    obtain ⟨ea, hlt⟩ := range_at hr
    subst ea
    have sl : L.length < sizeLine := by rw [szl]; omega
    have x1 := ixs pre.length
    simp only [put_tp, puts_cons, puts_nil, put_nm, List.length_cons, List.length_nil, Nat.zero_add, Nat.reduceAdd, Nat.reduceLT, if_true, List.set_cons_succ, List.set_cons_zero, Option.bind_some]
    have ge1 : (M ++ [L.map (coP s w N)])[M.length]? = some (L.map (coP s w N)) := get_end _ _
    rw [wp_cons]
    refine Wp.mono (P := fun o => ∃ (L1 : List (Nat × Nat)), o = .nx [some (.p (.tup (s.map P.int))), some (.p (.tup (w.map P.int))), some (.p (.int N)), some (.p (.ref M.length)), some (.p (.int (pre.length : Int))), some (.p (.int (gi w pre.length))), z6, z7, z8] (M ++ [L1.map (coP s w N)]) ∧ L1.length ≤ pre.length * 7 + 1 ∧ ∀ x, x ∈ L1 ↔ okC w N x ∧ (x.1 < pre.length ∨ (x.1 = pre.length ∧ x.1 = x.2))) ?_ ?_
    · by_cases h : N ≤ gi w pre.length
      · have ec : coP s w N (pre.length, pre.length) = .tup [.int (gi s pre.length), .int 1, .int (pre.length : Int), .int (pre.length : Int)] := by simp [coP, topI, undI]
        simp [-Option.bind_some, -ix_tup, h, x1, hlt, s3, s4, sl]
        refine ⟨L ++ [(pre.length, pre.length)], by simp [ec], by simp; omega, fun a b => ?_⟩
        rw [List.mem_append, hL, List.mem_singleton]
        constructor
        · rintro (⟨h1, h2⟩ | h1)
          · exact ⟨h1, .inl h2⟩
          · cases h1; exact ⟨⟨hlt, hlt, .inl ⟨rfl, h⟩⟩, .inr ⟨rfl, rfl⟩⟩
        · rintro ⟨h1, h2 | ⟨h2, h3⟩⟩
          · exact .inl ⟨h1, h2⟩
          · right; rw [Prod.mk.injEq]; exact ⟨h2, by omega⟩
      · simp [-Option.bind_some, -ix_tup, h]
        refine ⟨L, rfl, by omega, fun a b => ?_⟩
        rw [hL]
        constructor
        · rintro ⟨h1, h2⟩
          exact ⟨h1, .inl h2⟩
        · rintro ⟨h1, h2 | ⟨h2, h3⟩⟩
          · exact ⟨h1, h2⟩
          · exfalso
            subst h2; subst h3
            rcases h1.2.2 with ⟨_, z⟩ | ⟨z1, z2⟩
            · exact h z
            · have z1 : gi w pre.length < N := z1
              have z2 : N < gi w pre.length := z2
              omega
    rintro o ⟨L1, rfl, hl1, hL1⟩
    rw [after_nx]
    by_cases h : N < gi w pre.length
    · simp [-Option.bind_some, -ix_tup, h, enum_gi]
      refine lop_wpJ (fun a : Nat => P.tup [.int (a : Int), .int (gi w a)]) (fun pre2 r ρ M' => ∃ (L2 : List (Nat × Nat)) (z6 z7 z8 : Option D), M' = M ++ [L2.map (coP s w N)] ∧ ρ = [some (.p (.tup (s.map P.int))), some (.p (.tup (w.map P.int))), some (.p (.int N)), some (.p (.ref M.length)), some (.p (.int (pre.length : Int))), some (.p (.int (gi w pre.length))), z6, z7, z8] ∧ L2.length ≤ pre.length * 7 + 1 + pre2.length ∧ ∀ x, x ∈ L2 ↔ okC w N x ∧ (x.1 < pre.length ∨ (x.1 = pre.length ∧ (x.1 = x.2 ∨ x.2 < pre2.length)))) (List.range w.length)
        ⟨L1, z6, z7, z8, rfl, rfl, by simpa using hl1, fun x => by rw [hL1]; simp⟩ ?_ ?_
      · rintro J2 Q2 hJ2 - pre2 b r2 ρ M' hr2 ⟨L2, z6, z7, z8, rfl, rfl, hl2, hL2⟩
        obtain ⟨eb, hlt2⟩ := range_at hr2
        subst eb
        have sl2 : L2.length < sizeLine := by rw [szl]; omega
        have x2 := ixs pre2.length
        by_cases g : gi w pre2.length < N
        · have ne : ¬ (pre.length = pre2.length) := fun z => by rw [← z] at g; omega
          have ec : coP s w N (pre.length, pre2.length) = .tup [.int ((N - gi w pre2.length) * gi s pre.length + (gi w pre.length - N) * gi s pre2.length), .int (gi w pre.length - gi w pre2.length), .int (pre.length : Int), .int (pre2.length : Int)] := by simp [coP, topI, undI, ne]
          have m1 := mulOk_sm (sub1 pre2.length hlt2) (sms pre.length hlt)
          have m2 := mulOk_sm (sub2 pre.length hlt) (sms pre2.length hlt2)
          simp [-Option.bind_some, -ix_tup, g, x1, x2, hlt, hlt2, m1, m2, s4, sl2]
          rw [hJ2]
          refine ⟨L2 ++ [(pre.length, pre2.length)], _, _, _, by simp [ec], rfl, by simp; omega, fun x => ?_⟩
          rw [List.mem_append, hL2, List.mem_singleton, List.length_append, List.length_singleton]
          constructor
          · rintro (⟨h1, h2 | ⟨h2, h3⟩⟩ | h1)
            · exact ⟨h1, .inl h2⟩
            · exact ⟨h1, .inr ⟨h2, by omega⟩⟩
            · subst h1; exact ⟨⟨hlt, hlt2, .inr ⟨g, h⟩⟩, .inr ⟨rfl, .inr (Nat.lt_succ_self _)⟩⟩
          · rintro ⟨h1, h2 | ⟨h2, h3⟩⟩
            · exact .inl ⟨h1, .inl h2⟩
            · by_cases e : x.2 = pre2.length
              · right; exact Prod.ext h2 e
              · exact .inl ⟨h1, .inr ⟨h2, by omega⟩⟩
        · simp [-Option.bind_some, -ix_tup, g]
          rw [hJ2]
          refine ⟨L2, _, _, _, rfl, rfl, by simp; omega, fun x => ?_⟩
          rw [hL2, List.length_append, List.length_singleton]
          constructor
          · rintro ⟨h1, h2 | ⟨h2, h3⟩⟩
            · exact ⟨h1, .inl h2⟩
            · exact ⟨h1, .inr ⟨h2, by omega⟩⟩
          · rintro ⟨h1, h2 | ⟨h2, h3⟩⟩
            · exact ⟨h1, .inl h2⟩
            · refine ⟨h1, .inr ⟨h2, ?_⟩⟩
              by_cases e : x.2 = pre2.length
              · rcases h1.2.2 with ⟨z, _⟩ | ⟨z, _⟩
                · exact .inl z
                · rw [e] at z; exact absurd z g
              · rcases h3 with h3 | h3
                · exact .inl h3
                · exact .inr (by omega)
      · rintro ρ M' ⟨L2, z6, z7, z8, rfl, rfl, hl2, hL2⟩
        rw [List.length_range] at hl2 hL2
        simp [-Option.bind_some]
        rw [hJ]
        refine ⟨L2, _, _, _, _, _, rfl, rfl, by simp; omega, fun x => ?_⟩
        rw [hL2, List.length_append, List.length_singleton]
        constructor
        · rintro ⟨h1, h2 | ⟨h2, h3⟩⟩
          · exact ⟨h1, by omega⟩
          · exact ⟨h1, by omega⟩
        · rintro ⟨h1, h2⟩
          refine ⟨h1, ?_⟩
          by_cases e : x.1 = pre.length
          · exact .inr ⟨e, .inr h1.2.1⟩
          · exact .inl (by omega)
    · simp [-Option.bind_some, -ix_tup, h]
      rw [hJ]
      refine ⟨L1, _, _, _, _, _, rfl, rfl, by simp; omega, fun x => ?_⟩
      rw [hL1, List.length_append, List.length_singleton]
      constructor
      · rintro ⟨h1, h2 | ⟨h2, h3⟩⟩
        · exact ⟨h1, by omega⟩
        · exact ⟨h1, by omega⟩
      · rintro ⟨h1, h2⟩
        refine ⟨h1, ?_⟩
        by_cases e : x.1 = pre.length
        · right
          refine ⟨e, ?_⟩
          rcases h1.2.2 with ⟨z, _⟩ | ⟨_, z⟩
          · exact z
          · rw [e] at z; exact absurd z h
        · exact .inl (by omega)
  · rintro ρ M' ⟨L, z4, z5, z6, z7, z8, rfl, rfl, hLl, hL⟩
    simp [-Option.bind_some]
    refine ⟨L, fun a b => ?_, rfl⟩
    rw [hL]
    exact ⟨fun h => h.1, fun h => ⟨h, by simpa using h.1⟩⟩
def valI (s w : List Int) (N : Int) (x : Nat × Nat) : Rat := (topI s w N x : Rat) / (undI w x : Rat)
theorem und_pos {w : List Int} {N : Int} {x : Nat × Nat} (h : okC w N x) : 0 < undI w x := by
  unfold undI
  by_cases e : x.1 = x.2
  · rw [if_pos e]; decide
  · rw [if_neg e]
    rcases h.2.2 with ⟨z, _⟩ | ⟨z, z'⟩
    · exact absurd z e
    · omega
theorem div_lt {a b c d : Int} (hb : 0 < b) (hd : 0 < d) : (a * d < c * b) = ((a : Rat) / b < (c : Rat) / d) := by
  have hb' : (0 : Rat) < (b : Rat) := Rat.intCast_pos.mpr hb
  have hd' : (0 : Rat) < (d : Rat) := Rat.intCast_pos.mpr hd
  apply propext
  have e : (c : Rat) / d * b = (c * b) / d := by rw [Rat.div_def, Rat.div_def]; grind
  rw [Rat.div_lt_iff hb', e, Rat.lt_div_iff hd', ← Rat.intCast_mul, ← Rat.intCast_mul, Rat.intCast_lt_intCast]
theorem top_sm {s w : List Int} {N : Int} (hl : s.length = w.length) (hs : AllZ 1400 s) (hw : AllZ 1400 w) (hN : N.natAbs < 2 ^ 1400) {x : Nat × Nat} (h : okC w N x) : (topI s w N x).natAbs < 2 ^ 2802 ∧ (undI w x).natAbs < 2 ^ 1401 := by
  have a1 := hs _ (gi_mem (l := s) (a := x.1) (by rw [hl]; exact h.1))
  have a2 := hs _ (gi_mem (l := s) (a := x.2) (by rw [hl]; exact h.2.1))
  have b1 := hw _ (gi_mem h.1)
  have b2 := hw _ (gi_mem h.2.1)
  unfold topI undI
  by_cases e : x.1 = x.2
  · rw [if_pos e, if_pos e]
    exact ⟨Nat.lt_trans a1 (Nat.pow_lt_pow_right (by decide) (by decide)), Nat.lt_of_lt_of_le (show (1 : Int).natAbs < 2 ^ 1 by decide) (Nat.pow_le_pow_right (by decide) (by decide))⟩
  · rw [if_neg e, if_neg e]
    generalize gi s x.1 = y1 at *
    generalize gi s x.2 = y2 at *
    generalize gi w x.1 = v1 at *
    generalize gi w x.2 = v2 at *
    refine ⟨?_, by omega⟩
    have c1 : (N - v2).natAbs < 2 ^ 1401 := by omega
    have c2 : (v1 - N).natAbs < 2 ^ 1401 := by omega
    have d1 := pw c1 a1
    have d2 := pw c2 a2
    refine Nat.lt_of_le_of_lt (Int.natAbs_add_le _ _) ?_
    rw [Int.natAbs_mul, Int.natAbs_mul]
    have : 2 ^ (1401 + 1400) + 2 ^ (1401 + 1400) = 2 ^ 2802 := by rw [← Nat.two_mul, ← Nat.pow_succ']
    omega
theorem c_least_corner (k : Nat) {s w : List Int} {N : Int} (hl : s.length = w.length) (h6 : w.length ≤ 6) (hs : AllZ 1400 s) (hw : AllZ 1400 w) (hN : N.natAbs < 2 ^ 1400) (hne : ∃ x, okC w N x) (M : Mem) :
    ∃ x : Nat × Nat, okC w N x ∧ (∀ y, okC w N y → valI s w N x ≤ valI s w N y) ∧ callX (W (k + 2)) n_least_corner [.p (.tup (s.map P.int)), .p (.tup (w.map P.int)), .p (.int N)] M = some (.p (coP s w N x), M) := by
  obtain ⟨L, hL, cc⟩ := w_corners k hl h6 hs hw hN M
  have cl : ∀ x y, okC w N x → okC w N y → ∀ M, callX (W (k + 1)) n_less [.p (.tup [.int (topI s w N x), .int (undI w x)]), .p (.tup [.int (topI s w N y), .int (undI w y)])] M = some (.p (.bl (decide (valI s w N x < valI s w N y))), M) := fun x y hx hy M => by
    have a := top_sm hl hs hw hN hx
    have b := top_sm hl hs hw hN hy
    rw [c_lessI k (sm_of a.1 (by decide)) (sm_of a.2 (by decide)) (sm_of b.1 (by decide)) (sm_of b.2 (by decide)) M, decide_eq_decide.mpr (div_lt (und_pos hx) (und_pos hy)).to_iff]
    rfl
  suffices h : Wp (W (k + 2) n_least_corner [.p (.tup (s.map P.int)), .p (.tup (w.map P.int)), .p (.int N)] M) fun r => ∃ x : Nat × Nat, okC w N x ∧ (∀ y, okC w N y → valI s w N x ≤ valI s w N y) ∧ r.1 = .p (coP s w N x) ∧ ∃ X, r.2 = M ++ X by
    obtain ⟨r, e, x, hx, hm, h⟩ := h
    exact ⟨x, hx, hm, (pure_of (fun n => by simp [coP]) ⟨r, e, h⟩).call⟩
  refine enter F_least_corner rfl rfl ?_
  obtain ⟨c0, L', e0⟩ : ∃ c0 L', L = c0 :: L' := by
    cases L with
    | nil => obtain ⟨x, hx⟩ := hne; have := (hL x).mpr hx; simp at this
    | cons a l => exact ⟨a, l, rfl⟩
  have h0 : okC w N c0 := (hL c0).mp (by rw [e0]; simp)
  have sli : ∀ x M, slice (.p (coP s w N x)) none (some 2) M = some (.p (.tup [.int (topI s w N x), .int (undI w x)]), M) := fun x M => by rfl
  have ge : (M ++ [L.map (coP s w N)])[M.length]? = some (L.map (coP s w N)) := get_end _ _
  have a0 : atx (L.map (coP s w N)) 0 = some (coP s w N c0) := by rw [e0]; exact atx0 _ _
  generalize W (k + 1) = V at *
  simp [-Option.bind_some, F_least_corner, entry, cc, ge, a0]
  refine lop_wpJ (coP s w N) (fun pre r ρ M' => M' = M ++ [L.map (coP s w N)] ∧ ∃ (x : Nat × Nat) (z5 : Option D), ρ = [some (.p (.tup (s.map P.int))), some (.p (.tup (w.map P.int))), some (.p (.int N)), some (.p (.ref M.length)), some (.p (coP s w N x)), z5] ∧ okC w N x ∧ ∀ y ∈ pre, valI s w N x ≤ valI s w N y) L ⟨rfl, c0, none, rfl, h0, by simp⟩ ?_ ?_
  · rintro J Q hJ - pre y r ρ M' hr ⟨rfl, x, z5, rfl, hx, hm⟩
    have hy : okC w N y := (hL y).mp (by rw [hr]; simp)
    have c := cl y x hy hx (M ++ [L.map (coP s w N)])
    by_cases h : valI s w N y < valI s w N x
    · rw [decide_eq_true h] at c
      simp [-Option.bind_some, sli, c]
      rw [hJ]
      exact ⟨rfl, y, _, rfl, hy, fun z hz => by
        rcases List.mem_append.mp hz with hz | hz
        · exact Rat.le_trans (Rat.le_of_lt h) (hm z hz)
        · rw [List.mem_singleton.mp hz]; exact Rat.le_refl⟩
    · rw [decide_eq_false h] at c
      simp [-Option.bind_some, sli, c]
      rw [hJ]
      exact ⟨rfl, x, _, rfl, hx, fun z hz => by
        rcases List.mem_append.mp hz with hz | hz
        · exact hm z hz
        · rw [List.mem_singleton.mp hz]; exact Rat.not_lt.mp h⟩
  · rintro ρ M' ⟨rfl, x, z5, rfl, hx, hm⟩
    simp [-Option.bind_some]
    exact ⟨x.1, x.2, hx, fun a b h => hm (a, b) ((hL _).mpr h), rfl⟩
/-- the slope kept: none, or that to a result -/
def slI (s w : List Int) (h : Nat) : Option Nat → Int × Int
  | none => (0, 1)
  | some r => (gi s h - gi s r, gi w h - gi w r)
def slV (s w : List Int) (h : Nat) (o : Option Nat) : Rat := ((slI s w h o).1 : Rat) / ((slI s w h o).2 : Rat)
def okS (w : List Int) (h : Nat) (o : Option Nat) : Prop := ∀ r, o = some r → r < w.length ∧ gi w r < gi w h
theorem sl_pos {s w : List Int} {h : Nat} {o : Option Nat} (ho : okS w h o) : 0 < (slI s w h o).2 := by
  cases o with
  | none => exact Int.one_pos
  | some r => have := (ho r rfl).2; show 0 < gi w h - gi w r; omega
theorem c_slope_at (k : Nat) {s w : List Int} (hl : s.length = w.length) (h6 : w.length ≤ 6) (hs : AllZ 1400 s) (hw : AllZ 1400 w) {h : Nat} (hh : h < w.length) (M : Mem) :
    ∃ o, okS w h o ∧ 0 ≤ slV s w h o ∧ (∀ r, r < w.length → gi w r < gi w h → slV s w h (some r) ≤ slV s w h o) ∧ callX (W (k + 2)) n_slope_at [.p (.tup (s.map P.int)), .p (.tup (w.map P.int)), .p (.int (h : Int))] M = some (.p (.tup [.int (slI s w h o).1, .int (slI s w h o).2]), M) := by
  have sb : ∀ o, okS w h o → Sm (slI s w h o).1 ∧ Sm (slI s w h o).2 := fun o ho => by
    cases o with
    | none => exact ⟨sm_of (m := 1) (show (0 : Int).natAbs < 2 ^ 1 by decide) (by decide), sm_of (m := 1) (show (1 : Int).natAbs < 2 ^ 1 by decide) (by decide)⟩
    | some r =>
      have a1 := hs _ (gi_mem (l := s) (a := r) (by rw [hl]; exact (ho r rfl).1))
      have a2 := hs _ (gi_mem (l := s) (a := h) (by rw [hl]; exact hh))
      have b1 := hw _ (gi_mem (ho r rfl).1)
      have b2 := hw _ (gi_mem hh)
      exact ⟨sm_of (m := 1401) (show (gi s h - gi s r).natAbs < _ by omega) (by decide), sm_of (m := 1401) (show (gi w h - gi w r).natAbs < _ by omega) (by decide)⟩
  have cl : ∀ x y, okS w h x → okS w h y → ∀ M, callX (W (k + 1)) n_less [.p (.tup [.int (slI s w h x).1, .int (slI s w h x).2]), .p (.tup [.int (slI s w h y).1, .int (slI s w h y).2])] M = some (.p (.bl (decide (slV s w h x < slV s w h y))), M) := fun x y hx hy M => by
    have a := sb x hx
    have b := sb y hy
    rw [c_lessI k a.1 a.2 b.1 b.2 M, decide_eq_decide.mpr (div_lt (sl_pos hx) (sl_pos hy)).to_iff]
    rfl
  suffices hh : Wp (W (k + 2) n_slope_at [.p (.tup (s.map P.int)), .p (.tup (w.map P.int)), .p (.int (h : Int))] M) fun r => ∃ o, okS w h o ∧ 0 ≤ slV s w h o ∧ (∀ r, r < w.length → gi w r < gi w h → slV s w h (some r) ≤ slV s w h o) ∧ r.1 = .p (.tup [.int (slI s w h o).1, .int (slI s w h o).2]) ∧ ∃ X, r.2 = M ++ X by
    obtain ⟨r, e, o, ho, h0, hm, h⟩ := hh
    exact ⟨o, ho, h0, hm, (pure_of (fun n => by simp) ⟨r, e, h⟩).call⟩
  refine enter F_slope_at rfl rfl ?_
  have ixs : ∀ (M : Mem), index (.p (.tup (s.map P.int))) (.p (.int (h : Int))) M = some (.int (gi s h)) := fun M => by rw [ix_tup]; exact atx_gi (by omega)
  have ixw : ∀ (M : Mem), index (.p (.tup (w.map P.int))) (.p (.int (h : Int))) M = some (.int (gi w h)) := fun M => by rw [ix_tup]; exact atx_gi hh
  have z0 : slV s w h none = 0 := by show ((0 : Int) : Rat) / ((1 : Int) : Rat) = 0; rw [Rat.div_def]; exact Rat.zero_mul _
  generalize W (k + 1) = V at *
  simp [-Option.bind_some, F_slope_at, entry, zip_gi s w hl, s2]
  refine lop_wpJ (fun a : Nat => P.tup [.int (gi s a), .int (gi w a)]) (fun pre r ρ M' => M' = M ∧ ∃ (o : Option Nat) (z4 z5 z6 : Option D), ρ = [some (.p (.tup (s.map P.int))), some (.p (.tup (w.map P.int))), some (.p (.int (h : Int))), some (.p (.tup [.int (slI s w h o).1, .int (slI s w h o).2])), z4, z5, z6] ∧ okS w h o ∧ 0 ≤ slV s w h o ∧ ∀ r, r < pre.length → gi w r < gi w h → slV s w h (some r) ≤ slV s w h o) (List.range w.length) ⟨rfl, none, none, none, none, rfl, (fun r hr => by cases hr), by rw [z0]; exact Rat.le_refl, by simp⟩ ?_ ?_
  · rintro J Q hJ - pre a r ρ M' hr ⟨rfl, o, z4, z5, z6, rfl, ho, h0, hm⟩
    obtain ⟨ea, hlt⟩ := range_at hr
    subst ea
    by_cases g : gi w pre.length < gi w h
    · have hn : okS w h (some pre.length) := fun r hr => by cases hr; exact ⟨hlt, g⟩
      have c := cl o (some pre.length) ho hn M'
      have ei : slI s w h (some pre.length) = (gi s h - gi s pre.length, gi w h - gi w pre.length) := rfl
      rw [ei] at c
      dsimp only at c
      by_cases f : slV s w h o < slV s w h (some pre.length)
      · rw [decide_eq_true f] at c
        simp [-Option.bind_some, -ix_tup, ixs, ixw, g, s2, c]
        rw [hJ]
        refine ⟨rfl, some pre.length, _, _, _, rfl, hn, Rat.le_trans h0 (Rat.le_of_lt f), fun r hr hw => ?_⟩
        rw [List.length_append, List.length_singleton] at hr
        by_cases e : r = pre.length
        · rw [e]; exact Rat.le_refl
        · exact Rat.le_trans (hm r (by omega) hw) (Rat.le_of_lt f)
      · rw [decide_eq_false f] at c
        simp [-Option.bind_some, -ix_tup, ixs, ixw, g, s2, c]
        rw [hJ]
        refine ⟨rfl, o, _, _, _, rfl, ho, h0, fun r hr hw => ?_⟩
        rw [List.length_append, List.length_singleton] at hr
        by_cases e : r = pre.length
        · rw [e]; exact Rat.not_lt.mp f
        · exact hm r (by omega) hw
    · simp [-Option.bind_some, -ix_tup, ixs, ixw, g]
      rw [hJ]
      refine ⟨rfl, o, _, _, _, rfl, ho, h0, fun r hr hw => ?_⟩
      rw [List.length_append, List.length_singleton] at hr
      by_cases e : r = pre.length
      · rw [e] at hw; exact absurd hw g
      · exact hm r (by omega) hw
  · rintro ρ M' ⟨rfl, o, z4, z5, z6, rfl, ho, h0, hm⟩
    rw [List.length_range] at hm
    simp [-Option.bind_some]
    exact ⟨o, ho, h0, hm, ⟨rfl, rfl⟩⟩

end K30
end

section
set_option linter.all false
set_option autoImplicit false
set_option maxRecDepth 10000
set_option exponentiation.threshold 100000
set_option maxHeartbeats 4000000
namespace K30
open PySem IX
theorem dot_set : ∀ (l r : List Rat) (i : Nat) (x : Rat), l.length = r.length → i < l.length → dot (l.set i x) r = dot l r + (x - gf l i) * gf r i
  | [], _, _, _, _, h => by simp at h
  | y :: l, [], _, _, h, _ => by simp at h
  | y :: l, z :: r, 0, x, h, _ => by
    show x * z + dot l r = y * z + dot l r + (x - y) * z
    grind
  | y :: l, z :: r, i + 1, x, h, hi => by
    have := dot_set l r i x (by simpa using h) (by simpa using hi)
    show y * z + dot (l.set i x) r = y * z + dot l r + (x - gf l i) * gf r i
    rw [this]; grind
theorem sum_set : ∀ (l : List Rat) (i : Nat) (x : Rat), i < l.length → (l.set i x).sum = l.sum + (x - gf l i)
  | [], _, _, h => by simp at h
  | y :: l, 0, x, _ => by
    show x + l.sum = y + l.sum + (x - y)
    grind
  | y :: l, i + 1, x, hi => by
    have := sum_set l i x (by simpa using hi)
    show y + (l.set i x).sum = y + l.sum + (x - gf l i)
    rw [this]; grind
def zer (n : Nat) : List Rat := List.replicate n 0
theorem gf_zer (n i : Nat) : gf (zer n) i = 0 := by
  unfold gf zer
  rw [List.getD_eq_getElem?_getD, List.getElem?_replicate]
  split <;> rfl
theorem dot_zer : ∀ (n : Nat) (r : List Rat), dot (zer n) r = 0
  | 0, r => by simp [zer]
  | n + 1, [] => by simp
  | n + 1, x :: r => by
    have := dot_zer n r
    show 0 * x + dot (zer n) r = 0
    rw [this]; grind
theorem sum_zer : ∀ n : Nat, (zer n).sum = 0
  | 0 => rfl
  | n + 1 => by
    have := sum_zer n
    show (0 : Rat) + (zer n).sum = 0
    rw [this]; grind
theorem gf_set_ne {l : List Rat} {i j : Nat} {x : Rat} (h : i ≠ j) : gf (l.set i x) j = gf l j := by
  unfold gf
  rw [List.getD_eq_getElem?_getD, List.getD_eq_getElem?_getD, List.getElem?_set_ne h]
/-- one result for sure, or two -/
def onePt (n h : Nat) : List Rat := (zer n).set h 1
def twoPt (n h l : Nat) (a b : Rat) : List Rat := ((zer n).set h a).set l b
theorem zl (n : Nat) : (zer n).length = n := by simp [zer]
theorem one_ok {n h : Nat} (hh : h < n) : (onePt n h).length = n ∧ (onePt n h).sum = 1 ∧ (∀ r : List Rat, r.length = n → dot (onePt n h) r = gf r h) ∧ ∀ x ∈ onePt n h, x = 0 ∨ x = 1 := by
  refine ⟨by simp [onePt, zl], ?_, fun r hr => ?_, fun x hx => ?_⟩
  · rw [onePt, sum_set _ _ _ (by rw [zl]; exact hh), sum_zer, gf_zer]; grind
  · rw [onePt, dot_set _ _ _ _ (by rw [zl, hr]) (by rw [zl]; exact hh), dot_zer, gf_zer]; grind
  · rcases List.mem_or_eq_of_mem_set hx with h | h
    · exact .inl (List.eq_of_mem_replicate h)
    · exact .inr h
theorem two_ok {n h l : Nat} {a b : Rat} (hh : h < n) (hl : l < n) (hne : h ≠ l) : (twoPt n h l a b).length = n ∧ (twoPt n h l a b).sum = a + b ∧ (∀ r : List Rat, r.length = n → dot (twoPt n h l a b) r = a * gf r h + b * gf r l) ∧ ∀ x ∈ twoPt n h l a b, x = 0 ∨ x = a ∨ x = b := by
  refine ⟨by simp [twoPt, zl], ?_, fun r hr => ?_, fun x hx => ?_⟩
  · rw [twoPt, sum_set _ _ _ (by simp [zl, hl]), sum_set _ _ _ (by rw [zl]; exact hh), sum_zer, gf_zer, gf_set_ne hne, gf_zer]; grind
  · rw [twoPt, dot_set _ _ _ _ (by simp [zl, hr]) (by simp [zl, hl]), dot_set _ _ _ _ (by rw [zl, hr]) (by rw [zl]; exact hh), dot_zer, gf_zer, gf_set_ne hne, gf_zer]; grind
  · rcases List.mem_or_eq_of_mem_set hx with h | h
    · rcases List.mem_or_eq_of_mem_set h with h | h
      · exact .inl (List.eq_of_mem_replicate h)
      · exact .inr (.inl h)
    · exact .inr (.inr h)
/-- what is shown of a guarantee -/
structure Cert (ps rs : List Rat) (ν v : Rat) (ch : List Rat) (p q : Rat) : Prop where
  len : ch.length = ps.length
  nn : ∀ x ∈ ch, 0 ≤ x
  sum : ch.sum = 1
  bc : AllB 200 ch
  up : ν ≤ dot ch ps
  eq : dot ch rs = v
  q0 : 0 ≤ q
  line : ∀ r, r < ps.length → p + q * gf ps r ≤ gf rs r
  at_ : p + q * ν = v
  bv : Bd 500 v
  bp : Bd 120 p
  bq : Bd 80 q
theorem ne0 {a : Rat} (h : 0 < a) : a ≠ 0 := by grind
theorem alg1 {B C v a b N x y : Rat} (h : v * (B * (a - b) * C) = B * C * ((N - b) * x + (a - N) * y)) : B * C * (v * (a - b)) = B * C * ((N - b) * x + (a - N) * y) := by grind
theorem alg2 {v a b N x y α β : Rat} (z : v * (a - b) = (N - b) * x + (a - N) * y) (ka : α * (a - b) = N - b) (kb : β * (a - b) = a - N) : (a - b) * (α * x + β * y) = (a - b) * v := by grind
theorem alg3 {σ q B C ph pr rh rr sl : Rat} (e : sl * (ph * B - pr * B) = rh * C - rr * C) (k : sl * (B * (ph - pr)) ≤ σ * (B * (ph - pr))) (qs : q * C = σ * B) : C * (rh - rr) ≤ C * (q * (ph - pr)) := by
  have : C * (q * (ph - pr)) = (q * C) * (ph - pr) := by grind
  rw [this, qs]
  grind
theorem intc {a b : Int} (h : a ≤ b) : (a : Rat) ≤ (b : Rat) := Rat.intCast_le_intCast.mpr h
theorem eq_of_mul {a x y : Rat} (h : 0 < a) (e : a * x = a * y) : x = y := by
  have h1 := GA.can h (show a * x ≤ a * y by rw [e]; exact Rat.le_refl)
  have h2 := GA.can h (show a * y ≤ a * x by rw [e]; exact Rat.le_refl)
  grind
/-- the cert of the least corner and its slope -/
theorem cert_of {ps rs : List Rat} {ν : Rat} {B C : Nat} {s w : List Int} {N : Int} (hB : 0 < B) (hC : 0 < C) (hl : rs.length = ps.length) (hwl : w.length = ps.length)
    (hw : ∀ r, r < ps.length → ((gi w r : Int) : Rat) = gf ps r * B) (hs : ∀ r, r < ps.length → ((gi s r : Int) : Rat) = gf rs r * C) (hN : ((N : Int) : Rat) = ν * B)
    (bp : AllB 12 ps) (br : AllB 25 rs) (bn : Bd 160 ν)
    {x : Nat × Nat} (hx : okC w N x) (hm : ∀ y, okC w N y → valI s w N x ≤ valI s w N y) {o : Option Nat} (ho : okS w x.1 o) (h0 : 0 ≤ slV s w x.1 o) (hS : ∀ r, r < w.length → gi w r < gi w x.1 → slV s w x.1 (some r) ≤ slV s w x.1 o)
    {v q : Rat} (hv : v * (undI w x * C : Rat) = topI s w N x) (hq : q * ((slI s w x.1 o).2 * C : Rat) = (slI s w x.1 o).1 * B) :
    Cert ps rs ν v (if x.1 = x.2 then onePt ps.length x.1 else twoPt ps.length x.1 x.2 (((N - gi w x.2 : Int) : Rat) / ((gi w x.1 - gi w x.2 : Int) : Rat)) (((gi w x.1 - N : Int) : Rat) / ((gi w x.1 - gi w x.2 : Int) : Rat))) (gf rs x.1 - q * gf ps x.1) q := by
  have B0 : (0 : Rat) < (B : Rat) := Rat.natCast_pos.mpr hB
  have C0 : (0 : Rat) < (C : Rat) := Rat.natCast_pos.mpr hC
  have hx1 : x.1 < ps.length := by rw [← hwl]; exact hx.1
  have hx2 : x.2 < ps.length := by rw [← hwl]; exact hx.2.1
  have lt_w : ∀ a b, a < ps.length → b < ps.length → ((gi w a < gi w b) ↔ gf ps a < gf ps b) := fun a b ha hb => by
    rw [← Rat.intCast_lt_intCast, hw a ha, hw b hb]
    exact Rat.mul_lt_mul_right B0
  have lt_wN : ∀ a, a < ps.length → ((gi w a < N) ↔ gf ps a < ν) := fun a ha => by
    rw [← Rat.intCast_lt_intCast, hw a ha, hN]
    exact Rat.mul_lt_mul_right B0
  have lt_Nw : ∀ a, a < ps.length → ((N < gi w a) ↔ ν < gf ps a) := fun a ha => by
    rw [← Rat.intCast_lt_intCast, hw a ha, hN]
    exact Rat.mul_lt_mul_right B0
  -- what a corner is worth
  have up : ∀ y, okC w N y → (0 : Rat) < (undI w y : Rat) := fun y hy => Rat.intCast_pos.mpr (und_pos hy)
  have val : ∀ y, okC w N y → valI s w N y * undI w y = topI s w N y := fun y hy => Rat.div_mul_cancel (by have := up y hy; grind)
  have vx : valI s w N x = v * C := by
    have := val x hx
    refine eq_of_mul (up x hx) ?_
    grind
  have top1 : ∀ a, topI s w N (a, a) = gi s a := fun a => by simp [topI]
  have und1 : ∀ a, undI w (a, a) = 1 := fun a => by simp [undI]
  have cs : ∀ a b, a < ps.length → b < ps.length → a ≠ b → ((topI s w N (a, b) : Int) : Rat) = (B * C : Rat) * ((ν - gf ps b) * gf rs a + (gf ps a - ν) * gf rs b) ∧ ((undI w (a, b) : Int) : Rat) = B * (gf ps a - gf ps b) := fun a b ha hb hne => by
    unfold topI undI
    rw [if_neg hne, if_neg hne]
    dsimp only
    rw [Rat.intCast_add, Rat.intCast_mul, Rat.intCast_mul, Rat.intCast_sub, Rat.intCast_sub, Rat.intCast_sub, hw a ha, hw b hb, hs a ha, hs b hb, hN]
    constructor <;> grind
  have F1 : ∀ r, r < ps.length → ν ≤ gf ps r → v ≤ gf rs r := fun r hr h => by
    have ok : okC w N (r, r) := ⟨by rw [hwl]; exact hr, by rw [hwl]; exact hr, .inl ⟨rfl, by
      have := (not_congr (lt_wN r hr)).mpr (Rat.not_lt.mpr h)
      show N ≤ gi w r
      omega⟩⟩
    have := hm _ ok
    have e := val _ ok
    rw [top1, und1, hs r hr] at e
    rw [vx] at this
    refine GA.can C0 ?_
    have : ((1 : Int) : Rat) = 1 := rfl
    grind
  have F2 : ∀ a b, a < ps.length → b < ps.length → ν < gf ps a → gf ps b < ν → v * (gf ps a - gf ps b) ≤ (ν - gf ps b) * gf rs a + (gf ps a - ν) * gf rs b := fun a b ha hb h1 h2 => by
    have ok : okC w N (a, b) := ⟨by rw [hwl]; exact ha, by rw [hwl]; exact hb, .inr ⟨(lt_wN b hb).mpr h2, (lt_Nw a ha).mpr h1⟩⟩
    have hne : a ≠ b := fun z => by subst z; grind
    have := hm _ ok
    have e := val _ ok
    have up := up _ ok
    obtain ⟨c1, c2⟩ := cs a b ha hb hne
    rw [c1] at e
    rw [c2] at e up
    rw [vx] at this
    have k := Rat.mul_le_mul_of_nonneg_right this (Rat.le_of_lt up)
    rw [e] at k
    refine GA.can (Rat.mul_pos B0 C0) ?_
    grind
  have okx := hx.2.2
  have F3 : (v = gf rs x.1 ∧ ν ≤ gf ps x.1) ∨ ∃ l, l < ps.length ∧ ν < gf ps x.1 ∧ gf ps l < ν ∧ v * (gf ps x.1 - gf ps l) = (ν - gf ps l) * gf rs x.1 + (gf ps x.1 - ν) * gf rs l := by
    rcases okx with ⟨e, h⟩ | ⟨h1, h2⟩
    · left
      have hN' := (not_congr (lt_wN x.1 hx1)).mp (by omega)
      refine ⟨?_, Rat.not_lt.mp hN'⟩
      have e1 : topI s w N x = gi s x.1 := by rw [topI, if_pos e]
      have e2 : undI w x = 1 := by rw [undI, if_pos e]
      rw [e1, e2, hs _ hx1] at hv
      refine eq_of_mul C0 ?_
      have : ((1 : Int) : Rat) = 1 := rfl
      grind
    · right
      have hne : x.1 ≠ x.2 := fun z => by rw [z] at h2; omega
      obtain ⟨c1, c2⟩ := cs x.1 x.2 hx1 hx2 hne
      refine ⟨x.2, hx2, (lt_Nw _ hx1).mp h2, (lt_wN _ hx2).mp h1, ?_⟩
      have c1' : ((topI s w N x : Int) : Rat) = _ := c1
      have c2' : ((undI w x : Int) : Rat) = _ := c2
      rw [c1', c2'] at hv
      refine eq_of_mul (Rat.mul_pos B0 C0) ?_
      grind
  -- the slope
  have sp := sl_pos (s := s) ho
  have sp' : (0 : Rat) < ((slI s w x.1 o).2 : Rat) := Rat.intCast_pos.mpr sp
  have sv : slV s w x.1 o * (slI s w x.1 o).2 = (slI s w x.1 o).1 := Rat.div_mul_cancel (by grind)
  have qs : q * C = slV s w x.1 o * B := by
    refine eq_of_mul sp' ?_
    grind
  have q0 : 0 ≤ q := by
    refine GA.can C0 ?_
    have := Rat.mul_nonneg h0 (Rat.le_of_lt B0)
    grind
  have S1 : ∀ r, r < ps.length → gf ps r < gf ps x.1 → gf rs x.1 - gf rs r ≤ q * (gf ps x.1 - gf ps r) := fun r hr h => by
    have hr' := (lt_w r x.1 hr hx1).mpr h
    have k := hS r (by rw [hwl]; exact hr) hr'
    have e : slV s w x.1 (some r) * ((gi w x.1 - gi w r : Int) : Rat) = ((gi s x.1 - gi s r : Int) : Rat) := Rat.div_mul_cancel (ne0 (Rat.intCast_pos.mpr (by show 0 < gi w x.1 - gi w r; omega)))
    rw [Rat.intCast_sub, Rat.intCast_sub, hw r hr, hw _ hx1, hs r hr, hs _ hx1] at e
    have p0 : (0 : Rat) ≤ B * (gf ps x.1 - gf ps r) := Rat.mul_nonneg (Rat.le_of_lt B0) (by grind)
    have k := Rat.mul_le_mul_of_nonneg_right k p0
    exact GA.can C0 (alg3 e k qs)
  have S2 : q = 0 ∨ ∃ r, r < ps.length ∧ gf ps r < gf ps x.1 ∧ gf rs x.1 - gf rs r = q * (gf ps x.1 - gf ps r) := by
    cases ho' : o with
    | none =>
      left
      rw [ho'] at hq
      refine eq_of_mul C0 ?_
      have a1 : ((slI s w x.1 none).1 : Rat) = 0 := rfl
      have a2 : ((slI s w x.1 none).2 : Rat) = 1 := rfl
      rw [a1, a2] at hq
      grind
    | some r =>
      right
      obtain ⟨r1, r2⟩ := ho r ho'
      rw [hwl] at r1
      refine ⟨r, r1, (lt_w r x.1 r1 hx1).mp r2, ?_⟩
      rw [ho'] at hq
      have a1 : ((slI s w x.1 (some r)).1 : Rat) = ((gi s x.1 - gi s r : Int) : Rat) := rfl
      have a2 : ((slI s w x.1 (some r)).2 : Rat) = ((gi w x.1 - gi w r : Int) : Rat) := rfl
      rw [a1, a2, Rat.intCast_sub, Rat.intCast_sub, hw r r1, hw _ hx1, hs r r1, hs _ hx1] at hq
      refine eq_of_mul (Rat.mul_pos B0 C0) ?_
      grind
  obtain ⟨g1, g2⟩ := GA.cert (gf ps) (gf rs) hx1 F1 F2 F3 q0 S1 S2
  have bq : Bd 80 q := by
    rcases S2 with z | ⟨r, hr, h, e⟩
    · rw [z]; exact bdz.mono (by decide)
    · have d0 : gf ps x.1 - gf ps r ≠ 0 := by grind
      have : q = (gf rs x.1 - gf rs r) / (gf ps x.1 - gf ps r) := by rw [e]; exact (Rat.mul_div_cancel d0).symm
      rw [this]
      exact (((br _ (gf_mem (by omega))).sub (br _ (gf_mem (by omega)))).div ((bp _ (gf_mem hx1)).sub (bp _ (gf_mem hr))) (by decide)).mono (by decide)
  have line : ∀ r, r < ps.length → gf rs x.1 - q * gf ps x.1 + q * gf ps r ≤ gf rs r := fun r hr => by have := g1 r hr; grind
  have at_ : gf rs x.1 - q * gf ps x.1 + q * ν = v := by grind
  have bpp : Bd 120 (gf rs x.1 - q * gf ps x.1) := ((br _ (gf_mem (by omega))).sub (bq.mul (bp _ (gf_mem hx1)))).mono (by decide)
  rcases okx with ⟨e, h⟩ | ⟨h1, h2⟩
  · rw [if_pos e]
    obtain ⟨o1, o2, o3, o4⟩ := one_ok hx1
    have hN' : ν ≤ gf ps x.1 := Rat.not_lt.mp ((not_congr (lt_wN x.1 hx1)).mp (by omega))
    have ev : v = gf rs x.1 := by
      rcases F3 with z | ⟨l, hl, z1, z2, z3⟩
      · exact z.1
      · have e1 : topI s w N x = gi s x.1 := by rw [topI, if_pos e]
        have e2 : undI w x = 1 := by rw [undI, if_pos e]
        rw [e1, e2, hs _ hx1] at hv
        refine eq_of_mul C0 ?_
        have : ((1 : Int) : Rat) = 1 := rfl
        grind
    refine ⟨o1, fun y hy => ?_, o2, fun y hy => ?_, ?_, ?_, q0, line, at_, ?_, bpp, bq⟩
    · rcases o4 y hy with z | z <;> rw [z] <;> decide
    · rcases o4 y hy with z | z <;> rw [z]
      · exact bdz.mono (by decide)
      · exact bd1.mono (by decide)
    · rw [o3 ps rfl]; exact hN'
    · rw [o3 rs hl, ev]
    · rw [ev]; exact (br _ (gf_mem (by omega))).mono (by decide)
  · have hne : x.1 ≠ x.2 := fun z => by rw [z] at h2; omega
    rw [if_neg hne]
    have l1 := (lt_Nw _ hx1).mp h2
    have l2 := (lt_wN _ hx2).mp h1
    have dd : (0 : Rat) < gf ps x.1 - gf ps x.2 := by grind
    have ea : ((N - gi w x.2 : Int) : Rat) / ((gi w x.1 - gi w x.2 : Int) : Rat) = (ν - gf ps x.2) / (gf ps x.1 - gf ps x.2) := by
      rw [Rat.intCast_sub, Rat.intCast_sub, hw _ hx1, hw _ hx2, hN]
      refine eq_of_mul (Rat.mul_pos B0 dd) ?_
      have z1 : (gf ps x.1 * B - gf ps x.2 * B : Rat) ≠ 0 := by
        have := Rat.mul_pos B0 dd
        grind
      have k1 := Rat.div_mul_cancel (a := ν * B - gf ps x.2 * B) z1
      have k2 := Rat.div_mul_cancel (a := ν - gf ps x.2) (b := gf ps x.1 - gf ps x.2) (by grind)
      grind
    have eb : ((gi w x.1 - N : Int) : Rat) / ((gi w x.1 - gi w x.2 : Int) : Rat) = (gf ps x.1 - ν) / (gf ps x.1 - gf ps x.2) := by
      rw [Rat.intCast_sub, Rat.intCast_sub, hw _ hx1, hw _ hx2, hN]
      refine eq_of_mul (Rat.mul_pos B0 dd) ?_
      have z1 : (gf ps x.1 * B - gf ps x.2 * B : Rat) ≠ 0 := by
        have := Rat.mul_pos B0 dd
        grind
      have k1 := Rat.div_mul_cancel (a := gf ps x.1 * B - ν * B) z1
      have k2 := Rat.div_mul_cancel (a := gf ps x.1 - ν) (b := gf ps x.1 - gf ps x.2) (by grind)
      grind
    rw [ea, eb]
    have ba : Bd 200 ((ν - gf ps x.2) / (gf ps x.1 - gf ps x.2)) := ((bn.sub (bp _ (gf_mem hx2))).div ((bp _ (gf_mem hx1)).sub (bp _ (gf_mem hx2))) (by decide)).mono (by decide)
    have bb : Bd 200 ((gf ps x.1 - ν) / (gf ps x.1 - gf ps x.2)) := (((bp _ (gf_mem hx1)).sub bn).div ((bp _ (gf_mem hx1)).sub (bp _ (gf_mem hx2))) (by decide)).mono (by decide)
    have ka := Rat.div_mul_cancel (a := ν - gf ps x.2) (b := gf ps x.1 - gf ps x.2) (by grind)
    have kb := Rat.div_mul_cancel (a := gf ps x.1 - ν) (b := gf ps x.1 - gf ps x.2) (by grind)
    generalize (ν - gf ps x.2) / (gf ps x.1 - gf ps x.2) = α at *
    generalize (gf ps x.1 - ν) / (gf ps x.1 - gf ps x.2) = β at *
    obtain ⟨o1, o2, o3, o4⟩ := two_ok (a := α) (b := β) hx1 hx2 hne
    have a0 : 0 ≤ α := by refine GA.can dd ?_; grind
    have b0 : 0 ≤ β := by refine GA.can dd ?_; grind
    have ab : α + β = 1 := by refine eq_of_mul dd ?_; grind
    have ev : α * gf rs x.1 + β * gf rs x.2 = v := by
      obtain ⟨c1, c2⟩ := cs x.1 x.2 hx1 hx2 hne
      have c1' : ((topI s w N x : Int) : Rat) = _ := c1
      have c2' : ((undI w x : Int) : Rat) = _ := c2
      rw [c1', c2'] at hv
      have z : v * (gf ps x.1 - gf ps x.2) = (ν - gf ps x.2) * gf rs x.1 + (gf ps x.1 - ν) * gf rs x.2 := by
        exact eq_of_mul (Rat.mul_pos B0 C0) (alg1 hv)
      exact eq_of_mul dd (alg2 z ka kb)
    refine ⟨o1, fun y hy => ?_, by rw [o2, ab], fun y hy => ?_, ?_, ?_, q0, line, at_, ?_, bpp, bq⟩
    · rcases o4 y hy with z | z | z <;> rw [z]
      · exact Rat.le_refl
      · exact a0
      · exact b0
    · rcases o4 y hy with z | z | z <;> rw [z]
      · exact bdz.mono (by decide)
      · exact ba
      · exact bb
    · rw [o3 ps rfl]
      have : α * gf ps x.1 + β * gf ps x.2 = ν := by refine eq_of_mul dd ?_; grind
      rw [this]; exact Rat.le_refl
    · rw [o3 rs hl, ev]
    · rw [← ev]
      exact ((ba.mul (br _ (gf_mem (by omega)))).add (bb.mul (br _ (gf_mem (by omega))))).mono (by decide)
theorem g_one : List.lookup ("ONE" : Str) pg.G = some (fr 1) := by rfl
theorem c_unit (k : Nat) {n h : Nat} (hn : n ≤ 6) (hh : h < n) (M : Mem) : callX (W (k + 1)) n_unit [.p (.int (n : Int)), .p (.int (h : Int))] M = some (.p (row (onePt n h)), M) := by
  refine (pure_of (row_cl _) (enter F_unit rfl rfl ?_)).call
  have sm : small (n : Int) = true := by unfold small; simp; omega
  have e : (List.range n).map (fun a => fr (if a = h then 1 else 0)) = (onePt n h).map fr := by
    apply List.ext_getElem (by simp [onePt, zl])
    intro i h1 h2
    have h3 : i < n := by simpa using h1
    simp [onePt, zer, List.getElem_set]
    by_cases z : h = i
    · subst z; simp
    · simp [z, Ne.symm z]
  generalize W k = V
  simp [-Option.bind_some, F_unit, entry, src_rng1 sm, rangeP_map]
  rw [gturns_map (fun a : Nat => P.int (a : Int)) (fun a => fr (if a = h then 1 else 0)) (List.range n)]
  · rw [e]
    simp [-Option.bind_some, len_ok (show n ≤ 4000 by omega), onePt, zl]
    simp [row]
  · intro a ha
    by_cases z : a = h
    · have z' : (a : Int) = (h : Int) := by omega
      simp [-Option.bind_some, gnx, wipeE, z, g_one]
    · have z' : ¬ ((a : Int) = (h : Int)) := by omega
      simp [-Option.bind_some, gnx, wipeE, z, z', g_zero3]
theorem c_zeros (k : Nat) {n : Nat} (hn : n ≤ 6) (M : Mem) : callX (W (k + 1)) n_zeros [.p (.int (n : Int))] M = some (.p (row (zer n)), M) := by
  refine (pure_of (row_cl _) (enter F_zeros rfl rfl ?_)).call
  generalize W k = V
  have b1 : (n : Int) ≤ 1000 := by omega
  have b2 : (-(9223372036854775808 : Int)) ≤ n := by omega
  have b3 : ¬ sizeLine = 0 := by decide
  simp [-Option.bind_some, F_zeros, entry, g_zero3, rep_one, b1, row, zer, b3]
  try omega
theorem c_corner_chances (k : Nat) {w : List Int} {N : Int} {x : Nat × Nat} (h6 : w.length ≤ 6) (hw : AllZ 1400 w) (hx : okC w N x) (M : Mem) :
    callX (W (k + 3)) n_corner_chances [.p (.tup (w.map P.int)), .p (.int N), .p (.int (x.1 : Int)), .p (.int (x.2 : Int))] M = some (.p (row (if x.1 = x.2 then onePt w.length x.1 else twoPt w.length x.1 x.2 (((N - gi w x.2 : Int) : Rat) / ((gi w x.1 - gi w x.2 : Int) : Rat)) (((gi w x.1 - N : Int) : Rat) / ((gi w x.1 - gi w x.2 : Int) : Rat)))), M) := by
  have c1 := c_unit (k + 1) h6 hx.1 M
  have c2 := c_zeros (k + 1) h6 M
  refine (pure_of (row_cl _) (enter F_corner_chances rfl rfl ?_)).call
  have i1 : ∀ M, index (.p (.tup (w.map P.int))) (.p (.int (x.1 : Int))) M = some (.int (gi w x.1)) := fun M => by rw [ix_tup]; exact atx_gi hx.1
  have i2 : ∀ M, index (.p (.tup (w.map P.int))) (.p (.int (x.2 : Int))) M = some (.int (gi w x.2)) := fun M => by rw [ix_tup]; exact atx_gi hx.2.1
  by_cases e : x.1 = x.2
  · have e' : (x.1 : Int) = (x.2 : Int) := by omega
    generalize W (k + 2) = V at *
    rw [if_pos e]
    simp [-Option.bind_some, F_corner_chances, entry, e, e'] at c1 ⊢
    simp [-Option.bind_some, c1]
  · have e' : ¬ ((x.1 : Int) = (x.2 : Int)) := by omega
    rw [if_neg e]
    have hlt : gi w x.2 < N ∧ N < gi w x.1 := by
      rcases hx.2.2 with ⟨z, _⟩ | z
      · exact absurd z e
      · exact z
    have ed : gi w x.1 - gi w x.2 = (((gi w x.1 - gi w x.2).toNat : Nat) : Int) := by omega
    have dp : 0 < (gi w x.1 - gi w x.2).toNat := by omega
    have b1 := hw _ (gi_mem hx.1)
    have b2 := hw _ (gi_mem hx.2.1)
    have db : (gi w x.1 - gi w x.2).toNat < 2 ^ 9000 := by
      have : (gi w x.1 - gi w x.2).toNat < 2 ^ 1401 := by omega
      exact Nat.lt_trans this (Nat.pow_lt_pow_right (by decide) (by decide))
    have r1 := fun M => c_ratio k (N - gi w x.2) (gi w x.1 - gi w x.2).toNat ed dp db M
    have r2 := fun M => c_ratio k (gi w x.1 - N) (gi w x.1 - gi w x.2).toNat ed dp db M
    have m1 : ∀ n : Int, mkRat n (gi w x.1 - gi w x.2).toNat = (n : Rat) / ((gi w x.1 - gi w x.2 : Int) : Rat) := fun n => by
      have this : ((((gi w x.1 - gi w x.2).toNat : Nat) : Int) : Rat) = (((gi w x.1 - gi w x.2 : Int)) : Rat) := by rw [← ed]
      have this : (((gi w x.1 - gi w x.2).toNat : Nat) : Rat) = (((gi w x.1 - gi w x.2 : Int)) : Rat) := this
      rw [Rat.mkRat_eq_div, this]
    have nl : newl ((zer w.length).map fr) M = some (.p (.ref M.length), M ++ [(zer w.length).map fr]) := newl_ok (by rw [List.length_map, zl, szl]; omega)
    have s1 : ∀ v, seti ((zer w.length).map fr) (x.1 : Int) v = some (((zer w.length).map fr).set x.1 v) := fun v => seti_nat (by rw [List.length_map, zl]; exact hx.1)
    have s2' : ∀ u v, seti (((zer w.length).map fr).set x.1 u) (x.2 : Int) v = some ((((zer w.length).map fr).set x.1 u).set x.2 v) := fun u v => seti_nat (by rw [List.length_set, List.length_map, zl]; exact hx.2.1)
    have er : ∀ a b, row (twoPt w.length x.1 x.2 a b) = P.tup ((((zer w.length).map fr).set x.1 (fr a)).set x.2 (fr b)) := fun a b => by simp [row, twoPt]
    rw [er]
    have er0 : row (zer w.length) = P.tup ((zer w.length).map fr) := rfl
    have ge : ∀ ys : List P, (M ++ [ys])[M.length]? = some ys := fun ys => get_end M ys
    have gs : ∀ xs ys : List P, (M ++ [xs]).set M.length ys = M ++ [ys] := fun xs ys => by simp
    generalize W (k + 2) = V at *
    simp only [m1] at r1 r2
    rw [er0] at c2
    generalize (zer w.length).map fr = xs at *
    simp [-Option.bind_some, -ix_tup, -Rat.intCast_sub, F_corner_chances, entry, e', c2, nl, i1, i2, r1, r2, ge, s1, s2', gs]
theorem tp_bd {a B m : Nat} {q : Rat} (h : Bd a q) (hB : B < 2 ^ m) : (tp B q).natAbs < 2 ^ (a + m) := by
  unfold tp
  rw [Int.natAbs_mul, Int.natAbs_natCast]
  exact pw h.1 (Nat.lt_of_le_of_lt (Nat.div_le_self _ _) hB)
theorem gi_map {l : List Rat} (B : Nat) {r : Nat} (h : r < l.length) : gi (l.map (tp B)) r = tp B (gf l r) := by
  unfold gi gf
  rw [List.getD_eq_getElem?_getD, List.getD_eq_getElem?_getD, List.getElem?_map, List.getElem?_eq_getElem h]; rfl
theorem cutp_snoc (l : List P) (x : P) : cutp (l ++ [x]) none (some (-1)) = l := by
  unfold cutp clip
  simp
  rw [show (-1 + ((l.length : Int) + 1)).toNat = l.length by omega]
  simp
theorem sl_sm {s w : List Int} (hl : s.length = w.length) (hs : AllZ 1400 s) (hw : AllZ 1400 w) {h : Nat} (hh : h < w.length) {o : Option Nat} (ho : okS w h o) : (slI s w h o).1.natAbs < 2 ^ 1401 ∧ (slI s w h o).2.natAbs < 2 ^ 1401 := by
  cases o with
  | none => exact ⟨Nat.lt_of_lt_of_le (show (0 : Int).natAbs < 2 ^ 1 by decide) (Nat.pow_le_pow_right (by decide) (by decide)), Nat.lt_of_lt_of_le (show (1 : Int).natAbs < 2 ^ 1 by decide) (Nat.pow_le_pow_right (by decide) (by decide))⟩
  | some r =>
    have a1 := hs _ (gi_mem (l := s) (a := r) (by rw [hl]; exact (ho r rfl).1))
    have a2 := hs _ (gi_mem (l := s) (a := h) (by rw [hl]; exact hh))
    have b1 := hw _ (gi_mem (ho r rfl).1)
    have b2 := hw _ (gi_mem hh)
    exact ⟨show (gi s h - gi s r).natAbs < _ by omega, show (gi w h - gi w r).natAbs < _ by omega⟩
theorem mk_mul {t : Int} {u C : Nat} {uI : Int} (e : uI = (u : Int)) (hu : 0 < u) (hC : 0 < C) : mkRat t (u * C) * ((uI : Rat) * (C : Rat)) = (t : Rat) := by
  have h1 : ((u * C : Nat) : Rat) ≠ 0 := nat_ne (Nat.mul_pos hu hC)
  rw [Rat.mkRat_eq_div, e]
  have : (((u : Nat) : Int) : Rat) * (C : Rat) = ((u * C : Nat) : Rat) := by rw [Rat.natCast_mul]; rfl
  rw [this]
  exact Rat.div_mul_cancel h1
def rest (hs ps : List Rat) : List Rat := (List.range hs.length).map fun a => gf hs a - gf ps a
theorem rest_gf {hs ps : List Rat} {a : Nat} (h : a < hs.length) : gf (rest hs ps) a = gf hs a - gf ps a := by
  unfold rest
  unfold gf
  rw [List.getD_eq_getElem?_getD, List.getElem?_map, List.getElem?_range h]; rfl
def gP (v : Rat) (ch : List Rat) (p q : Rat) : P := .tup [fr v, row ch, pr (p, q)]
theorem c_guarantee (k : Nat) {cs hs ps : List Rat} {T : List (List Rat)} (hl : hs.length = ps.length) (hc : AllB 8 cs) (h4 : cs.length ≤ 4) (hT : ∀ r ∈ T, Cha ps.length r) (hh : AllB 12 hs) (hp : AllB 12 ps) (h6 : ps.length ≤ 6) (hne : ∃ r, r < ps.length ∧ barOf cs T ps ≤ gf ps r) (M : Mem) :
    ∃ v ch p q, Cert ps (rest hs ps) (barOf cs T ps) v ch p q ∧ callX (W (k + 7)) n_guarantee [.p (workP cs T), .p (row hs), .p (row ps)] M = some (.p (gP v ch p q), M) := by
  have bn := barOf_bd hc hT hp h6
  have c1 := c_net_bound k hc h4 hT hp h6 M
  have c2 := c_row_minus (k + 2) hl hh hp h6 M
  have br : AllB 25 (rest hs ps) := by
    intro q hq
    obtain ⟨a, ha, rfl⟩ := List.mem_map.mp hq
    have ha := List.mem_range.mp ha
    exact ((hh _ (gf_mem ha)).sub (hp _ (gf_mem (by omega)))).mono (by decide)
  have lr : (rest hs ps).length = ps.length := by simp [rest, hl]
  have bps : AllB 160 (ps ++ [barOf cs T ps]) := by
    intro q hq
    rcases List.mem_append.mp hq with hq | hq
    · exact (hp _ hq).mono (by decide)
    · rw [List.mem_singleton.mp hq]; exact bn
  have c3 := c_wholes (k + 3) 25 (rest hs ps) br (by decide) (by omega) (by omega) (Seq.tup M _)
  have c4 := c_wholes (k + 3) 160 (ps ++ [barOf cs T ps]) bps (by decide) (by simp; omega) (by simp; omega) (Seq.tup M _)
  have bC := bot_lt (rest hs ps) 1 1 br (by decide)
  have bB := bot_lt (ps ++ [barOf cs T ps]) 1 1 bps (by decide)
  have pC := bot_pos (rest hs ps) 1 (by decide)
  have pB := bot_pos (ps ++ [barOf cs T ps]) 1 (by decide)
  have dC := bot_mem (rest hs ps) 1
  have dB := bot_mem (ps ++ [barOf cs T ps]) 1
  generalize bot (rest hs ps) 1 = C at *
  generalize bot (ps ++ [barOf cs T ps]) 1 = B at *
  generalize hν : barOf cs T ps = ν at *
  have bC : C < 2 ^ 151 := Nat.lt_of_lt_of_le bC (Nat.pow_le_pow_right (by decide) (by omega))
  have bB : B < 2 ^ 1121 := Nat.lt_of_lt_of_le bB (Nat.pow_le_pow_right (by decide) (by simp; omega))
  have hs_ : AllZ 1400 ((rest hs ps).map (tp C)) := by
    intro i hi
    obtain ⟨q, hq, rfl⟩ := List.mem_map.mp hi
    exact Nat.lt_of_lt_of_le (tp_bd (br q hq) bC) (Nat.pow_le_pow_right (by decide) (by decide))
  have hw_ : AllZ 1400 (ps.map (tp B)) := by
    intro i hi
    obtain ⟨q, hq, rfl⟩ := List.mem_map.mp hi
    exact Nat.lt_of_lt_of_le (tp_bd (hp q hq) bB) (Nat.pow_le_pow_right (by decide) (by decide))
  have hN_ : (tp B ν).natAbs < 2 ^ 1400 := Nat.lt_of_lt_of_le (tp_bd bn bB) (Nat.pow_le_pow_right (by decide) (by decide))
  have eN : ((tp B ν : Int) : Rat) = ν * B := tp_eq (dB ν (by simp))
  have ew : ∀ r, r < ps.length → ((gi (ps.map (tp B)) r : Int) : Rat) = gf ps r * B := fun r hr => by rw [gi_map B hr]; exact tp_eq (dB _ (by simp [gf_mem hr]))
  have es : ∀ r, r < ps.length → ((gi ((rest hs ps).map (tp C)) r : Int) : Rat) = gf (rest hs ps) r * C := fun r hr => by rw [gi_map C (by omega)]; exact tp_eq (dC _ (gf_mem (by omega)))
  have B0 : (0 : Rat) < (B : Rat) := Rat.natCast_pos.mpr pB
  have C0 : (0 : Rat) < (C : Rat) := Rat.natCast_pos.mpr pC
  have hex : ∃ x, okC (ps.map (tp B)) (tp B ν) x := by
    obtain ⟨r, hr, h⟩ := hne
    refine ⟨(r, r), by simpa using hr, by simpa using hr, .inl ⟨rfl, ?_⟩⟩
    show tp B ν ≤ gi (ps.map (tp B)) r
    rw [← Rat.intCast_le_intCast, eN, ew r hr]
    exact Rat.mul_le_mul_of_nonneg_right h (Rat.le_of_lt B0)
  have el : ((rest hs ps).map (tp C)).length = (ps.map (tp B)).length := by simp [lr]
  have e6 : (ps.map (tp B)).length ≤ 6 := by simpa using h6
  obtain ⟨x, hx, hm, c5⟩ := c_least_corner (k + 4) el e6 hs_ hw_ hN_ hex M
  obtain ⟨o, ho, h0, hS, c6⟩ := c_slope_at (k + 4) el e6 hs_ hw_ hx.1 M
  have c7 := c_corner_chances (k + 3) e6 hw_ hx M
  have hx1 : x.1 < ps.length := by simpa using hx.1
  have tb := top_sm el hs_ hw_ hN_ hx
  have up := und_pos hx
  have sp := sl_pos (s := (rest hs ps).map (tp C)) ho
  have i1 : atx ((rest hs ps).map fun q => P.int (tp C q)) (x.1 : Int) = some (.int (gi ((rest hs ps).map (tp C)) x.1)) := by
    have := atx_gi (l := (rest hs ps).map (tp C)) (a := x.1) (by simp; omega)
    rw [List.map_map] at this; exact this
  have i2 : atx (ps.map fr) (x.1 : Int) = some (fr (gf ps x.1)) := atx_gf hx1
  have slb := sl_sm el hs_ hw_ hx.1 ho
  obtain ⟨u, hu⟩ : ∃ u : Nat, undI (ps.map (tp B)) x = (u : Int) := ⟨(undI (ps.map (tp B)) x).toNat, by omega⟩
  obtain ⟨b, hb⟩ : ∃ b : Nat, (slI ((rest hs ps).map (tp C)) (ps.map (tp B)) x.1 o).2 = (b : Int) := ⟨(slI ((rest hs ps).map (tp C)) (ps.map (tp B)) x.1 o).2.toNat, by omega⟩
  have u0 : 0 < u := by omega
  have b0 : 0 < b := by omega
  have u1 : u < 2 ^ 1401 := by have := tb.2; omega
  have b1 : b < 2 ^ 1401 := by have := slb.2; omega
  have hv := mk_mul (t := topI ((rest hs ps).map (tp C)) (ps.map (tp B)) (tp B ν) x) hu u0 pC
  have hq := mk_mul (t := (slI ((rest hs ps).map (tp C)) (ps.map (tp B)) x.1 o).1 * B) hb b0 pC
  rw [Rat.intCast_mul] at hq
  have cert := cert_of pB pC lr (by simp) ew es eN hp br bn hx hm ho h0 (by simpa using hS) hv hq
  have r1 := fun M => c_ratio (k + 4) ((slI ((rest hs ps).map (tp C)) (ps.map (tp B)) x.1 o).1 * B) (dI := (slI ((rest hs ps).map (tp C)) (ps.map (tp B)) x.1 o).2 * C) (b * C) (by rw [hb]; simp) (Nat.mul_pos b0 pC) (Nat.lt_trans (pw b1 bC) (Nat.pow_lt_pow_right (by decide) (by decide))) M
  have r3 := fun M => c_ratio (k + 4) (topI ((rest hs ps).map (tp C)) (ps.map (tp B)) (tp B ν) x) (dI := undI (ps.map (tp B)) x * C) (u * C) (by rw [hu]; simp) (Nat.mul_pos u0 pC) (Nat.lt_trans (pw u1 bC) (Nat.pow_lt_pow_right (by decide) (by decide))) M
  have r2 := fun M => c_ratio (k + 4) (gi ((rest hs ps).map (tp C)) x.1) (dI := (C : Int)) C rfl pC (Nat.lt_trans bC (Nat.pow_lt_pow_right (by decide) (by decide))) M
  have e2 : mkRat (gi ((rest hs ps).map (tp C)) x.1) C = gf (rest hs ps) x.1 := mk_of pC (es x.1 hx1)
  rw [e2] at r2
  have ct := c_times (k + 3) cert.bq (hp _ (gf_mem hx1)) (by decide) (by decide) M
  have cm := c_minus (k + 3) (br _ (gf_mem (l := rest hs ps) (a := x.1) (by rw [lr]; exact hx1))) (cert.bq.mul (hp _ (gf_mem hx1))) (by decide) (by decide) M
  have m1 : mulOk (slI ((rest hs ps).map (tp C)) (ps.map (tp B)) x.1 o).1 (B : Int) = true := mulOk_sm (sm_of slb.1 (by decide)) (sm_of (by rw [Int.natAbs_natCast]; exact bB) (by decide))
  have m2 : mulOk (slI ((rest hs ps).map (tp C)) (ps.map (tp B)) x.1 o).2 (C : Int) = true := mulOk_sm (sm_of slb.2 (by decide)) (sm_of (by rw [Int.natAbs_natCast]; exact bC) (by decide))
  have m3 : mulOk (undI (ps.map (tp B)) x) (C : Int) = true := mulOk_sm (sm_of tb.2 (by decide)) (sm_of (by rw [Int.natAbs_natCast]; exact bC) (by decide))
  refine ⟨_, _, _, _, cert, ?_⟩
  rw [List.length_map] at c7
  have eW : (ps.map (tp B)).map P.int = ps.map fun q => .int (tp B q) := by rw [List.map_map]; rfl
  have eS : ((rest hs ps).map (tp C)).map P.int = (rest hs ps).map fun q => .int (tp C q) := by rw [List.map_map]; rfl
  have eV : ((ps ++ [ν]).map fun q => P.int (tp B q)) = (ps.map fun q => P.int (tp B q)) ++ [.int (tp B ν)] := by simp
  have eP : row ps = P.tup (ps.map fr) := rfl
  have ePn : row (ps ++ [ν]) = P.tup (ps.map fr ++ [fr ν]) := by simp [row]
  have c4 : callX (W (k + 6)) n_wholes [.p (row (ps ++ [ν]))] M = _ := c4
  have c2 : callX (W (k + 6)) n_row_minus [.p (row hs), .p (row ps)] M = some (.p (row (rest hs ps)), M) := c2
  have c3 : callX (W (k + 6)) n_wholes [.p (row (rest hs ps))] M = _ := c3
  rw [ePn, eV] at c4
  rw [eS, eW] at c5 c6
  rw [eW] at c7
  unfold coP at c5
  rw [eP] at c1 c2 ⊢
  clear hv hq cert
  generalize hq : mkRat ((slI ((rest hs ps).map (tp C)) (ps.map (tp B)) x.1 o).1 * B) (b * C) = q at *
  generalize hv : mkRat (topI ((rest hs ps).map (tp C)) (ps.map (tp B)) (tp B ν) x) (u * C) = v at *
  generalize (if x.1 = x.2 then onePt ps.length x.1 else twoPt ps.length x.1 x.2 (((tp B ν - gi (ps.map (tp B)) x.2 : Int) : Rat) / ((gi (ps.map (tp B)) x.1 - gi (ps.map (tp B)) x.2 : Int) : Rat)) (((gi (ps.map (tp B)) x.1 - tp B ν : Int) : Rat) / ((gi (ps.map (tp B)) x.1 - gi (ps.map (tp B)) x.2 : Int) : Rat))) = ch at *
  generalize (slI ((rest hs ps).map (tp C)) (ps.map (tp B)) x.1 o) = sl at *
  generalize topI ((rest hs ps).map (tp C)) (ps.map (tp B)) (tp B ν) x = top at *
  generalize undI (ps.map (tp B)) x = und at *
  generalize gi ((rest hs ps).map (tp C)) x.1 = gs at *
  generalize gf (rest hs ps) x.1 = gr at *
  generalize gf ps x.1 = gp at *
  generalize hWl : (ps.map fun q => P.int (tp B q)) = Wl at *
  generalize hSl : ((rest hs ps).map fun q => P.int (tp C q)) = Sl at *
  generalize hPl : ps.map fr = Pl at *
  refine (pure_of (fun n => by simp [gP, row_cl ch n, pr_cl (gr - q * gp, q) n]) (enter F_guarantee rfl rfl ?_)).call
  generalize W (k + 6) = V at *
  have at1 : atx (Wl ++ [P.int (tp B ν)]) (-1) = some (.int (tp B ν)) := atx_last
  have sP : Pl.length + 1 ≤ sizeLine := by rw [← hPl, List.length_map, szl]; omega
  have s1' : 1 ≤ sizeLine := by decide
  have s0' : ¬ sizeLine = 0 := by decide
  simp [-Option.bind_some, F_guarantee, entry, s1', s0', sP, c1, c2, c3, s2, s3, c4, cutp_snoc, at1, parE, c5, c6, m1, m2, m3, r1, r2, r3, i1, i2, ct, cm, c7]
  rfl

end K30
end

section
set_option linter.all false
set_option autoImplicit false
set_option maxRecDepth 10000
set_option exponentiation.threshold 100000
set_option maxHeartbeats 4000000
namespace K30
open PySem IX
theorem c_are_rows (k : Nat) {l : List Rat} {m n : Nat} (hl : l.length = n) (h6 : n ≤ 6) (hb : AllB m l) (hm : m ≤ 4000) (M : Mem) : callX (W (k + 3)) n__law_are_rows [.p (.tup [row l]), .p (.int 1), .p (.int (n : Int))] M = some (.p (.bl true), M) := by
  refine (pure_of (cl_bl _) (enter F__law_are_rows rfl rfl ?_)).call
  have cf : ∀ q ∈ l, callX (W (k + 2)) n__law_is_fraction [.p (fr q)] M = some (.p (.bl true), M) := fun q hq => c_is_fraction k (hb q hq) hm M
  have nl : newl [] M = some (.p (.ref M.length), M ++ [[]]) := newl_ok (by decide)
  generalize W (k + 2) = V at *
  simp [-Option.bind_some, F__law_are_rows, entry, row]
  refine lop_wpJ row (fun pre r ρ M' => ∃ (X : Mem) (z3 z4 : Option D), M' = M ++ X ∧ (r = [l] → X = []) ∧ (pre = [] → r = [l]) ∧ ρ = [some (.p (.tup [.tup (l.map fr)])), some (.p (.int 1)), some (.p (.int (n : Int))), z3, z4]) [l] ⟨[], none, none, by simp, fun _ => rfl, fun _ => rfl, rfl⟩ ?_ ?_
  · rintro J Q hJ - pre a r ρ M' hr ⟨X, z3, z4, rfl, hX, hp, rfl⟩
    have : pre = [] ∧ a = l ∧ r = [] := by
      cases pre with
      | nil => simp at hr; exact ⟨rfl, hr.1.symm, hr.2⟩
      | cons b p => simp at hr
    obtain ⟨rfl, rfl, rfl⟩ := this
    have : X = [] := hX rfl
    subst this
    have f : lcs V G [4] (E.c (.int 1)) (.nm 4) [(.not (.tru (.call n__law_is_fraction [.v 4] [0])))] ⟨a.map fr, [], true⟩ (a.map fr) [some (.p (.tup [.tup (a.map fr)])), some (.p (.int 1)), some (.p (.int (n : Int))), some (.p (.tup (a.map fr))), z4] M = some ((a.filter fun _ => false).map fun _ => P.int 1, M) := lcs_filter fr (fun _ => .int 1) (fun _ => false) rfl a fun q hq => by
      simp [-Option.bind_some, lcx, wipeE, cf q hq]
    have fe : (a.filter fun _ => false) = [] := by simp
    rw [fe, List.map_nil] at f
    simp [-Option.bind_some, row, hl, f, nl]
    rw [hJ]
    exact ⟨[[]], _, _, rfl, by simp, by simp, rfl⟩
  · rintro ρ M' ⟨X, z3, z4, rfl, -, -, rfl⟩
    simp [-Option.bind_some]
theorem c_is_table (k : Nat) {l : List Rat} {n : Nat} (hl : l.length = n) (h6 : n ≤ 6) (hb : AllB 200 l) (h0 : ∀ q ∈ l, 0 ≤ q) (h1 : l.sum = 1) (M : Mem) : callX (W (k + 4)) n__law_is_table [.p (.tup [row l]), .p (.int 1), .p (.int (n : Int))] M = some (.p (.bl true), M) := by
  refine (pure_of (cl_bl _) (enter F__law_is_table rfl rfl ?_)).call
  have c1 := c_are_rows k hl h6 hb (by decide) M
  have nl : newl [] M = some (.p (.ref M.length), M ++ [[]]) := newl_ok (by decide)
  have nl2 : newl [] (M ++ [[]]) = some (.p (.ref (M.length + 1)), M ++ [[], []]) := by rw [newl_ok (by decide)]; simp
  have ct := c_ltotal k (M := M ++ [[]]) l hb (by rw [hl]; omega) (by decide) (Seq.tup _ (l.map fr))
  rw [h1] at ct
  have i0 : ∀ q : Rat, index (.p (fr q)) (.p (.int 0)) M = some (.int q.num) := fun _ => by rfl
  generalize W (k + 3) = V at *
  unfold row at c1
  simp [-Option.bind_some, F__law_is_table, entry, row, c1]
  have f : lcs V G [4] (E.c (.int 1)) (.nm 4) [(.cmp .lt (.idx (.v 4) (.c (.int 0))) (.c (.int 0)))] ⟨l.map fr, [], true⟩ (l.map fr) [some (.p (.tup [.tup (l.map fr)])), some (.p (.int 1)), some (.p (.int (n : Int))), some (.p (.tup (l.map fr))), none] M = some ((l.filter fun _ => false).map fun _ => P.int 1, M) := lcs_filter fr (fun _ => .int 1) (fun _ => false) rfl l fun q hq => by
    have := h0 q hq
    have : ¬ q.num < 0 := by rw [num_neg]; exact Rat.not_lt.mpr this
    simp [-Option.bind_some, -ix_tup, lcx, wipeE, i0, this]
  have fe : (l.filter fun _ => false) = [] := by simp
  rw [fe, List.map_nil] at f
  rw [lcs_cons]
  simp [-Option.bind_some, lcx, wipeE, f, nl, ct, fr1, s2, nl2]
def gR (T : List (List Rat)) (a : Nat) : List Rat := T.getD a []
theorem c_lbar (k : Nat) {cs ps : List Rat} {T : List (List Rat)} (hc : AllB 8 cs) (h4 : cs.length ≤ 4) (hTl : T.length = cs.length) (hT : ∀ r ∈ T, Cha ps.length r) (hp : AllB 12 ps) (h6 : ps.length ≤ 6) (M : Mem) : callX (W (k + 5)) n__law_bar [.p (workP cs T), .p (row ps)] M = some (.p (fr (barOf cs T ps)), M) := by
  refine (pure_of (fr_cl _) (enter F__law_bar rfl rfl ?_)).call
  have tm : ∀ a, a < T.length → gR T a ∈ T := fun a ha => by
    unfold gR; rw [List.getD_eq_getElem?_getD, List.getElem?_eq_getElem ha]; exact List.getElem_mem ha
  have eN : netsOf cs T ps = (List.range T.length).map fun a => dot (gR T a) ps - gf cs a := by
    unfold netsOf gf gR
    apply List.ext_getElem (by simp [hTl])
    intro i h1 h2
    have h3 : i < T.length := by simpa using h2
    simp [h3, hTl ▸ h3]
  have cd : ∀ a, a < T.length → ∀ M, callX (W (k + 4)) n__law_mean [.p (row (gR T a)), .p (row ps)] M = some (.p (fr (dot (gR T a) ps)), M) := fun a ha M => by
    have h := hT _ (tm a ha)
    exact c_lmean k (m := 12) _ ps (h.2.2.2.mono (by decide)) hp h.1 (by rw [h.1]; omega) (by decide) rfl rfl
  have cm : ∀ a, a < T.length → ∀ M, callX (W (k + 4)) n__law_minus [.p (fr (dot (gR T a) ps)), .p (fr (gf cs a))] M = some (.p (fr (dot (gR T a) ps - gf cs a)), M) := fun a ha M => by
    have h := hT _ (tm a ha)
    exact c_lminus (k + 2) (m := 160) ((Bd.dot (h.2.2.2.mono (by decide)) hp).mono (by rw [h.1]; omega)) (hc _ (gf_mem (by omega))) (by decide) (by decide) M
  have nb := netsOf_bd hc hT hp h6
  have ln : (netsOf cs T ps).length ≤ 4 := by simp [netsOf]; omega
  have nl1 : newl [fr 0] M = some (.p (.ref M.length), M ++ [[fr 0]]) := newl_ok (by simp [szl])
  have nl2 : newl ((netsOf cs T ps).map fr) (M ++ [[fr 0]]) = some (.p (.ref (M.length + 1)), M ++ [[fr 0], (netsOf cs T ps).map fr]) := by
    rw [newl_ok (by rw [List.length_map, szl]; omega)]; simp
  have nl3 : newl (fr 0 :: (netsOf cs T ps).map fr) (M ++ [[fr 0], (netsOf cs T ps).map fr]) = some (.p (.ref (M.length + 2)), M ++ [[fr 0], (netsOf cs T ps).map fr, fr 0 :: (netsOf cs T ps).map fr]) := by
    rw [newl_ok (by rw [List.length_cons, List.length_map, szl]; omega)]; simp
  have cg := c_lgreatest (k + 2) 0 (netsOf cs T ps) (m := 160) (by
    intro q hq
    rcases List.mem_cons.mp hq with rfl | hq
    · exact bdz.mono (by decide)
    · exact nb _ hq) (by decide) (M := M ++ [[fr 0], (netsOf cs T ps).map fr, fr 0 :: (netsOf cs T ps).map fr]) (d := .p (.ref (M.length + 2))) (Seq.ref (by rw [get_e2]; rfl))
  rw [show (netsOf cs T ps).foldl (fun b x => if b < x then x else b) 0 = barOf cs T ps from rfl] at cg
  have sm : small (T.length : Int) = true := by unfold small; simp; omega
  have en : ((List.range T.length).map fun a => fr (dot (gR T a) ps - gf cs a)) = (netsOf cs T ps).map fr := by rw [eN, List.map_map]; rfl
  have iw2 : ∀ M, index (.p (workP cs T)) (.p (.int 2)) M = some (.tup (T.map row)) := fun _ => by rfl
  have iw1 : ∀ M, index (.p (workP cs T)) (.p (.int 1)) M = some (.tup [row cs]) := fun _ => by rfl
  have ic0 : ∀ M, index (.p (.tup [row cs])) (.p (.int 0)) M = some (row cs) := fun _ => by rfl
  have it : ∀ a, a < T.length → ∀ M, index (.p (.tup (T.map row))) (.p (.int (a : Int))) M = some (row (gR T a)) := fun a ha M => by
    rw [ix_tup]
    refine atx_nat ?_
    unfold gR; rw [List.getElem?_map, List.getD_eq_getElem?_getD, List.getElem?_eq_getElem ha]; rfl
  have ic : ∀ a, a < T.length → ∀ M, index (.p (row cs)) (.p (.int (a : Int))) M = some (fr (gf cs a)) := fun a ha M => ix_gf rfl (by omega)
  have f : ∀ M, lcs (W (k + 4)) G [2] (.call n__law_minus [(.call n__law_mean [(.idx (.idx (.v 0) (.c (.int 2))) (.v 2)), (.v 1)] [0, 1]), (.idx (.idx (.idx (.v 0) (.c (.int 1))) (.c (.int 0))) (.v 2))] [0, 1]) (.nm 2) [] ⟨(List.range T.length).map fun a : Nat => P.int (a : Int), [], true⟩ ((List.range T.length).map fun a : Nat => P.int (a : Int)) [some (.p (workP cs T)), some (.p (row ps)), none] M = some ((List.range T.length).map fun a => fr (dot (gR T a) ps - gf cs a), M) := fun M => lcs_map (fun a : Nat => P.int (a : Int)) (fun a => fr (dot (gR T a) ps - gf cs a)) rfl (List.range T.length) fun a ha => by
    have ha := List.mem_range.mp ha
    have h1 := cd a ha M
    have h2 := cm a ha M
    generalize W (k + 4) = V at *
    simp [-Option.bind_some, -ix_tup, lcx, wipeE, iw2, iw1, ic0, it a ha, ic a ha, h1, h2]
  generalize W (k + 4) = V at *
  simp [-Option.bind_some, -ix_tup, F__law_bar, entry, s2, fr0, nl1, iw2, src_rng1 sm, rangeP_map, f, en, nl2, nl3, cg]
theorem c_is_guarantee (k : Nat) {cs hs ps : List Rat} {T : List (List Rat)} (hl : hs.length = ps.length) (hc : AllB 8 cs) (h4 : cs.length ≤ 4) (hTl : T.length = cs.length) (hT : ∀ r ∈ T, Cha ps.length r) (hh : AllB 12 hs) (hp : AllB 12 ps) (h6 : ps.length ≤ 6) {v p q : Rat} {ch : List Rat} (ce : Cert ps (rest hs ps) (barOf cs T ps) v ch p q) (M : Mem) :
    callX (W (k + 6)) n__law_is_guarantee [.p (workP cs T), .p (row hs), .p (row ps), .p (gP v ch p q)] M = some (.p (.bl true), M) := by
  refine (pure_of (cl_bl _) (enter F__law_is_guarantee rfl rfl ?_)).call
  have c1 : ∀ M, callX (W (k + 5)) n__law_is_fraction [.p (fr v)] M = some (.p (.bl true), M) := fun M => c_is_fraction (k + 3) ce.bv (by decide) M
  have c2 : callX (W (k + 5)) n__law_is_table [.p (.tup [row ch]), .p (.int 1), .p (.int (hs.length : Int))] M = some (.p (.bl true), M) := c_is_table (k + 1) (by rw [ce.len, hl]) (by omega) ce.bc ce.nn ce.sum M
  have c3 : callX (W (k + 5)) n__law_are_rows [.p (.tup [pr (p, q)]), .p (.int 1), .p (.int 2)] M = some (.p (.bl true), M) := c_are_rows (k + 2) (l := [p, q]) (n := 2) rfl (by decide) (m := 200) (by
    intro x hx
    simp only [List.mem_cons, List.not_mem_nil, or_false] at hx
    rcases hx with rfl | rfl
    · exact ce.bp.mono (by decide)
    · exact ce.bq.mono (by decide)) (by decide) M
  have c4 := c_lbar k hc h4 hTl hT hp h6 M
  have br : AllB 25 (rest hs ps) := by
    intro q hq
    obtain ⟨a, ha, rfl⟩ := List.mem_map.mp hq
    have ha := List.mem_range.mp ha
    exact ((hh _ (gf_mem ha)).sub (hp _ (gf_mem (by omega)))).mono (by decide)
  have bn := barOf_bd hc hT hp h6
  have lr : (rest hs ps).length = hs.length := by simp [rest]
  have nl : newl ((rest hs ps).map fr) M = some (.p (.ref M.length), M ++ [(rest hs ps).map fr]) := newl_ok (by rw [List.length_map, szl]; omega)
  have cmi : ∀ a, a < hs.length → callX (W (k + 5)) n__law_minus [.p (fr (gf hs a)), .p (fr (gf ps a))] M = some (.p (fr (gf hs a - gf ps a)), M) := fun a ha => c_lminus (k + 3) (hh _ (gf_mem ha)) (hp _ (gf_mem (by omega))) (by decide) (by decide) M
  have c5 : callX (W (k + 5)) n__law_mean [.p (row ch), .p (row ps)] (M ++ [(rest hs ps).map fr]) = some (.p (fr (dot ch ps)), M ++ [(rest hs ps).map fr]) := c_lmean (k + 1) (m := 200) ch ps ce.bc (hp.mono (by decide)) ce.len (by rw [ce.len]; omega) (by decide) rfl rfl
  have c6 : callX (W (k + 5)) n__law_mean [.p (row ch), .p (.ref M.length)] (M ++ [(rest hs ps).map fr]) = some (.p (fr (dot ch (rest hs ps))), M ++ [(rest hs ps).map fr]) := c_lmean (k + 1) (m := 200) ch (rest hs ps) ce.bc (br.mono (by decide)) (by rw [ce.len, lr, hl]) (by rw [ce.len]; omega) (by decide) rfl (get_end _ _)
  have bd : Bd 2407 (dot ch ps) := (Bd.dot ce.bc (hp.mono (by decide))).mono (by rw [ce.len]; omega)
  have c7 := c_lless (k + 4) bd bn (by decide) (by decide) (M ++ [(rest hs ps).map fr])
  rw [decide_eq_false (Rat.not_lt.mpr ce.up)] at c7
  rw [ce.eq] at c6
  have c8 : ∀ x, Bd 160 x → callX (W (k + 5)) n__law_times [.p (fr q), .p (fr x)] (M ++ [(rest hs ps).map fr]) = some (.p (fr (q * x)), (M ++ [(rest hs ps).map fr])) := fun x hx => c_ltimes (k + 3) ce.bq hx (by decide) (by decide) _
  have c9 : ∀ x, Bd 160 x → callX (W (k + 5)) n__law_plus [.p (fr p), .p (fr (q * x))] (M ++ [(rest hs ps).map fr]) = some (.p (fr (p + q * x)), (M ++ [(rest hs ps).map fr])) := fun x hx => c_lplus (k + 3) ce.bp (ce.bq.mul hx) (by decide) (by decide) _
  have c10 : ∀ a, a < ps.length → callX (W (k + 5)) n__law_less [.p (fr (gf (rest hs ps) a)), .p (fr (p + q * gf ps a))] (M ++ [(rest hs ps).map fr]) = some (.p (.bl false), (M ++ [(rest hs ps).map fr])) := fun a ha => by
    have := c_lless (k + 4) (br _ (gf_mem (l := rest hs ps) (a := a) (by omega))) (ce.bp.add (ce.bq.mul (hp _ (gf_mem ha)))) (by decide) (by decide) (M ++ [(rest hs ps).map fr])
    rw [decide_eq_false (Rat.not_lt.mpr (ce.line a ha))] at this
    exact this
  have i0 : ∀ M, index (.p (gP v ch p q)) (.p (.int 0)) M = some (fr v) := fun _ => by rfl
  have i1 : ∀ M, index (.p (gP v ch p q)) (.p (.int 1)) M = some (row ch) := fun _ => by rfl
  have i2 : ∀ M, index (.p (gP v ch p q)) (.p (.int 2)) M = some (.tup [fr p, fr q]) := fun _ => by rfl
  have i3 : ∀ M, index (.p (.tup [fr p, fr q])) (.p (.int 1)) M = some (fr q) := fun _ => by rfl
  have i4 : ∀ M, index (.p (fr q)) (.p (.int 0)) M = some (.int q.num) := fun _ => by rfl
  have ih : ∀ a, a < hs.length → ∀ M, index (.p (row hs)) (.p (.int (a : Int))) M = some (fr (gf hs a)) := fun a ha M => ix_gf rfl ha
  have ip : ∀ a, a < hs.length → ∀ M, index (.p (row ps)) (.p (.int (a : Int))) M = some (fr (gf ps a)) := fun a ha M => ix_gf rfl (by omega)
  have ir : ∀ a, a < hs.length → index (.p (.ref M.length)) (.p (.int (a : Int))) (M ++ [(rest hs ps).map fr]) = some (fr (gf (rest hs ps) a)) := fun a ha => by rw [ix_ref, get_end]; exact atx_gf (by omega)
  have nq : ¬ q.num < 0 := by rw [num_neg]; exact Rat.not_lt.mpr ce.q0
  have sm : small (hs.length : Int) = true := by unfold small; simp; omega
  have f : lcs (W (k + 5)) G [7] (.call n__law_minus [(.idx (.v 1) (.v 7)), (.idx (.v 2) (.v 7))] [0, 1]) (.nm 7) [] ⟨(List.range hs.length).map fun a : Nat => P.int (a : Int), [], true⟩ ((List.range hs.length).map fun a : Nat => P.int (a : Int)) [some (.p (workP cs T)), some (.p (row hs)), some (.p (row ps)), some (.p (gP v ch p q)), some (.p (fr p)), some (.p (fr q)), some (.p (fr (barOf cs T ps))), none, none] M = some ((rest hs ps).map fr, M) := by
    rw [show (rest hs ps).map fr = (List.range hs.length).map fun a => fr (gf hs a - gf ps a) by unfold rest; rw [List.map_map]; rfl]
    refine lcs_map (fun a : Nat => P.int (a : Int)) (fun a => fr (gf hs a - gf ps a)) rfl (List.range hs.length) fun a ha => ?_
    have ha := List.mem_range.mp ha
    have h1 := cmi a ha
    generalize W (k + 5) = V at *
    simp [-Option.bind_some, -ix_tup, lcx, wipeE, ih a ha, ip a ha, h1]
  have lh : ∀ M, items M (.p (row hs)) = some (hs.map fr) := fun _ => rfl
  have at_ := ce.at_
  have e7 := c8 _ bn
  have e8 := c9 _ bn
  rw [at_] at e8
  have px : ∀ a, a < hs.length → Bd 160 (gf ps a) := fun a ha => (hp _ (gf_mem (by omega))).mono (by decide)
  have l3 : items M (.p (gP v ch p q)) = some [fr v, row ch, pr (p, q)] := rfl
  unfold pr at c3
  have eg : gP v ch p q = .tup [fr v, row ch, .tup [fr p, fr q]] := rfl
  rw [eg] at f l3
  simp only [eg] at i0 i1 i2 ⊢
  generalize barOf cs T ps = ν at *
  generalize W (k + 5) = V at *
  simp [-Option.bind_some, -ix_tup, -ix_ref, F__law_is_guarantee, entry, i0, i1, i2, i3, i4, c1, c2, c3, c4, lh, s1, nq, src_rng1 sm, rangeP_map, f, nl, c5, c6, c7]
  refine lop_wpJ (fun a : Nat => P.int (a : Int)) (fun pre r ρ M' => M' = M ++ [(rest hs ps).map fr] ∧ ∃ (z7 : Option D), ρ = [some (.p (workP cs T)), some (.p (row hs)), some (.p (row ps)), some (.p (.tup [fr v, row ch, .tup [fr p, fr q]])), some (.p (fr p)), some (.p (fr q)), some (.p (fr ν)), z7, some (.p (.ref M.length))]) (List.range hs.length) ⟨rfl, none, rfl⟩ ?_ ?_
  · rintro J Q hJ - pre a r ρ M' hr ⟨rfl, z7, rfl⟩
    obtain ⟨ea, hlt⟩ := range_at hr
    subst ea
    have pa := px _ hlt
    have e1 := c8 _ pa
    have e2 := c9 _ pa
    have e3 := c10 pre.length (by omega)
    simp [-Option.bind_some, -ix_tup, -ix_ref, ir _ hlt, ip _ hlt, e1, e2, e3]
    rw [hJ]
    exact ⟨rfl, _, rfl⟩
  · rintro ρ M' ⟨rfl, z7, rfl⟩
    simp [-Option.bind_some, -ix_tup, -ix_ref, e7, e8, i0]
def shQ : List Rat := [mkRat 1 2, mkRat 1 3, mkRat 3 4, 1, mkRat 1 10]
def shP : List P := [.tup [.int 1, .int 2], .tup [.int 1, .int 3], .tup [.int 3, .int 4], .tup [.int 1, .int 1], .tup [.int 1, .int 10]]
theorem shP_eq : shP = shQ.map fr := by rfl
theorem nnl_of {l : List Rat} (h : ∀ q ∈ l, (decide (0 ≤ q.num) && (decide (q.num.natAbs < 2 ^ 4) && decide (q.den < 2 ^ 4))) = true) : ∀ q ∈ l, 0 ≤ q ∧ Bd 4 q := by
  intro q hq
  have := h q hq
  rw [Bool.and_eq_true, decide_eq_true_eq] at this
  exact ⟨Rat.num_nonneg.mp this.1, bd4 this.2⟩
theorem shQ_ok : ∀ q ∈ shQ, 0 ≤ q ∧ Bd 4 q := nnl_of (by decide)
/-- pays: as many as the heights, none under zero -/
def Pays (n : Nat) (ps : List Rat) : Prop := ps.length = n ∧ (∀ q ∈ ps, 0 ≤ q) ∧ AllB 12 ps
theorem fr_nat (d : Nat) : P.tup [.int (d : Int), .int 1] = fr (d : Rat) := by rfl
theorem d_pays (k : Nat) {i j : Nat} {M : Mem} (hf : Flow i j M) {hs : List Rat} (h0 : 0 < hs.length) (h6 : hs.length ≤ 6) (hp : ∀ q ∈ hs, 0 ≤ q) (hb : AllB 4 hs) : Dr (W (k + 4)) i j M n__law_pays [.p (.ref i), .p (row hs)] fun x => ∃ ps : List Rat, x = row ps ∧ Pays hs.length ps := by
  refine dr_of hf (enter F__law_pays rfl rfl ?_)
  have dd : ∀ (M : Mem) (m : Nat) {mI : Int}, mI = (m : Int) → Flow i j M → 0 < m → m ≤ 4000 → Dr (W (k + 3)) i j M n__law_draw [.p (.ref i), .p (.int mI)] fun x => ∃ d : Nat, x = .int d ∧ d < m := fun M m mI e hf h0 h1 => by
    subst e; exact d_draw (k + 2) hf m h0 (lt9000 h1)
  have dp : ∀ (M : Mem) (n : Nat), Flow i j M → n ≠ i → M[n]? = some shP → Dr (W (k + 3)) i j M n__law_pick [.p (.ref i), .p (.ref n)] fun x => ∃ a ∈ shQ, x = fr a := fun M n hf hn e => rpick (k + 1) fr shQ hf (fun M' c => by rw [← shP_eq]; exact c.at hn e) (by decide) (by decide) (fun x _ => fr_cl x)
  have dn : ∀ (M : Mem), Flow i j M → Dr (W (k + 3)) i j M n__law_numbers [.p (.ref i), .p (.int (hs.length : Int)), .p (.bl false)] fun x => ∃ l : List Rat, x = row l ∧ l.length = hs.length ∧ (∀ q ∈ l, 0 ≤ q) ∧ (false = true → 0 ∈ l) ∧ AllB 4 l := fun M hf => d_numbers k hf hs.length false h0 (by omega)
  have ct : ∀ (s x : Rat) (M : Mem), Bd 4 s → Bd 4 x → callX (W (k + 3)) n__law_times [.p (fr s), .p (fr x)] M = some (.p (fr (s * x)), M) := fun s x M a b => c_ltimes (k + 1) a b (by decide) (by decide) M
  have nl : ∀ M : Mem, newl shP M = some (.p (.ref M.length), M ++ [shP]) := fun M => newl_ok (by decide)
  simp only [shP] at nl
  have lh : ∀ M, items M (.p (row hs)) = some (hs.map fr) := fun _ => rfl
  have sh : ∀ M, src .seq [.p (row hs)] M = some ⟨hs.map fr, [], true⟩ := fun _ => rfl
  have sm : small (hs.length : Int) = true := by unfold small; simp; omega
  have fin : ∀ (ps : List Rat) (M' : Mem), Pays hs.length ps → Flow i j M' → Kp i M M' → ∃ x, P.tup (ps.map fr) = x ∧ x.cl ∧ (∃ ps : List Rat, x = row ps ∧ Pays hs.length ps) ∧ Flow i j M' ∧ Kp i M M' := fun ps M' a b c => ⟨_, rfl, row_cl ps, ⟨ps, rfl, a⟩, b, c⟩
  generalize W (k + 3) = V at *
  simp [-Option.bind_some, F__law_pays, entry]
  refine (dd M 4 rfl hf (by decide) (by decide)).use fun x M1 hx fl1 c1 => ?_
  obtain ⟨d, rfl, hd⟩ := hx
  by_cases d0 : d = 0
  · subst d0
    simp [-Option.bind_some, s2, nl]
    refine (dp _ _ (fl1.app [shP]) (by have := fl1.lt.1; omega) (by simp [shP])).use fun x M2 hx fl2 c2 => ?_
    obtain ⟨s, hs1, rfl⟩ := hx
    have k2 : Kp i M M2 := (c1.kp.trans (Kp.app i M1 [shP])).trans c2.kp
    have f : lcs V G [4] (.call n__law_times [(.v 3), (.v 4)] [0, 1]) (.nm 4) [] ⟨hs.map fr, [], true⟩ (hs.map fr) [some (.p (.ref i)), some (.p (row hs)), some (.p (.int 0)), some (.p (fr s)), none, none, none] M2 = some (hs.map fun x => fr (s * x), M2) := lcs_map fr (fun x => fr (s * x)) rfl hs fun x hx => by
      simp [-Option.bind_some, lcx, wipeE, ct s x M2 (shQ_ok s hs1).2 (hb x hx)]
    have e : (hs.map fun x => fr (s * x)) = (hs.map fun x => s * x).map fr := by rw [List.map_map]; rfl
    have nl2 : newl ((hs.map fun x => s * x).map fr) M2 = some (.p (.ref M2.length), M2 ++ [(hs.map fun x => s * x).map fr]) := newl_ok (by simp [szl]; omega)
    rw [← e] at nl2
    simp [-Option.bind_some, sh, f, nl2]
    obtain ⟨x, h1, h2⟩ := fin (hs.map fun x => s * x) (M2 ++ [hs.map fun x => fr (s * x)]) ⟨by simp, fun q hq => by
      obtain ⟨x, hx, rfl⟩ := List.mem_map.mp hq
      exact Rat.mul_nonneg (shQ_ok s hs1).1 (hp x hx), fun q hq => by
      obtain ⟨x, hx, rfl⟩ := List.mem_map.mp hq
      exact ((shQ_ok s hs1).2.mul (hb x hx)).mono (by decide)⟩ (fl2.app _) (k2.trans (Kp.app i M2 _))
    rw [← e] at h1
    rw [h1]; exact h2
  · have d0' : ¬ ((d : Int) = 0) := by omega
    by_cases d1 : d = 1
    · subst d1
      simp [-Option.bind_some, lh]
      refine (dd M1 hs.length rfl fl1 h0 (by omega)).use fun x M2 hx fl2 c2 => ?_
      obtain ⟨a, rfl, ha⟩ := hx
      have k2 : Kp i M M2 := (c1.trans c2).kp
      simp [-Option.bind_some, lh, src_rng1 sm, rangeP_map]
      refine (lcs_draw (fun x : Nat => P.int (x : Int)) (fun d : Nat => fr (d : Rat)) (fun d => d < 6) (fun _ => rfl) (List.range hs.length) fl2 ?_).bind ?_
      · intro b hb M' fl kp
        simp [-Option.bind_some, lcx, wipeE]
        refine (dd M' 5 rfl fl (by decide) (by decide)).use fun x M3 hx fl3 c3 => ?_
        obtain ⟨e, rfl, he⟩ := hx
        by_cases z : b = a
        · have z' : (b : Int) = (a : Int) := by omega
          have mo : mulOk 1 (1 + (e : Int)) = true := mulOk_sm (sm_of (m := 1) (by decide) (by decide)) (sm_of (m := 4) (by omega) (by decide))
          simp [-Option.bind_some, z, mo, s2]
          exact ⟨1 + e, by rfl, by omega, fl3, c3.kp⟩
        · have z' : ¬ ((b : Int) = (a : Int)) := by omega
          have mo : mulOk 0 (1 + (e : Int)) = true := mulOk_sm (sm_of (m := 1) (by decide) (by decide)) (sm_of (m := 4) (by omega) (by decide))
          simp [-Option.bind_some, z, z', mo, s2]
          exact ⟨0, by rfl, by omega, fl3, c3.kp⟩
      · rintro ⟨acc, M3⟩ ⟨ds, h1', h2', h3', fl3, k3⟩
        dsimp only at h1' fl3 k3
        subst h1'
        have hl : ds.length = hs.length := by simpa using h2'
        have nl3 : newl (ds.map fun d : Nat => fr (d : Rat)) M3 = some (.p (.ref M3.length), M3 ++ [ds.map fun d : Nat => fr (d : Rat)]) := newl_ok (by simp [szl]; omega)
        have e : (ds.map fun d : Nat => fr (d : Rat)) = (ds.map fun d : Nat => (d : Rat)).map fr := by rw [List.map_map]; rfl
        simp [-Option.bind_some, nl3]
        obtain ⟨x, h1, h2⟩ := fin (ds.map fun d : Nat => (d : Rat)) (M3 ++ [ds.map fun d : Nat => fr (d : Rat)]) ⟨by simp [hl], fun q hq => by
          obtain ⟨x, hx, rfl⟩ := List.mem_map.mp hq
          exact Rat.natCast_nonneg, fun q hq => by
          obtain ⟨x, hx, rfl⟩ := List.mem_map.mp hq
          have := h3' x hx
          exact ⟨by show x < 2 ^ 12; omega, by show 1 < 2 ^ 12; decide⟩⟩ (fl3.app _) ((k2.trans k3).trans (Kp.app i M3 _))
        rw [← e] at h1
        rw [h1]; exact h2
    · have d1' : ¬ ((d : Int) = 1) := by omega
      simp [-Option.bind_some, d0', d0, d1, d1']
      refine (dd M1 5 rfl fl1 (by decide) (by decide)).use fun x M2 hx fl2 c2 => ?_
      obtain ⟨a, rfl, ha⟩ := hx
      have k2 : Kp i M M2 := (c1.trans c2).kp
      by_cases a0 : 0 < a
      · simp [-Option.bind_some, lh, a0]
        refine (dn M2 fl2).use fun x M3 hx fl3 c3 => ?_
        obtain ⟨l, rfl, h1, h2, -, h4⟩ := hx
        simp [-Option.bind_some]
        exact ⟨row_cl l, ⟨l, rfl, h1, h2, h4.mono (by decide)⟩, fl3, k2.chg c3⟩
      · have b1 : (hs.length : Int) ≤ 1000 := by omega
        have b3 : ¬ sizeLine = 0 := by decide
        have er : P.tup (List.replicate hs.length (fr 0)) = row (zer hs.length) := by simp [row, zer]
        simp [-Option.bind_some, lh, a0, s2, fr0, rep_one, b1, b3]
        rw [er]
        refine fun _ => ⟨row_cl _, ⟨_, rfl, zl _, fun q hq => ?_, fun q hq => ?_⟩, fl2, k2⟩
        · rw [List.eq_of_mem_replicate hq]; exact Rat.le_refl
        · rw [List.eq_of_mem_replicate hq]; exact bdz.mono (by decide)

end K30
end

section
set_option linter.all false
set_option autoImplicit false
set_option maxRecDepth 10000
set_option exponentiation.threshold 100000
set_option maxHeartbeats 4000000
namespace K30
open PySem IX
def intB : P → Bool
  | .int _ => true
  | _ => false
/-- a fraction in least terms -/
def frB : P → Bool
  | .tup [.int a, .int b] => decide (1 ≤ b) && (Nat.gcd a.natAbs b.natAbs == 1)
  | _ => false
theorem frB_fr (q : Rat) : frB (fr q) = true := by
  show (decide ((1 : Int) ≤ (q.den : Int)) && (Nat.gcd q.num.natAbs ((q.den : Int)).natAbs == 1)) = true
  rw [Bool.and_eq_true, decide_eq_true_eq, beq_iff_eq, Int.natAbs_natCast]
  exact ⟨by have := q.den_pos; omega, q.reduced⟩
theorem frB_iff {x : P} (h : frB x = true) : ∃ q, x = fr q := by
  unfold frB at h
  split at h
  · rename_i a b
    rw [Bool.and_eq_true, decide_eq_true_eq, beq_iff_eq] at h
    obtain ⟨h1, h2⟩ := h
    refine ⟨⟨a, b.natAbs, by omega, h2⟩, ?_⟩
    show P.tup [.int a, .int b] = .tup [.int a, .int ((b.natAbs : Nat) : Int)]
    rw [show ((b.natAbs : Nat) : Int) = b by omega]
  · cases h
theorem c_isnum (k : Nat) (x : P) (M : Mem) : callX (W (k + 1)) n_is_number [.p x] M = some (.p (.bl (intB x)), M) := by
  refine (pure_of (cl_bl _) (enter F_is_number rfl rfl ?_)).call
  generalize W k = V
  cases x <;> simp [-Option.bind_some, F_is_number, entry, intB]
theorem c_iswh (k : Nat) (x : P) (M : Mem) : callX (W (k + 1)) n__law_is_whole [.p x] M = some (.p (.bl (intB x)), M) := by
  refine (pure_of (cl_bl _) (enter F__law_is_whole rfl rfl ?_)).call
  generalize W k = V
  cases x <;> simp [-Option.bind_some, F__law_is_whole, entry, intB]
/-- the ints of a pair are not too long -/
def SzP (x : P) : Prop := ∀ a b, x = .tup [.int a, .int b] → a.natAbs < 2 ^ 4000 ∧ b.natAbs < 2 ^ 4000
theorem c_isfr (k : Nat) {x : P} (hs : SzP x) (M : Mem) : callX (W (k + 2)) n_is_fraction [.p x] M = some (.p (.bl (frB x)), M) := by
  refine (pure_of (cl_bl _) (enter F_is_fraction rfl rfl ?_)).call
  have w := fun x => c_isnum k x M
  cases x with
  | tup l =>
    match l, hs with
    | [], _ => generalize W (k + 1) = V at *; simp [-Option.bind_some, F_is_fraction, entry, frB]
    | [_], _ => generalize W (k + 1) = V at *; simp [-Option.bind_some, F_is_fraction, entry, frB]
    | _ :: _ :: _ :: _, _ => 
      generalize W (k + 1) = V at *
      have : ∀ n : Nat, ¬ ((n : Int) + 1 + 1 + 1 = 2) := fun n => by omega
      simp [-Option.bind_some, F_is_fraction, entry, frB, this]
    | [u, v], hs =>
      by_cases hu : intB u = true
      · by_cases hv : intB v = true
        · cases u <;> try cases hu
          cases v <;> try cases hv
          rename_i a b
          obtain ⟨s1, s2⟩ := hs a b rfl
          have c := c_common k a b (Nat.lt_trans s2 (Nat.pow_lt_pow_right (by decide) (by decide))) M
          generalize W (k + 1) = V at *
          by_cases hb : 1 ≤ b
          · simp [-Option.bind_some, F_is_fraction, entry, w, intB, hb, c, frB]
            by_cases g : Nat.gcd a.natAbs b.natAbs = 1
            · rw [g]; rfl
            · rw [beq_eq_false_iff_ne.mpr g, beq_eq_false_iff_ne]
              omega
          · simp [-Option.bind_some, F_is_fraction, entry, w, intB, hb, frB]
        · have hv' : intB v = false := Bool.eq_false_iff.mpr hv
          have hf : frB (.tup [u, v]) = false := by
            cases v <;> first | (cases u <;> rfl) | exact absurd rfl hv
          generalize W (k + 1) = V at *
          rw [hf]
          simp [-Option.bind_some, F_is_fraction, entry, w, hu, hv']
      · have hu' : intB u = false := Bool.eq_false_iff.mpr hu
        have hf : frB (.tup [u, v]) = false := by
          cases u <;> first | rfl | exact absurd rfl hu
        generalize W (k + 1) = V at *
        rw [hf]
        simp [-Option.bind_some, F_is_fraction, entry, w, hu']
  | _ => generalize W (k + 1) = V at *; simp [-Option.bind_some, F_is_fraction, entry, frB]
theorem mkRat_self2 {a : Int} {b : Nat} (hb : 0 < b) (h : Nat.gcd a.natAbs b = 1) : fr (mkRat a b) = .tup [.int a, .int (b : Int)] := by
  have : mkRat a b = ⟨a, b, by omega, h⟩ := Rat.mkRat_self ⟨a, b, by omega, h⟩
  rw [this]; rfl
theorem c_lisfr (k : Nat) {x : P} (hs : SzP x) (M : Mem) : callX (W (k + 2)) n__law_is_fraction [.p x] M = some (.p (.bl (frB x)), M) := by
  by_cases hx : frB x = true
  · obtain ⟨q, rfl⟩ := frB_iff hx
    rw [hx]
    obtain ⟨s1, s2⟩ := hs q.num (q.den : Int) rfl
    exact c_is_fraction k (m := 4000) ⟨s1, by rw [Int.natAbs_natCast] at s2; exact s2⟩ (by decide) M
  · have hx' : frB x = false := Bool.eq_false_iff.mpr hx
    rw [hx']
    refine (pure_of (cl_bl _) (enter F__law_is_fraction rfl rfl ?_)).call
    have w := fun x => c_iswh k x M
    cases x with
    | tup l =>
      match l, hs, hx, hx' with
      | [], _, _, _ => generalize W (k + 1) = V at *; simp [-Option.bind_some, F__law_is_fraction, entry]
      | [_], _, _, _ => generalize W (k + 1) = V at *; simp [-Option.bind_some, F__law_is_fraction, entry]
      | _ :: _ :: _ :: _, _, _, _ =>
        generalize W (k + 1) = V at *
        have : ∀ n : Nat, ¬ ((n : Int) + 1 + 1 + 1 = 2) := fun n => by omega
        simp [-Option.bind_some, F__law_is_fraction, entry, this]
      | [u, v], hs, hx, hx' =>
        by_cases hu : intB u = true
        · by_cases hv : intB v = true
          · cases u <;> try cases hu
            cases v <;> try cases hv
            rename_i a b
            obtain ⟨s1, s2⟩ := hs a b rfl
            by_cases hb : 0 < b
            · obtain ⟨n, rfl⟩ : ∃ n : Nat, b = (n : Int) := ⟨b.toNat, by omega⟩
              have n0 : 0 < n := by omega
              have c := c_lfrac k a n rfl n0 (Nat.lt_trans (by rw [Int.natAbs_natCast] at s2; exact s2) (Nat.pow_lt_pow_right (by decide) (by decide))) M
              have ng : ¬ Nat.gcd a.natAbs n = 1 := fun z => by
                have : frB (.tup [.int a, .int (n : Int)]) = true := by
                  rw [← mkRat_self2 n0 z]; exact frB_fr _
                exact hx this
              have ce : cmpop .eq (.p (fr (mkRat a n))) (.p (.tup [.int a, .int (n : Int)])) M = some false := by
                obtain ⟨g1, g2⟩ := num_eq a n (by omega)
                have e : cmpop .eq (.p (fr (mkRat a n))) (.p (.tup [.int a, .int (n : Int)])) M = (if (fr (mkRat a n)).fit 64 && (P.tup [.int a, .int (n : Int)]).fit 64 then some ((fr (mkRat a n)).eqv (P.tup [.int a, .int (n : Int)])) else none) := rfl
                have hd : ¬ ((mkRat a n).den = n) := fun z => by
                  rw [g2] at z
                  refine ng ?_
                  have gp : 0 < Nat.gcd a.natAbs n := Nat.gcd_pos_of_pos_right _ n0
                  have := Nat.div_mul_cancel (Nat.gcd_dvd_right a.natAbs n)
                  rw [z] at this
                  exact Nat.eq_of_mul_eq_mul_left n0 (by omega)
                have hd' : ((mkRat a n).den == n) = false := beq_eq_false_iff_ne.mpr hd
                rw [e]
                simp [fr, P.fit, P.fits, P.eqv, P.toD, P.toDs, PyData.eqv, PyData.eqvAll]
                intro _ z
                exact hd (by omega)
              generalize W (k + 1) = V at *
              simp [-Option.bind_some, F__law_is_fraction, entry, w, intB, hb, n0, c, ce]
            · generalize W (k + 1) = V at *
              simp [-Option.bind_some, F__law_is_fraction, entry, w, intB, hb]
          · have hv' : intB v = false := Bool.eq_false_iff.mpr hv
            generalize W (k + 1) = V at *
            simp [-Option.bind_some, F__law_is_fraction, entry, w, hu, hv']
        · have hu' : intB u = false := Bool.eq_false_iff.mpr hu
          generalize W (k + 1) = V at *
          simp [-Option.bind_some, F__law_is_fraction, entry, w, hu']
    | _ => generalize W (k + 1) = V at *; simp [-Option.bind_some, F__law_is_fraction, entry]
/-- a row of n fractions -/
def rowB (n : Nat) : P → Bool
  | .tup l => (l.length == n) && l.all frB
  | _ => false
theorem all_fr : ∀ {l : List P}, l.all frB = true → ∃ q : List Rat, l = q.map fr
  | [], _ => ⟨[], rfl⟩
  | x :: l, h => by
    rw [List.all_cons, Bool.and_eq_true] at h
    obtain ⟨q, rfl⟩ := frB_iff h.1
    obtain ⟨r, rfl⟩ := all_fr h.2
    exact ⟨q :: r, rfl⟩
theorem rowB_iff {n : Nat} {x : P} (h : rowB n x = true) : ∃ l : List Rat, l.length = n ∧ x = row l := by
  unfold rowB at h
  split at h
  · rw [Bool.and_eq_true, beq_iff_eq] at h
    obtain ⟨q, rfl⟩ := all_fr h.2
    exact ⟨q, by simpa using h.1, rfl⟩
  · cases h
def SzR (x : P) : Prop := ∀ l, x = .tup l → l.length ≤ 4000 ∧ ∀ y ∈ l, SzP y
theorem c_isfrs (k : Nat) {x : P} {n : Nat} (hn : n ≤ 6) (hs : SzR x) (M : Mem) : callX (W (k + 3)) n_is_fractions [.p x, .p (.int n), .p (.int n)] M = some (.p (.bl (rowB n x)), M) := by
  refine (pure_of (cl_bl _) (enter F_is_fractions rfl rfl ?_)).call
  cases x with
  | tup l =>
    obtain ⟨h1, h2⟩ := hs l rfl
    have c := fun y (hy : y ∈ l) => c_isfr k (h2 y hy) M
    generalize W (k + 2) = V at *
    by_cases hl : l.length = n
    · simp [-Option.bind_some, F_is_fractions, entry, rowB, hl]
      have f : gtest false (gnx V G [3] (.call n_is_fraction [.v 3] [0]) (.nm 3) [] [some (.p (.tup l)), some (.p (.int (n : Int))), some (.p (.int (n : Int))), none] M) (l.map id) = some (l.all frB) := gtest_all id frB l fun y hy => by
        simp [-Option.bind_some, gnx, wipeE, c y hy]
      rw [List.map_id] at f
      have ge : genEnd .all ⟨l, [], true⟩ (gnx V G [3] (.call n_is_fraction [.v 3] [0]) (.nm 3) [] [some (.p (.tup l)), some (.p (.int (n : Int))), some (.p (.int (n : Int))), none] M) M = some (.p (.bl (l.all frB)), M) := by
        show (if l.length + 1 < sizeLine then (gtest false _ l).map fun b => (D.p (.bl b), M) else none) = _
        rw [if_pos (by rw [szl]; omega), f]; rfl
      rw [ge]
      simp
    · have hl' : (l.length == n) = false := beq_eq_false_iff_ne.mpr hl
      by_cases g : n ≤ l.length
      · have g' : (n : Int) ≤ (l.length : Int) := by omega
        have g2 : ¬ ((l.length : Int) ≤ (n : Int)) := by omega
        have g3 : ¬ (l.length ≤ n) := by omega
        simp [-Option.bind_some, F_is_fractions, entry, rowB, hl', g, g', g2, g3]
      · have g' : ¬ ((n : Int) ≤ (l.length : Int)) := by omega
        simp [-Option.bind_some, F_is_fractions, entry, rowB, hl', g, g']
  | _ => generalize W (k + 2) = V at *; simp [-Option.bind_some, F_is_fractions, entry, rowB]
theorem c_arer (k : Nat) {x : P} {n : Nat} (hs : SzR x) (M : Mem) : callX (W (k + 3)) n__law_are_rows [.p (.tup [x]), .p (.int 1), .p (.int (n : Int))] M = some (.p (.bl (rowB n x)), M) := by
  refine (pure_of (cl_bl _) (enter F__law_are_rows rfl rfl ?_)).call
  have c := fun y (hy : SzP y) => c_lisfr k hy M
  generalize W (k + 2) = V at *
  simp [-Option.bind_some, F__law_are_rows, entry]
  refine lop_wpJ id (fun pre r ρ M' => ∃ (X : Mem) (z3 z4 : Option D), M' = M ++ X ∧ (r = [x] → X = [] ∧ z4 = none) ∧ (r = [] → rowB n x = true) ∧ ρ = [some (.p (.tup [x])), some (.p (.int 1)), some (.p (.int (n : Int))), z3, z4]) [x] ⟨[], none, none, by simp, fun _ => ⟨rfl, rfl⟩, fun z => by simp at z, rfl⟩ ?_ ?_
  · rintro J Q hJ hQ pre a r ρ M' hr ⟨X, z3, z4, rfl, hX, hp, rfl⟩
    have : pre = [] ∧ a = x ∧ r = [] := by
      cases pre with
      | nil => simp at hr; exact ⟨rfl, hr.1.symm, hr.2⟩
      | cons b p => simp at hr
    obtain ⟨rfl, rfl, rfl⟩ := this
    obtain ⟨rfl, rfl⟩ := hX rfl
    cases a with
    | tup l =>
      obtain ⟨h1, h2⟩ := hs l rfl
      have f : lcs V G [4] (E.c (.int 1)) (.nm 4) [(.not (.tru (.call n__law_is_fraction [.v 4] [0])))] ⟨l, [], true⟩ (l.map id) [some (.p (.tup [.tup l])), some (.p (.int 1)), some (.p (.int (n : Int))), some (.p (.tup l)), none] M = some ((l.filter fun y => !frB y).map fun _ => P.int 1, M) := lcs_filter id (fun _ => .int 1) (fun y => !frB y) rfl l fun y hy => by
        have := c y (h2 y hy)
        cases hf : frB y <;> rw [hf] at this <;> simp [-Option.bind_some, lcx, wipeE, this]
      rw [List.map_id] at f
      have nl : newl ((l.filter fun y => !frB y).map fun _ => P.int 1) M = some (.p (.ref M.length), M ++ [(l.filter fun y => !frB y).map fun _ => P.int 1]) := newl_ok (by
        have := List.length_filter_le (fun y => !frB y) l
        rw [List.length_map, szl]; omega)
      have ge := get_end M ((l.filter fun y => !frB y).map fun _ => P.int 1)
      have hlen : ((l.filter fun y => !frB y).map fun _ => P.int 1).length = (l.filter fun y => !frB y).length := List.length_map ..
      by_cases hl : l.length = n
      · have hl' : ((l.length : Int) = (n : Int)) := by omega
        have hb : (l.length == n) = true := beq_iff_eq.mpr hl
        by_cases g : l.all frB = true
        · have e : (l.filter fun y => !frB y) = [] := by
            rw [List.filter_eq_nil_iff]
            intro y hy
            have := List.all_eq_true.mp g y hy
            simp [this]
          have r : rowB n (.tup l) = true := by show ((l.length == n) && l.all frB) = true; rw [hb, g]; rfl
          have hlen : ((l.filter fun y => !frB y).map fun _ => P.int 1).length = 0 := by rw [hlen, e]; rfl
          clear e
          generalize ((l.filter fun y => !frB y).map fun _ => P.int 1) = ys at *
          have hy : ys = [] := List.length_eq_zero_iff.mp hlen
          subst hy
          simp [-Option.bind_some, -List.map_eq_nil_iff, hl, hl', f, nl]
          rw [hJ]
          exact ⟨[[]], _, _, rfl, by simp, fun _ => r, rfl⟩
        · have r : rowB n (.tup l) = false := by show ((l.length == n) && l.all frB) = false; rw [Bool.eq_false_iff.mpr g, Bool.and_false]
          have e : 0 < (l.filter fun y => !frB y).length := by
            rw [List.length_pos_iff]
            intro z
            rw [List.filter_eq_nil_iff] at z
            refine g (List.all_eq_true.mpr fun y hy => ?_)
            have := z y hy
            simpa using this
          rw [← hlen] at e
          generalize ((l.filter fun y => !frB y).map fun _ => P.int 1) = ys at *
          simp [-Option.bind_some, hl, hl', f, nl, e]
          rw [hQ]
          simp [r]
      · have hl' : ¬ ((l.length : Int) = (n : Int)) := by omega
        have r : rowB n (.tup l) = false := by show ((l.length == n) && l.all frB) = false; rw [beq_eq_false_iff_ne.mpr hl]; rfl
        simp [-Option.bind_some, hl, hl']
        rw [hQ]
        simp [r]
    | _ => simp [-Option.bind_some]; rw [hQ]; simp [rowB]
  · rintro ρ M' ⟨X, z3, z4, rfl, -, h, rfl⟩
    simp [-Option.bind_some, h rfl]
theorem c_tabl (k : Nat) {l : List Rat} {n : Nat} (hl : l.length = n) (h6 : n ≤ 6) (hb : AllB 200 l) (M : Mem) : callX (W (k + 4)) n__law_is_table [.p (.tup [row l]), .p (.int 1), .p (.int (n : Int))] M = some (.p (.bl (l.all (fun q => decide (0 ≤ q)) && decide (l.sum = 1))), M) := by
  by_cases ok : (∀ q ∈ l, 0 ≤ q) ∧ l.sum = 1
  · have e : (l.all (fun q => decide (0 ≤ q)) && decide (l.sum = 1)) = true := by
      rw [Bool.and_eq_true, decide_eq_true_eq]
      exact ⟨List.all_eq_true.mpr fun q hq => decide_eq_true (ok.1 q hq), ok.2⟩
    rw [e]
    exact c_is_table k hl h6 hb ok.1 ok.2 M
  have e : (l.all (fun q => decide (0 ≤ q)) && decide (l.sum = 1)) = false := by
    rw [Bool.eq_false_iff]
    intro z
    rw [Bool.and_eq_true, decide_eq_true_eq] at z
    exact ok ⟨fun q hq => of_decide_eq_true (List.all_eq_true.mp z.1 q hq), z.2⟩
  rw [e]
  refine (pure_of (cl_bl _) (enter F__law_is_table rfl rfl ?_)).call
  have c1 := c_are_rows k hl h6 hb (by decide) M
  have i0 : ∀ q : Rat, index (.p (fr q)) (.p (.int 0)) M = some (.int q.num) := fun _ => by rfl
  have ct : ∀ ys : List P, callX (W (k + 3)) n__law_total [.p (.tup (l.map fr))] (M ++ [ys]) = some (.p (fr l.sum), M ++ [ys]) := fun ys => c_ltotal k (M := M ++ [ys]) l hb (by rw [hl]; omega) (by decide) (Seq.tup _ (l.map fr))
  generalize W (k + 3) = V at *
  unfold row at c1
  simp [-Option.bind_some, F__law_is_table, entry, row, c1]
  have f : lcs V G [4] (E.c (.int 1)) (.nm 4) [(.cmp .lt (.idx (.v 4) (.c (.int 0))) (.c (.int 0)))] ⟨l.map fr, [], true⟩ (l.map fr) [some (.p (.tup [.tup (l.map fr)])), some (.p (.int 1)), some (.p (.int (n : Int))), some (.p (.tup (l.map fr))), none] M = some ((l.filter fun q => decide (q < 0)).map fun _ => P.int 1, M) := lcs_filter fr (fun _ => .int 1) (fun q => decide (q < 0)) rfl l fun q hq => by
    by_cases h : q < 0
    · have h' : q.num < 0 := by rw [num_neg]; exact h
      simp [-Option.bind_some, -ix_tup, lcx, wipeE, i0, h, h']
    · have h' : ¬ q.num < 0 := by rw [num_neg]; exact h
      simp [-Option.bind_some, -ix_tup, lcx, wipeE, i0, h, h']
  have hn : (∀ q ∈ l, 0 ≤ q) ∨ 0 < ((l.filter fun q => decide (q < 0)).map fun _ => P.int 1).length := by
    by_cases h : ∀ q ∈ l, 0 ≤ q
    · exact .inl h
    · right
      rw [List.length_map, List.length_pos_iff]
      intro z
      rw [List.filter_eq_nil_iff] at z
      exact h fun q hq => Rat.not_lt.mp (by simpa using z q hq)
  have nl : newl ((l.filter fun q => decide (q < 0)).map fun _ => P.int 1) M = some (.p (.ref M.length), M ++ [(l.filter fun q => decide (q < 0)).map fun _ => P.int 1]) := newl_ok (by
    have := List.length_filter_le (fun q => decide (q < 0)) l
    rw [List.length_map, szl]; omega)
  generalize ((l.filter fun q => decide (q < 0)).map fun _ => P.int 1) = ys at *
  have nl2 : newl [.int 1] (M ++ [ys]) = some (.p (.ref (M.length + 1)), M ++ [ys, [.int 1]]) := by rw [newl_ok (by simp [szl])]; simp
  rw [lcs_cons]
  by_cases g : 0 < ys.length
  · simp [-Option.bind_some, lcx, wipeE, f, nl, g, nl2]
  · have hs : ¬ l.sum = 1 := fun z => ok ⟨hn.resolve_right g, z⟩
    simp [-Option.bind_some, lcx, wipeE, f, nl, g, ct, fr1, s2, hs, nl2]

end K30
end

section
set_option linter.all false
set_option autoImplicit false
set_option maxRecDepth 10000
set_option exponentiation.threshold 100000
set_option maxHeartbeats 4000000
namespace K30
open PySem IX
theorem sum_nnR : ∀ {l : List Rat}, (∀ x ∈ l, 0 ≤ x) → 0 ≤ l.sum
  | [], _ => by simp
  | x :: l, h => by
    have := sum_nnR (l := l) fun y hy => h y (List.mem_cons_of_mem _ hy)
    have := h x List.mem_cons_self
    rw [List.sum_cons]; grind
theorem le_sumR : ∀ {l : List Rat} {q : Rat}, (∀ x ∈ l, 0 ≤ x) → q ∈ l → q ≤ l.sum
  | x :: l, q, h, hq => by
    have h1 := sum_nnR (l := l) fun y hy => h y (List.mem_cons_of_mem _ hy)
    have h2 := h x List.mem_cons_self
    rw [List.sum_cons]
    rcases List.mem_cons.mp hq with rfl | hq
    · grind
    · have := le_sumR (fun y hy => h y (List.mem_cons_of_mem _ hy)) hq
      grind
theorem c_chal (k : Nat) {l : List Rat} {n : Nat} (hl : l.length = n) (h6 : n ≤ 6) (hb : AllB 200 l) (M : Mem) : callX (W (k + 4)) n_is_chances [.p (row l), .p (.int (n : Int)), .p (.int (n : Int))] M = some (.p (.bl (l.all (fun q => decide (0 ≤ q)) && decide (l.sum = 1))), M) := by
  have sz : SzR (row l) := fun l' e => by
    cases e
    refine ⟨by rw [List.length_map]; omega, fun y hy => ?_⟩
    obtain ⟨q, hq, rfl⟩ := List.mem_map.mp hy
    intro a b e
    cases e
    exact ⟨(hb q hq).n (by decide), (hb q hq).d (by decide)⟩
  have r : rowB n (row l) = true := by
    show (((l.map fr).length == n) && (l.map fr).all frB) = true
    rw [List.length_map, beq_iff_eq.mpr hl, Bool.true_and, List.all_map]
    exact List.all_eq_true.mpr fun q _ => frB_fr q
  have c1 := c_isfrs k h6 sz M
  rw [r] at c1
  have c2 := c_wholes k 200 l hb (by decide) (by rw [hl]; omega) (by omega) (Seq.tup M _)
  refine (pure_of (cl_bl _) (enter F_is_chances rfl rfl ?_)).call
  have pB := bot_pos l 1 (by decide)
  have dB := bot_mem l 1
  generalize bot l 1 = B at *
  have es := sumT_eq l dB
  have i0 : ∀ q : Rat, index (.p (fr q)) (.p (.int 0)) M = some (.int q.num) := fun _ => by rfl
  have i1 : ∀ q : Rat, index (.p (fr q)) (.p (.int 1)) M = some (.int q.den) := fun _ => by rfl
  generalize W (k + 3) = V at *
  have f : gtest true (gnx V G [3] (.or [(.cmp .lt (.idx (.v 3) (.c (.int 0))) (.c (.int 0))), (.cmp .gt (.idx (.v 3) (.c (.int 0))) (.idx (.v 3) (.c (.int 1))))]) (.nm 3) [] [some (.p (row l)), some (.p (.int (n : Int))), some (.p (.int (n : Int))), none, none, none] M) (l.map fr) = some (l.any fun q => decide (q < 0) || decide (1 < q)) := gtest_any fr _ l fun q hq => by
    have h1 := @num_neg q
    have h2 : ((q.den : Int) < q.num) = (1 < q) := by
      have := @num_le_den q
      apply propext
      rw [← Int.not_le, this, Rat.not_le]
    by_cases g : q < 0
    · simp [-Option.bind_some, -ix_tup, gnx, wipeE, i0, i1, h1, g]
    · by_cases g2 : 1 < q
      · simp [-Option.bind_some, -ix_tup, gnx, wipeE, i0, i1, h1, h2, g, g2]
      · simp [-Option.bind_some, -ix_tup, gnx, wipeE, i0, i1, h1, h2, g, g2]
  have ge : genEnd .any ⟨l.map fr, [], true⟩ (gnx V G [3] (.or [(.cmp .lt (.idx (.v 3) (.c (.int 0))) (.c (.int 0))), (.cmp .gt (.idx (.v 3) (.c (.int 0))) (.idx (.v 3) (.c (.int 1))))]) (.nm 3) [] [some (.p (row l)), some (.p (.int (n : Int))), some (.p (.int (n : Int))), none, none, none] M) M = some (.p (.bl (l.any fun q => decide (q < 0) || decide (1 < q))), M) := by
    show (if (l.map fr).length + 1 < sizeLine then (gtest true _ (l.map fr)).map fun b => (D.p (.bl b), M) else none) = _
    rw [if_pos (by rw [List.length_map, szl]; omega), f]; rfl
  unfold row at c1 ge ⊢
  simp [-Option.bind_some, F_is_chances, entry, c1]
  by_cases g : (l.any fun q => decide (q < 0) || decide (1 < q)) = true
  · have h : (l.all (fun q => decide (0 ≤ q)) && decide (l.sum = 1)) = false := by
      rw [Bool.eq_false_iff]
      intro z
      rw [Bool.and_eq_true, decide_eq_true_eq] at z
      have nn : ∀ x ∈ l, 0 ≤ x := fun q hq => of_decide_eq_true (List.all_eq_true.mp z.1 q hq)
      obtain ⟨q, hq, e⟩ := List.any_eq_true.mp g
      have := nn q hq
      have := le_sumR nn hq
      rw [Bool.or_eq_true, decide_eq_true_eq, decide_eq_true_eq] at e
      grind
    rw [g] at ge
    simp [-Option.bind_some, ge, h]
  · have g' : (l.any fun q => decide (q < 0) || decide (1 < q)) = false := Bool.eq_false_iff.mpr g
    rw [g'] at ge
    simp [-Option.bind_some, ge, c2]
    have im := intsP_map (tp B) l
    have e : (((l.map (tp B)).sum = (B : Int)) ↔ l.sum = 1) := by
      rw [← Rat.intCast_inj, es]
      have B0 : (0 : Rat) < (B : Rat) := Rat.natCast_pos.mpr pB
      have : (((B : Nat) : Int) : Rat) = (B : Rat) := rfl
      rw [this]
      constructor
      · intro z
        refine eq_of_mul B0 ?_
        grind
      · intro z; rw [z]; grind
    have al : (l.all fun q => decide (0 ≤ q)) = true := List.all_eq_true.mpr fun q hq => by
      rw [decide_eq_true_eq]
      refine Rat.not_lt.mp fun z => ?_
      have : (l.any fun q => decide (q < 0) || decide (1 < q)) = true := List.any_eq_true.mpr ⟨q, hq, show (decide (q < 0) || decide (1 < q)) = true by rw [decide_eq_true z]; rfl⟩
      exact g this
    rw [al]
    by_cases h : l.sum = 1
    · have h' := e.mpr h
      simp [-Option.bind_some, bfun, items, one, im, h, h']
    · have h' : ¬ ((l.map (tp B)).sum = (B : Int)) := fun z => h (e.mp z)
      simp [-Option.bind_some, bfun, items, one, im, h, h']

end K30
end

section
set_option linter.all false
set_option autoImplicit false
set_option maxRecDepth 10000
set_option exponentiation.threshold 100000
set_option maxHeartbeats 4000000
namespace K30
open PySem IX
/-- at a fraction's place -/
def Lf (m : Nat) (x : P) : Prop := x.cl ∧ SzP x ∧ ∀ q, x = fr q → Bd m q
/-- at a row's place -/
def Rw (m : Nat) (x : P) : Prop := x.cl ∧ ∀ l, x = .tup l → l.length ≤ 14 ∧ ∀ y ∈ l, Lf m y
theorem Rw.sz {m : Nat} {x : P} (h : Rw m x) : SzR x := fun l e => ⟨by have := (h.2 l e).1; omega, fun y hy => ((h.2 l e).2 y hy).2.1⟩
theorem Lf.pair {m : Nat} {a b : Int} (ha : a.natAbs < 2 ^ m) (hb : b.natAbs < 2 ^ m) (hm : m ≤ 3000) : Lf m (.tup [.int a, .int b]) := by
  refine ⟨fun n => by simp, fun a' b' e => ?_, fun q e => ?_⟩
  · cases e; exact ⟨big ha (by omega), big hb (by omega)⟩
  · unfold fr at e
    simp only [P.tup.injEq, List.cons.injEq, P.int.injEq, and_true] at e
    obtain ⟨rfl, rfl⟩ := e
    exact ⟨ha, by rw [Int.natAbs_natCast] at hb; exact hb⟩
theorem Lf.fr {m : Nat} {q : Rat} (h : Bd m q) (hm : m ≤ 3000) : Lf m (fr q) := Lf.pair h.1 (by rw [Int.natAbs_natCast]; exact h.2) hm
theorem Lf.int (m : Nat) (i : Int) : Lf m (.int i) := ⟨cl_int i, fun a b e => (by cases e), fun q e => (by cases e)⟩
theorem Lf.non (m : Nat) : Lf m .non := ⟨cl_non, fun a b e => (by cases e), fun q e => (by cases e)⟩
theorem Rw.int (m : Nat) (i : Int) : Rw m (.int i) := ⟨cl_int i, fun l e => by cases e⟩
theorem Rw.non (m : Nat) : Rw m .non := ⟨cl_non, fun l e => by cases e⟩
theorem cl_tupL {l : List P} (h : ∀ y ∈ l, y.cl) : (P.tup l).cl := by
  have := cl_tup (g := id) (as := l) h
  rw [List.map_id] at this; exact this
theorem Rw.tup {m : Nat} {l : List P} (hl : l.length ≤ 14) (h : ∀ y ∈ l, Lf m y) : Rw m (.tup l) := ⟨cl_tupL fun y hy => (h y hy).1, fun l' e => by cases e; exact ⟨hl, h⟩⟩
theorem Rw.row {m : Nat} {l : List Rat} (hl : l.length ≤ 14) (h : AllB m l) (hm : m ≤ 3000) : Rw m (row l) := Rw.tup (by rw [List.length_map]; exact hl) fun y hy => by
  obtain ⟨q, hq, rfl⟩ := List.mem_map.mp hy
  exact Lf.fr (h q hq) hm
theorem Rw.get {m n : Nat} {x : P} (h : Rw m x) (r : rowB n x = true) : ∃ l : List Rat, l.length = n ∧ x = IX.row l ∧ AllB m l := by
  obtain ⟨l, hl, rfl⟩ := rowB_iff r
  exact ⟨l, hl, rfl, fun q hq => ((h.2 _ rfl).2 _ (List.mem_map_of_mem hq)).2.2 q rfl⟩
theorem d_changed_fr (k : Nat) {i j : Nat} {M : Mem} (hf : Flow i j M) {q : Rat} {m : Nat} (hq : Bd m q) (h4 : 4 ≤ m) (hm : m ≤ 3000) (deep : Int) : Dr (W (k + 3)) i j M n__law_changed [.p (.ref i), .p (fr q), .p (.int deep)] fun x => Lf m x := by
  refine dr_of hf (enter F__law_changed rfl rfl ?_)
  have c := c_lisfr k (x := fr q) (fun a b e => by cases e; exact ⟨hq.n (by omega), hq.d (by omega)⟩) M
  rw [frB_fr] at c
  have i0 : ∀ M, index (.p (fr q)) (.p (.int 0)) M = some (.int q.num) := fun _ => by rfl
  have nl : newl [.tup [.int 0, .int 1], .tup [.int 1, .int 1], .tup [.int (-1), .int 1], .tup [.int 1, .int 2], .tup [.int 2, .int 4], .int 0, .tup [.int q.num, .bl true], .non] M = some (.p (.ref M.length), M ++ [[.tup [.int 0, .int 1], .tup [.int 1, .int 1], .tup [.int (-1), .int 1], .tup [.int 1, .int 2], .tup [.int 2, .int 4], .int 0, .tup [.int q.num, .bl true], .non]]) := newl_ok (by simp [szl])
  have dp := d_pick k (hf.app [[.tup [.int 0, .int 1], .tup [.int 1, .int 1], .tup [.int (-1), .int 1], .tup [.int 1, .int 2], .tup [.int 2, .int 4], .int 0, .tup [.int q.num, .bl true], .non]]) (d := .p (.ref M.length)) (xs := [.tup [.int 0, .int 1], .tup [.int 1, .int 1], .tup [.int (-1), .int 1], .tup [.int 1, .int 2], .tup [.int 2, .int 4], .int 0, .tup [.int q.num, .bl true], .non]) (fun M' c => c.at (by have := hf.lt.1; omega) (get_end _ _)) (by simp) (lt9000 (by simp)) (fun x hx => by
    simp only [List.mem_cons, List.not_mem_nil, or_false] at hx
    rcases hx with rfl | rfl | rfl | rfl | rfl | rfl | rfl | rfl <;> intro n <;> simp)
  have two : ∀ z : Nat, z < 2 ^ 4 → z < 2 ^ m := fun z hz => Nat.lt_of_lt_of_le hz (Nat.pow_le_pow_right (by decide) h4)
  generalize W (k + 2) = V at *
  simp [-Option.bind_some, -ix_tup, F__law_changed, entry, c, i0, s2, nl]
  refine dp.use fun x M' hx fl c' => ?_
  simp [-Option.bind_some]
  have hl : Lf m x := by
    simp only [List.mem_cons, List.not_mem_nil, or_false] at hx
    rcases hx with rfl | rfl | rfl | rfl | rfl | rfl | rfl | rfl
    · exact Lf.pair (two _ (by decide)) (two _ (by decide)) hm
    · exact Lf.pair (two _ (by decide)) (two _ (by decide)) hm
    · exact Lf.pair (two _ (by decide)) (two _ (by decide)) hm
    · exact Lf.pair (two _ (by decide)) (two _ (by decide)) hm
    · exact Lf.pair (two _ (by decide)) (two _ (by decide)) hm
    · exact Lf.int m 0
    · exact ⟨fun n => by simp, fun a b e => by simp at e, fun r e => by simp [fr] at e⟩
    · exact Lf.non m
  exact ⟨hl.1, hl, fl, (Kp.app i M _).trans c'.kp⟩
theorem cutp_pre (l : List P) (a : Nat) : cutp l none (some (a : Int)) = l.take a := by
  have h : ¬ ((a : Int) < 0) := by omega
  unfold cutp clip
  simp only [h, if_false, List.drop_zero, Int.toNat_natCast, Nat.sub_zero]
  rw [List.take_eq_take_iff]; omega
theorem cutp_post (l : List P) (a : Nat) : cutp l (some (a : Int)) none = l.drop a := by
  have h : ¬ ((a : Int) < 0) := by omega
  unfold cutp clip
  simp only [h, if_false, Int.toNat_natCast]
  by_cases g : a ≤ l.length
  · rw [Nat.min_eq_left g, List.take_of_length_le (by simp)]
  · rw [Nat.min_eq_right (by omega), List.drop_of_length_le (Nat.le_refl _), List.drop_of_length_le (by omega)]; simp
theorem d_changed_tup (k : Nat) {i j : Nat} {M : Mem} (hf : Flow i j M) {l : List P} (hl0 : 0 < l.length) (hl : l.length ≤ 14) (hcl : ∀ y ∈ l, y.cl) (hs : SzP (.tup l)) (hn : frB (.tup l) = false) {deep : Int} (hd : 0 < deep) (Qa : Nat → P → Prop) (hc : ∀ a x, Qa a x → x.cl)
    (rec : ∀ a x M', l[a]? = some x → Flow i j M' → Dr (W (k + 3)) i j M' n__law_changed [.p (.ref i), .p x, .p (.int (deep - 1))] (Qa a)) :
    Dr (W (k + 4)) i j M n__law_changed [.p (.ref i), .p (.tup l), .p (.int deep)] fun x => x = .non ∨ x = .tup [] ∨ x = .tup (l.tail) ∨ x = .tup (l ++ l.take 1) ∨ x = .tup l.reverse ∨ x = .int 7 ∨ ∃ a y, a < l.length ∧ Qa a y ∧ x = .tup (l.set a y) := by
  refine dr_of hf (enter F__law_changed rfl rfl ?_)
  have c := c_lisfr (k + 1) (x := .tup l) hs M
  rw [hn] at c
  have dd : ∀ (M : Mem) (m : Nat) {mI : Int}, mI = (m : Int) → Flow i j M → 0 < m → m ≤ 4000 → Dr (W (k + 3)) i j M n__law_draw [.p (.ref i), .p (.int mI)] fun x => ∃ d : Nat, x = .int d ∧ d < m := fun M m mI e hf h0 h1 => by
    subst e; exact d_draw (k + 2) hf m h0 (lt9000 h1)
  have dp := fun (M' : Mem) (fl : Flow i j M') => d_pick (k + 1) (fl.app [[.non, .tup [], .tup (l.tail), .tup (l ++ l.take 1), .tup l.reverse, .int 7]]) (d := .p (.ref M'.length)) (xs := [.non, .tup [], .tup (l.tail), .tup (l ++ l.take 1), .tup l.reverse, .int 7]) (fun M' c => c.at (by have := fl.lt.1; omega) (get_end _ _)) (by simp) (lt9000 (by simp)) (fun x hx => by
    simp only [List.mem_cons, List.not_mem_nil, or_false] at hx
    rcases hx with rfl | rfl | rfl | rfl | rfl | rfl
    · exact cl_non
    · exact fun n => by simp
    · exact cl_tupL fun y hy => hcl y (List.mem_of_mem_tail hy)
    · exact cl_tupL fun y hy => by
        rcases List.mem_append.mp hy with hy | hy
        · exact hcl y hy
        · exact hcl y (List.mem_of_mem_take hy)
    · exact cl_tupL fun y hy => hcl y (List.mem_reverse.mp hy)
    · exact cl_int 7)
  have nl : ∀ M' : Mem, newl [.non, .tup [], .tup (l.tail), .tup (l ++ l.take 1), .tup l.reverse, .int 7] M' = some (.p (.ref M'.length), M' ++ [[.non, .tup [], .tup (l.tail), .tup (l ++ l.take 1), .tup l.reverse, .int 7]]) := fun M' => newl_ok (by simp [szl])
  have p1 : cutp l (some 1) none = l.tail := by have := cutp_post l 1; simpa using this
  have p2 : cutp l none (some 1) = l.take 1 := cutp_pre l 1
  have rv : ∀ M, bfun .rv [.p (.tup l)] M = some (.p (.tup l.reverse), M) := fun _ => by rfl
  have sz1 : l.length + min 1 l.length ≤ sizeLine := by rw [szl]; omega
  generalize W (k + 3) = V at *
  have ne : ¬ l = [] := fun z => by rw [z] at hl0; exact absurd hl0 (by simp)
  simp [-Option.bind_some, -ix_tup, F__law_changed, entry, c, hl0, hd]
  refine (dd M 6 rfl hf (by decide) (by decide)).use fun x M1 hx fl1 c1 => ?_
  obtain ⟨d, rfl, hd6⟩ := hx
  by_cases d0 : 0 < d
  · simp [-Option.bind_some, -ix_tup, d0]
    refine (dd M1 l.length rfl fl1 hl0 (by omega)).use fun x M2 hx fl2 c2 => ?_
    obtain ⟨a, rfl, ha⟩ := hx
    have ix : index (.p (.tup l)) (.p (.int (a : Int))) M2 = some l[a] := by rw [ix_tup]; exact atx_nat (List.getElem?_eq_getElem ha)
    simp [-Option.bind_some, -ix_tup, cutp_pre, ix]
    refine (rec a l[a] M2 (List.getElem?_eq_getElem ha) fl2).use fun y M3 hy fl3 c3 => ?_
    have q2 : cutp l (some ((a : Int) + 1)) none = l.drop (a + 1) := cutp_post l (a + 1)
    have e : l.take a ++ y :: l.drop (a + 1) = l.set a y := (List.set_eq_take_append_cons_drop (l := l) (i := a) (a := y)).symm ▸ by rw [if_pos ha]
    have z1 : min a l.length + 1 ≤ sizeLine := by rw [szl]; omega
    have z2 : min a l.length + 1 + (l.length - (a + 1)) ≤ sizeLine := by rw [szl]; omega
    have z3 : 1 ≤ sizeLine := s1
    simp [-Option.bind_some, -ix_tup, q2, e, z1, z2, z3]
    refine ⟨cl_tupL fun u hu => ?_, .inr (.inr (.inr (.inr ⟨a, ha, y, hy, rfl⟩))), fl3, ((c1.trans c2).trans c3).kp⟩
    rcases List.mem_or_eq_of_mem_set hu with hu | rfl
    · exact hcl u hu
    · exact hc a _ hy
  · simp [-Option.bind_some, -ix_tup, d0, p1, p2, rv, sz1, nl]
    refine (dp M1 fl1).use fun x M2 hx fl2 c2 => ?_
    simp only [List.mem_cons, List.not_mem_nil, or_false] at hx
    simp [-Option.bind_some]
    refine ⟨?_, ?_, fl2, (c1.kp.trans (Kp.app i M1 _)).trans c2.kp⟩
    · rcases hx with rfl | rfl | rfl | rfl | rfl | rfl
      · exact cl_non
      · exact fun n => by simp
      · exact cl_tupL fun y hy => hcl y (List.mem_of_mem_tail hy)
      · exact cl_tupL fun y hy => by
          rcases List.mem_append.mp hy with hy | hy
          · exact hcl y hy
          · exact hcl y (List.mem_of_mem_take hy)
      · exact cl_tupL fun y hy => hcl y (List.mem_reverse.mp hy)
      · exact cl_int 7
    · rcases hx with h | h | h | h | h | h <;> simp [h]
theorem d_changed_row (k : Nat) {i j : Nat} {M : Mem} (hf : Flow i j M) {l : List Rat} {m : Nat} (hl0 : 0 < l.length) (hl : l.length ≤ 6) (hb : AllB m l) (h4 : 4 ≤ m) (hm : m ≤ 3000) {deep : Int} (hd : 0 < deep) : Dr (W (k + 4)) i j M n__law_changed [.p (.ref i), .p (row l), .p (.int deep)] fun x => Rw m x := by
  have hn : frB (row l) = false := by
    match l with
    | [] => rfl
    | [_] => rfl
    | [a, b] => rfl
    | _ :: _ :: _ :: _ => rfl
  have hs : SzP (row l) := fun a b e => by
    match l, e with
    | [c, d], e => cases e
  have lf : ∀ y ∈ l.map fr, Lf m y := fun y hy => by
    obtain ⟨q, hq, rfl⟩ := List.mem_map.mp hy
    exact Lf.fr (hb q hq) hm
  refine (d_changed_tup k hf (l := l.map fr) (by simpa using hl0) (by rw [List.length_map]; omega) (fun y hy => (lf y hy).1) hs hn hd (fun _ y => Lf m y) (fun _ _ h => h.1) ?_).mono ?_
  · intro a x M' hx fl
    rw [List.getElem?_map] at hx
    obtain ⟨q, hq, rfl⟩ := Option.map_eq_some_iff.mp hx
    exact d_changed_fr k fl (hb q (List.mem_of_getElem? hq)) h4 hm _
  · rintro r ⟨x, e, hx, h⟩
    refine ⟨x, e, ?_, h⟩
    rcases hx with rfl | rfl | rfl | rfl | rfl | rfl | ⟨a, y, ha, hy, rfl⟩
    · exact Rw.non m
    · exact Rw.tup (by simp) (by simp)
    · exact Rw.tup (by simp; omega) fun y hy => lf y (List.mem_of_mem_tail hy)
    · exact Rw.tup (by simp; omega) fun y hy => by
        rcases List.mem_append.mp hy with hy | hy
        · exact lf y hy
        · exact lf y (List.mem_of_mem_take hy)
    · exact Rw.tup (by simp; omega) fun y hy => lf y (List.mem_reverse.mp hy)
    · exact Rw.int m 7
    · exact Rw.tup (by simp; omega) fun u hu => by
        rcases List.mem_or_eq_of_mem_set hu with hu | rfl
        · exact lf u hu
        · exact hy
/-- a value told or changed: by place, if it has three items -/
def Tp (x : P) : Prop := x.cl ∧ ∀ a b c, x = .tup [a, b, c] → Lf 500 a ∧ Rw 200 b ∧ Rw 120 c
theorem Tp.of3 {a b c : P} (ha : Lf 500 a) (hb : Rw 200 b) (hc : Rw 120 c) : Tp (.tup [a, b, c]) :=
  ⟨cl_tupL fun y hy => by
    simp only [List.mem_cons, List.not_mem_nil, or_false] at hy
    rcases hy with rfl | rfl | rfl
    · exact ha.1
    · exact hb.1
    · exact hc.1, fun a' b' c' e => by cases e; exact ⟨ha, hb, hc⟩⟩
theorem d_changed (k : Nat) {i j : Nat} {M : Mem} (hf : Flow i j M) {v p q : Rat} {ch : List Rat} (hv : Bd 500 v) (h0 : 0 < ch.length) (h6 : ch.length ≤ 6) (hc : AllB 200 ch) (hp : Bd 120 p) (hq : Bd 120 q) : Dr (W (k + 5)) i j M n__law_changed [.p (.ref i), .p (gP v ch p q), .p (.int 4)] Tp := by
  have fv : Lf 500 (fr v) := Lf.fr hv (by decide)
  have rc : Rw 200 (row ch) := Rw.row (by omega) hc (by decide)
  have pq : AllB 120 [p, q] := fun x hx => by
    simp only [List.mem_cons, List.not_mem_nil, or_false] at hx
    rcases hx with rfl | rfl
    · exact hp
    · exact hq
  have rp : Rw 120 (pr (p, q)) := by rw [pr_row]; exact Rw.row (by simp) pq (by decide)
  have cl3 : ∀ y ∈ [fr v, row ch, pr (p, q)], y.cl := fun y hy => by
    simp only [List.mem_cons, List.not_mem_nil, or_false] at hy
    rcases hy with rfl | rfl | rfl
    · exact fv.1
    · exact rc.1
    · exact rp.1
  refine (d_changed_tup (k + 1) hf (l := [fr v, row ch, pr (p, q)]) (by simp) (by simp) cl3 (fun a b e => by cases e) rfl (by decide) (fun a y => (a = 0 → Lf 500 y) ∧ (a = 1 → Rw 200 y) ∧ (a = 2 → Rw 120 y) ∧ y.cl) (fun _ _ h => h.2.2.2) ?_).mono ?_
  · intro a x M' hx fl
    match a, hx with
    | 0, hx =>
      cases hx
      exact (d_changed_fr (k + 1) fl hv (by decide) (by decide) _).mono fun r ⟨x, e, hx, h⟩ => ⟨x, e, ⟨fun _ => hx, fun z => by omega, fun z => by omega, hx.1⟩, h⟩
    | 1, hx =>
      cases hx
      exact (d_changed_row k fl h0 h6 hc (by decide) (by decide) (by decide)).mono fun r ⟨x, e, hx, h⟩ => ⟨x, e, ⟨fun z => by omega, fun _ => hx, fun z => by omega, hx.1⟩, h⟩
    | 2, hx =>
      cases hx
      exact (d_changed_row k fl (l := [p, q]) (by simp) (by simp) pq (by decide) (by decide) (by decide)).mono fun r ⟨x, e, hx, h⟩ => ⟨x, e, ⟨fun z => by omega, fun z => by omega, fun _ => hx, hx.1⟩, h⟩
  · rintro r ⟨x, e, hx, h⟩
    refine ⟨x, e, ?_, h⟩
    have fvi : ∀ y ∈ [P.int v.num, P.int (v.den : Int)], Lf 120 y := fun y hy => by
      simp only [List.mem_cons, List.not_mem_nil, or_false] at hy
      rcases hy with rfl | rfl <;> exact Lf.int _ _
    rcases hx with rfl | rfl | rfl | rfl | rfl | rfl | ⟨a, y, ha, hy, rfl⟩
    · exact ⟨cl_non, fun a b c e => by cases e⟩
    · exact ⟨fun n => by simp, fun a b c e => by cases e⟩
    · exact ⟨cl_tupL fun y hy => cl3 y (List.mem_of_mem_tail hy), fun a b c e => by cases e⟩
    · exact ⟨cl_tupL fun y hy => by
        rcases List.mem_append.mp hy with hy | hy
        · exact cl3 y hy
        · exact cl3 y (List.mem_of_mem_take hy), fun a b c e => by cases e⟩
    · refine Tp.of3 ⟨rp.1, fun a b e => (by cases e), fun q e => (by cases e)⟩ rc (Rw.tup (by simp) fvi)
    · exact ⟨cl_int 7, fun a b c e => by cases e⟩
    · match a, ha with
      | 0, _ => exact Tp.of3 (hy.1 rfl) rc rp
      | 1, _ => exact Tp.of3 fv (hy.2.1 rfl) rp
      | 2, _ => exact Tp.of3 fv rc (hy.2.2.1 rfl)

end K30
end

section
set_option linter.all false
set_option autoImplicit false
set_option maxRecDepth 10000
set_option exponentiation.threshold 100000
set_option maxHeartbeats 4000000
namespace K30
open PySem IX
def RB (Pp : Prop) (M : Mem) (r : D × Mem) : Prop := ∃ b : Bool, r.1 = .p (.bl b) ∧ (b = true ↔ Pp) ∧ ∃ X, r.2 = M ++ X
theorem RB.f {Pp : Prop} {M : Mem} (h : ¬ Pp) (X : Mem) : RB Pp M (.p (.bl false), M ++ X) := ⟨false, rfl, ⟨fun z => (by cases z), fun z => absurd z h⟩, X, rfl⟩
theorem RB.f0 {Pp : Prop} {M : Mem} (h : ¬ Pp) : RB Pp M (.p (.bl false), M) := ⟨false, rfl, ⟨fun z => (by cases z), fun z => absurd z h⟩, [], by simp⟩
theorem RB.b {Pp : Prop} {M : Mem} {b : Bool} (h : b = true ↔ Pp) (X : Mem) : RB Pp M (.p (.bl b), M ++ X) := ⟨b, rfl, h, X, rfl⟩
theorem RB.b0 {Pp : Prop} {M : Mem} {b : Bool} (h : b = true ↔ Pp) : RB Pp M (.p (.bl b), M) := ⟨b, rfl, h, [], by simp⟩
theorem call_b {V : Wd} {f : Nat} {as : List D} {M : Mem} {Pp : Prop} (h : Wp (V f as M) (RB Pp M)) : ∃ b : Bool, callX V f as M = some (.p (.bl b), M) ∧ (b = true ↔ Pp) := by
  obtain ⟨⟨d, M'⟩, e, b, h1, h2, X, h3⟩ := h
  dsimp only at h1 h3
  subst h1 h3
  exact ⟨b, callX_pure e (by simp), h2⟩
/-- a right guarantee -/
structure Jud (hs ps : List Rat) (ν v : Rat) (ch : List Rat) (p q : Rat) : Prop where
  len : ch.length = ps.length
  nn : ∀ x ∈ ch, 0 ≤ x
  sum : ch.sum = 1
  up : ν ≤ dot ch ps
  eq : dot ch (rest hs ps) = v
  q0 : 0 ≤ q
  at_ : p + q * ν = v
  line : ∀ a, a < ps.length → p + q * gf ps a ≤ gf (rest hs ps) a
def okv (hs ps : List Rat) (ν : Rat) (x : P) : Prop := ∃ v ch p q, x = gP v ch p q ∧ Jud hs ps ν v ch p q
theorem row_inj {a b : List Rat} (h : row a = row b) : a = b := by
  have h : a.map fr = b.map fr := P.tup.inj h
  exact (List.map_inj_right (fun _ _ e => fr_inj e)).mp h
theorem okv_iff {hs ps : List Rat} {ν v p q : Rat} {ch : List Rat} : okv hs ps ν (.tup [fr v, row ch, .tup [fr p, fr q]]) ↔ Jud hs ps ν v ch p q := by
  constructor
  · rintro ⟨v', ch', p', q', e, h⟩
    simp only [gP, pr, P.tup.injEq, List.cons.injEq, and_true] at e
    obtain ⟨e1, e2, e3, e4⟩ := e
    rw [fr_inj e1, row_inj e2, fr_inj e3, fr_inj e4]; exact h
  · exact fun h => ⟨v, ch, p, q, rfl, h⟩
theorem okv_form {hs ps : List Rat} {ν : Rat} {x : P} (h : okv hs ps ν x) : ∃ a b c, x = .tup [a, b, c] ∧ frB a = true ∧ rowB ps.length b = true ∧ rowB 2 c = true := by
  obtain ⟨v, ch, p, q, e, h⟩ := h
  refine ⟨_, _, _, e, frB_fr v, ?_, ?_⟩
  · show (((ch.map fr).length == ps.length) && (ch.map fr).all frB) = true
    rw [List.length_map, beq_iff_eq.mpr h.len, Bool.true_and, List.all_map]
    exact List.all_eq_true.mpr fun q _ => frB_fr q
  · show (([fr p, fr q].length == 2) && [fr p, fr q].all frB) = true
    simp [frB_fr]
theorem raw_lt {S : Int} {B : Nat} {x y : Rat} (h : (S : Rat) = x * (B : Rat)) (hB : 0 < B) : (S * (y.den : Int) < y.num * (B : Int)) = (x < y) := by
  rw [div_lt (by omega) (by have := y.den_pos; omega)]
  have b0 := nat_ne hB
  have e1 : (S : Rat) / (((B : Nat) : Int) : Rat) = x := by
    have : (((B : Nat) : Int) : Rat) = (B : Rat) := rfl
    rw [this, h]; grind
  have e2 : (y.num : Rat) / (((y.den : Nat) : Int) : Rat) = y := by
    have := Rat.mkRat_self y
    rw [Rat.mkRat_eq_div] at this
    exact this
  rw [e1, e2]
theorem raw_eq {S : Int} {B : Nat} {x y : Rat} (h : (S : Rat) = x * (B : Rat)) (hB : 0 < B) : (S * (y.den : Int) = y.num * (B : Int)) = (x = y) := by
  have d0 := nat_ne y.den_pos
  have b0 := nat_ne hB
  have e2 : (y.num : Rat) = y * (y.den : Rat) := by
    have := Rat.mkRat_self y
    rw [Rat.mkRat_eq_div] at this
    grind
  apply propext
  rw [← Rat.intCast_inj, Rat.intCast_mul, Rat.intCast_mul, h, e2]
  have f1 : (((y.den : Nat) : Int) : Rat) = (y.den : Rat) := rfl
  have f2 : (((B : Nat) : Int) : Rat) = (B : Rat) := rfl
  rw [f1, f2]
  constructor
  · intro z; grind
  · rintro rfl; grind
theorem c_alikeI (k : Nat) {a b c d : Int} (h1 : Sm a) (h2 : Sm b) (h3 : Sm c) (h4 : Sm d) (M : Mem) : callX (W (k + 1)) n_alike [.p (.tup [.int a, .int b]), .p (.tup [.int c, .int d])] M = some (.p (.bl (decide (a * d = c * b))), M) := by
  refine (pure_of (cl_bl _) (enter F_alike rfl rfl ?_)).call
  simp [-Option.bind_some, F_alike, entry, mulOk_sm h1 h4, mulOk_sm h3 h2]
  by_cases h : a * d = c * b
  · simp [h]
  · simp [h]
theorem sumZ_lt {a b m n : Nat} {B C : Nat} (hB : B < 2 ^ m) (hC : C < 2 ^ n) : ∀ (l r : List Rat), AllB a l → AllB b r → l.length ≤ 6 → (sumZ B C l r).natAbs ≤ l.length * 2 ^ (a + m + (b + n))
  | [], r, _, _, _ => by simp [sumZ]
  | _ :: _, [], _, _, _ => by simp [sumZ]
  | x :: l, y :: r, h1, h2, hl => by
    have ih := sumZ_lt hB hC l r (fun q h => h1 q (List.mem_cons_of_mem _ h)) (fun q h => h2 q (List.mem_cons_of_mem _ h)) (by simp at hl; omega)
    have e : sumZ B C (x :: l) (y :: r) = tp B x * tp C y + sumZ B C l r := by simp [sumZ]
    have t1 : (tp B x).natAbs < 2 ^ (a + m) := by
      unfold tp
      rw [Int.natAbs_mul, Int.natAbs_natCast]
      exact pw (h1 _ List.mem_cons_self).1 (Nat.lt_of_le_of_lt (Nat.div_le_self _ _) hB)
    have t2 : (tp C y).natAbs < 2 ^ (b + n) := by
      unfold tp
      rw [Int.natAbs_mul, Int.natAbs_natCast]
      exact pw (h2 _ List.mem_cons_self).1 (Nat.lt_of_le_of_lt (Nat.div_le_self _ _) hC)
    have t3 := pw t1 t2
    rw [e, List.length_cons, Nat.succ_mul]
    refine Nat.le_trans (Int.natAbs_add_le _ _) ?_
    rw [Int.natAbs_mul]; omega
/-- raw_dot of a row of chances with a row: sound, small -/
theorem raw_ok (k : Nat) {ch r : List Rat} (h1 : AllB 200 ch) (h2 : AllB 25 r) (hl : ch.length ≤ 6) (hr : r.length ≤ 6) (M : Mem) : ∃ (S : Int) (B : Nat), 0 < B ∧ (S : Rat) = dot ch r * (B : Rat) ∧ Sm S ∧ Sm (B : Int) ∧ callX (W (k + 4)) n_raw_dot [.p (row ch), .p (row r)] M = some (.p (.tup [.int S, .int (B : Int)]), M) := by
  have c := c_raw_dot k 200 ch r h1 (h2.mono (by decide)) (by omega) (by omega) (by omega) (by omega) (Seq.tup M _) (Seq.tup M _)
  have b1 := bot_lt ch 1 1 h1 (by decide)
  have b2 := bot_lt r 1 1 h2 (by decide)
  have b1 : bot ch 1 < 2 ^ 1201 := Nat.lt_of_lt_of_le b1 (Nat.pow_le_pow_right (by decide) (by omega))
  have b2 : bot r 1 < 2 ^ 151 := Nat.lt_of_lt_of_le b2 (Nat.pow_le_pow_right (by decide) (by omega))
  refine ⟨_, _, Nat.mul_pos (bot_pos ch 1 (by decide)) (bot_pos r 1 (by decide)), by rw [sumZ_eq ch r (bot_mem ch 1) (bot_mem r 1), Rat.natCast_mul], ?_, ?_, c⟩
  · have := sumZ_lt b1 b2 ch r h1 h2 hl
    have h3 : ch.length * 2 ^ (200 + 1201 + (25 + 151)) < 2 ^ 3 * 2 ^ (200 + 1201 + (25 + 151)) := Nat.mul_lt_mul_of_pos_right (by omega) (Nat.pow_pos (by decide))
    rw [← Nat.pow_add] at h3
    exact big (Nat.lt_of_le_of_lt this h3) (by decide)
  · unfold Sm
    rw [Int.natAbs_natCast]
    exact big (pw b1 b2) (by decide)
theorem c_chal_n (k : Nat) {x : P} {n : Nat} (h6 : n ≤ 6) (sz : SzR x) (hr : rowB n x = false) (M : Mem) : callX (W (k + 4)) n_is_chances [.p x, .p (.int (n : Int)), .p (.int (n : Int))] M = some (.p (.bl false), M) := by
  have c1 := c_isfrs k h6 sz M
  rw [hr] at c1
  refine (pure_of (cl_bl _) (enter F_is_chances rfl rfl ?_)).call
  generalize W (k + 3) = V at *
  simp [-Option.bind_some, F_is_chances, entry, c1]
theorem c_tabl_n (k : Nat) {x : P} {n : Nat} (sz : SzR x) (hr : rowB n x = false) (M : Mem) : callX (W (k + 4)) n__law_is_table [.p (.tup [x]), .p (.int 1), .p (.int (n : Int))] M = some (.p (.bl false), M) := by
  have c1 := c_arer k (n := n) sz M
  rw [hr] at c1
  refine (pure_of (cl_bl _) (enter F__law_is_table rfl rfl ?_)).call
  generalize W (k + 3) = V at *
  simp [-Option.bind_some, F__law_is_table, entry, c1]
theorem c_judge (k : Nat) {cs hs ps : List Rat} {T : List (List Rat)} (hl : hs.length = ps.length) (hc : AllB 8 cs) (h4 : cs.length ≤ 4) (hT : ∀ r ∈ T, Cha ps.length r) (hh : AllB 12 hs) (hp : AllB 12 ps) (h6 : ps.length ≤ 6) {x : P} (hx : Tp x) (M : Mem) :
    ∃ b : Bool, callX (W (k + 7)) n_judge_guarantee [.p (workP cs T), .p (row hs), .p (row ps), .p x] M = some (.p (.bl b), M) ∧ (b = true ↔ okv hs ps (barOf cs T ps) x) := by
  refine call_b (enter F_judge_guarantee rfl rfl ?_)
  have bn := barOf_bd hc hT hp h6
  have c1 := c_net_bound k hc h4 hT hp h6 M
  have c2 := c_row_minus (k + 2) hl hh hp h6 M
  have e2 : row ((List.range hs.length).map fun a => gf hs a - gf ps a) = row (rest hs ps) := rfl
  rw [e2] at c2
  have br : AllB 25 (rest hs ps) := by
    intro q hq
    obtain ⟨a, ha, rfl⟩ := List.mem_map.mp hq
    have ha := List.mem_range.mp ha
    exact ((hh _ (gf_mem ha)).sub (hp _ (gf_mem (by omega)))).mono (by decide)
  have lr : (rest hs ps).length = hs.length := by simp [rest]
  have lp : items M (.p (row ps)) = some (ps.map fr) := rfl
  generalize hν : barOf cs T ps = ν at *
  cases x with
  | tup l =>
    match l, hx with
    | [], _ =>
      generalize W (k + 6) = V at *
      simp [-Option.bind_some, F_judge_guarantee, entry]
      exact RB.f0 fun z => by obtain ⟨a, b, c, e, _⟩ := okv_form z; cases e
    | [_], _ =>
      generalize W (k + 6) = V at *
      simp [-Option.bind_some, F_judge_guarantee, entry]
      exact RB.f0 fun z => by obtain ⟨a, b, c, e, _⟩ := okv_form z; cases e
    | [_, _], _ =>
      generalize W (k + 6) = V at *
      simp [-Option.bind_some, F_judge_guarantee, entry]
      exact RB.f0 fun z => by obtain ⟨a, b, c, e, _⟩ := okv_form z; cases e
    | _ :: _ :: _ :: _ :: _, _ =>
      generalize W (k + 6) = V at *
      have : ∀ n : Nat, ¬ ((n : Int) + 1 + 1 + 1 + 1 = 3) := fun n => by omega
      simp [-Option.bind_some, F_judge_guarantee, entry, this]
      exact RB.f0 fun z => by obtain ⟨a, b, c, e, _⟩ := okv_form z; cases e
    | [a, b, c], hx =>
      obtain ⟨fa, fb, fc⟩ := hx.2 a b c rfl
      have g1 := c_isfr (k + 4) fa.2.1 M
      have g3 : callX (W (k + 6)) n_is_fractions [.p c, .p (.int 2), .p (.int 2)] M = some (.p (.bl (rowB 2 c)), M) := c_isfrs (k + 3) (n := 2) (by decide) fc.sz M
      have i0 : index (.p (.tup [a, b, c])) (.p (.int 0)) M = some a := by rfl
      have i1 : index (.p (.tup [a, b, c])) (.p (.int 1)) M = some b := by rfl
      have i2 : index (.p (.tup [a, b, c])) (.p (.int 2)) M = some c := by rfl
      by_cases ha : frB a = true
      · obtain ⟨v, rfl⟩ := frB_iff ha
        have hv := fa.2.2 v rfl
        rw [ha] at g1
        by_cases hb : rowB ps.length b = true
        · obtain ⟨ch, hlc, rfl, hbc⟩ := fb.get hb
          have g2 := c_chal (k + 2) hlc h6 hbc M
          by_cases ok : (ch.all (fun q => decide (0 ≤ q)) && decide (ch.sum = 1)) = true
          · rw [ok] at g2
            rw [Bool.and_eq_true, decide_eq_true_eq] at ok
            have nn : ∀ x ∈ ch, 0 ≤ x := fun q hq => of_decide_eq_true (List.all_eq_true.mp ok.1 q hq)
            by_cases hcc : rowB 2 c = true
            · rw [hcc] at g3
              obtain ⟨l2, hl2, rfl, hb2⟩ := fc.get hcc
              match l2, hl2, hb2 with
              | [p, q], _, hb2 =>
                have bp : Bd 120 p := hb2 p (by simp)
                have bq : Bd 120 q := hb2 q (by simp)
                obtain ⟨S1, B1, p1, z1, s1, t1, r1⟩ := raw_ok (k + 2) hbc (hp.mono (by decide)) (by omega) h6 M (r := ps)
                obtain ⟨S2, B2, p2, z2, s2', t2, r2⟩ := raw_ok (k + 2) hbc br (by omega) (by omega) M
                have m1 := c_lessI (k + 5) s1 t1 (bn.n (by decide)) (bn.d (by decide)) M
                have m2 := c_alikeI (k + 5) s2' t2 (hv.n (by decide)) (hv.d (by decide)) M
                simp only [raw_lt z1 p1] at m1
                simp only [raw_eq z2 p2] at m2
                have efr : ∀ y : Rat, P.tup [.int y.num, .int (y.den : Int)] = fr y := fun _ => rfl
                rw [efr] at m1 m2
                have n1 := c_times (k + 3) bq bn (by decide) (by decide) M
                have n2 := c_plus (k + 3) bp (bq.mul bn) (by decide) (by decide) M
                have n3 : ∀ y, Bd 12 y → callX (W (k + 6)) n_times [.p (fr q), .p (fr y)] M = some (.p (fr (q * y)), M) := fun y hy => c_times (k + 3) bq hy (by decide) (by decide) M
                have n4 : ∀ y, Bd 12 y → callX (W (k + 6)) n_plus [.p (fr p), .p (fr (q * y))] M = some (.p (fr (p + q * y)), M) := fun y hy => c_plus (k + 3) bp (bq.mul hy) (by decide) (by decide) M
                have n5 : ∀ y r, Bd 12 y → Bd 25 r → callX (W (k + 6)) n_atmost [.p (fr (p + q * y)), .p (fr r)] M = some (.p (.bl (decide (p + q * y ≤ r))), M) := fun y r hy hr => c_atmost (k + 5) (bp.add (bq.mul hy)) hr (by decide) (by decide) M
                have iq : index (.p (fr q)) (.p (.int 0)) M = some (.int q.num) := by rfl
                have er : row [p, q] = .tup [fr p, fr q] := rfl
                rw [er] at i0 i1 i2 g3 ⊢
                have nq := @num_neg q
                have zz := zipP_map fr fr ps (rest hs ps)
                have f : gtest false (gnx (W (k + 6)) G [10, 11] (.call n_atmost [(.call n_plus [(.v 6), (.call n_times [(.v 7), (.v 10)] [0, 1])] [0, 1]), (.v 11)] [0, 1]) (.tp [(.nm 10), (.nm 11)]) [] [some (.p (workP cs T)), some (.p (row hs)), some (.p (row ps)), some (.p (.tup [fr v, row ch, .tup [fr p, fr q]])), some (.p (fr v)), some (.p (row ch)), some (.p (fr p)), some (.p (fr q)), some (.p (fr ν)), some (.p (row (rest hs ps))), none, none] M) ((ps.zip (rest hs ps)).map fun x => P.tup [fr x.1, fr x.2]) = some ((ps.zip (rest hs ps)).all fun x => decide (p + q * x.1 ≤ x.2)) := gtest_all (fun x : Rat × Rat => P.tup [fr x.1, fr x.2]) (fun x => decide (p + q * x.1 ≤ x.2)) _ fun x hx => by
                  have hm := List.of_mem_zip (a := x.1) (b := x.2) hx
                  have a1 := n3 x.1 (hp _ hm.1)
                  have a2 := n4 x.1 (hp _ hm.1)
                  have a3 := n5 x.1 x.2 (hp _ hm.1) (br _ hm.2)
                  generalize W (k + 6) = V at *
                  simp [-Option.bind_some, gnx, wipeE, a1, a2, a3]
                have ge : genEnd .all ⟨zipP (ps.map fr) ((rest hs ps).map fr), [], true⟩ (gnx (W (k + 6)) G [10, 11] (.call n_atmost [(.call n_plus [(.v 6), (.call n_times [(.v 7), (.v 10)] [0, 1])] [0, 1]), (.v 11)] [0, 1]) (.tp [(.nm 10), (.nm 11)]) [] [some (.p (workP cs T)), some (.p (row hs)), some (.p (row ps)), some (.p (.tup [fr v, row ch, .tup [fr p, fr q]])), some (.p (fr v)), some (.p (row ch)), some (.p (fr p)), some (.p (fr q)), some (.p (fr ν)), some (.p (row (rest hs ps))), none, none] M) M = some (.p (.bl ((ps.zip (rest hs ps)).all fun x => decide (p + q * x.1 ≤ x.2))), M) := by
                  rw [zz]
                  show (if ((ps.zip (rest hs ps)).map fun x => P.tup [fr x.1, fr x.2]).length + 1 < sizeLine then (gtest false _ ((ps.zip (rest hs ps)).map fun x => P.tup [fr x.1, fr x.2])).map fun b => (D.p (.bl b), M) else none) = _
                  rw [if_pos (by rw [List.length_map, List.length_zip, szl]; omega), f]; rfl
                have sz0 : ∀ M, src .zip [.p (row ps), .p (row (rest hs ps))] M = some ⟨zipP (ps.map fr) ((rest hs ps).map fr), [], true⟩ := fun _ => rfl
                rw [okv_iff]
                have all_iff : ((ps.zip (rest hs ps)).all fun x => decide (p + q * x.1 ≤ x.2)) = true ↔ ∀ a, a < ps.length → p + q * gf ps a ≤ gf (rest hs ps) a := by
                  rw [List.all_eq_true]
                  constructor
                  · intro z a ha
                    have := z (gf ps a, gf (rest hs ps) a) (by
                      rw [List.mem_iff_getElem?]
                      refine ⟨a, ?_⟩
                      rw [List.getElem?_zip_eq_some]
                      exact ⟨gf_get ha, gf_get (by omega)⟩)
                    simpa using this
                  · intro z x hx
                    obtain ⟨a, e⟩ := List.mem_iff_getElem?.mp hx
                    rw [List.getElem?_zip_eq_some] at e
                    have ha := (List.getElem?_eq_some_iff.mp e.1).1
                    have := z a ha
                    rw [gf_get ha] at e
                    rw [gf_get (by omega)] at e
                    rw [← Option.some.inj e.1, ← Option.some.inj e.2]
                    simpa using this
                generalize ((ps.zip (rest hs ps)).all fun x => decide (p + q * x.1 ≤ x.2)) = β at *
                generalize W (k + 6) = V at *
                by_cases d1 : dot ch ps < ν
                · simp only [d1, decide_true] at m1
                  simp [-Option.bind_some, -ix_tup, F_judge_guarantee, entry, i0, i1, i2, g1, g2, g3, lp, c1, c2, r1, m1]
                  exact RB.f0 fun z : Jud hs ps ν v ch p q => absurd d1 (Rat.not_lt.mpr z.up)
                · simp only [d1, decide_false] at m1
                  by_cases d2 : dot ch (rest hs ps) = v
                  · simp only [d2, decide_true] at m2
                    by_cases d3 : q < 0
                    · have d3' : q.num < 0 := by rw [nq]; exact d3
                      simp [-Option.bind_some, -ix_tup, F_judge_guarantee, entry, i0, i1, i2, g1, g2, g3, lp, c1, c2, r1, m1, r2, m2, iq, d3']
                      exact RB.f0 fun z : Jud hs ps ν v ch p q => absurd d3 (Rat.not_lt.mpr z.q0)
                    · have d3' : ¬ q.num < 0 := by rw [nq]; exact d3
                      by_cases d4 : p + q * ν = v
                      · simp [-Option.bind_some, -ix_tup, F_judge_guarantee, entry, i0, i1, i2, g1, g2, g3, lp, c1, c2, r1, m1, r2, m2, iq, d3', n1, n2, d4, sz0, ge]
                        exact RB.b0 (Pp := Jud hs ps ν v ch p q) ⟨fun z => ⟨hlc, nn, ok.2, Rat.not_lt.mp d1, d2, Rat.not_lt.mp d3, d4, all_iff.mp z⟩, fun z => all_iff.mpr z.line⟩
                      · simp [-Option.bind_some, -ix_tup, F_judge_guarantee, entry, i0, i1, i2, g1, g2, g3, lp, c1, c2, r1, m1, r2, m2, iq, d3', n1, n2, d4]
                        exact RB.f0 fun z : Jud hs ps ν v ch p q => d4 z.at_
                  · simp only [d2, decide_false] at m2
                    simp [-Option.bind_some, -ix_tup, F_judge_guarantee, entry, i0, i1, i2, g1, g2, g3, lp, c1, c2, r1, m1, r2, m2]
                    exact RB.f0 fun z : Jud hs ps ν v ch p q => d2 z.eq
            · have hcc' : rowB 2 c = false := Bool.eq_false_iff.mpr hcc
              rw [hcc'] at g3
              generalize W (k + 6) = V at *
              simp [-Option.bind_some, -ix_tup, F_judge_guarantee, entry, i0, i1, i2, g1, g2, g3, lp]
              refine RB.f0 (fun z => ?_)
              obtain ⟨a, b, c, e, _, _, h⟩ := okv_form z
              cases e; exact hcc h
          · have ok' := Bool.eq_false_iff.mpr ok
            rw [ok'] at g2
            generalize W (k + 6) = V at *
            simp [-Option.bind_some, -ix_tup, F_judge_guarantee, entry, i0, i1, i2, g1, g2, lp]
            refine RB.f0 fun z => ?_
            obtain ⟨v', ch', p', q', e, h⟩ := z
            simp only [gP, P.tup.injEq, List.cons.injEq, and_true] at e
            have := row_inj e.2.1
            subst this
            refine ok ?_
            rw [Bool.and_eq_true, decide_eq_true_eq]
            exact ⟨List.all_eq_true.mpr fun q hq => decide_eq_true (h.nn q hq), h.sum⟩
        · have hb' : rowB ps.length b = false := Bool.eq_false_iff.mpr hb
          have g2 := c_chal_n (k + 2) h6 fb.sz hb' M
          generalize W (k + 6) = V at *
          simp [-Option.bind_some, -ix_tup, F_judge_guarantee, entry, i0, i1, i2, g1, g2, lp]
          refine RB.f0 (fun z => ?_)
          obtain ⟨a, b, c, e, _, h, _⟩ := okv_form z
          cases e; exact hb h
      · have ha' : frB a = false := Bool.eq_false_iff.mpr ha
        rw [ha'] at g1
        generalize W (k + 6) = V at *
        simp [-Option.bind_some, -ix_tup, F_judge_guarantee, entry, i0, g1]
        refine RB.f0 (fun z => ?_)
        obtain ⟨a, b, c, e, h, _, _⟩ := okv_form z
        cases e; exact ha h
  | _ =>
    generalize W (k + 6) = V at *
    simp [-Option.bind_some, F_judge_guarantee, entry]
    exact RB.f0 fun z => by obtain ⟨a, b, c, e, _⟩ := okv_form z; cases e

end K30
end

section
set_option linter.all false
set_option autoImplicit false
set_option maxRecDepth 10000
set_option exponentiation.threshold 100000
set_option maxHeartbeats 4000000
namespace K30
open PySem IX
theorem c_lawj (k : Nat) {cs hs ps : List Rat} {T : List (List Rat)} (hl : hs.length = ps.length) (hc : AllB 8 cs) (h4 : cs.length ≤ 4) (hTl : T.length = cs.length) (hT : ∀ r ∈ T, Cha ps.length r) (hh : AllB 12 hs) (hp : AllB 12 ps) (h6 : ps.length ≤ 6) {x : P} (hx : Tp x) (M : Mem) :
    ∃ b : Bool, callX (W (k + 6)) n__law_is_guarantee [.p (workP cs T), .p (row hs), .p (row ps), .p x] M = some (.p (.bl b), M) ∧ (b = true ↔ okv hs ps (barOf cs T ps) x) := by
  refine call_b (enter F__law_is_guarantee rfl rfl ?_)
  have bn := barOf_bd hc hT hp h6
  have c4 := c_lbar k hc h4 hTl hT hp h6 M
  have br : AllB 25 (rest hs ps) := by
    intro q hq
    obtain ⟨a, ha, rfl⟩ := List.mem_map.mp hq
    have ha := List.mem_range.mp ha
    exact ((hh _ (gf_mem ha)).sub (hp _ (gf_mem (by omega)))).mono (by decide)
  have lr : (rest hs ps).length = hs.length := by simp [rest]
  have lh : ∀ M, items M (.p (row hs)) = some (hs.map fr) := fun _ => rfl
  generalize hν : barOf cs T ps = ν at *
  cases x with
  | tup l =>
    match l, hx with
    | [], _ =>
      generalize W (k + 5) = V at *
      simp [-Option.bind_some, F__law_is_guarantee, entry]
      exact RB.f0 fun z => by obtain ⟨a, b, c, e, _⟩ := okv_form z; cases e
    | [_], _ =>
      generalize W (k + 5) = V at *
      simp [-Option.bind_some, F__law_is_guarantee, entry]
      exact RB.f0 fun z => by obtain ⟨a, b, c, e, _⟩ := okv_form z; cases e
    | [_, _], _ =>
      generalize W (k + 5) = V at *
      simp [-Option.bind_some, F__law_is_guarantee, entry]
      exact RB.f0 fun z => by obtain ⟨a, b, c, e, _⟩ := okv_form z; cases e
    | _ :: _ :: _ :: _ :: _, _ =>
      generalize W (k + 5) = V at *
      have : ∀ n : Nat, ¬ ((n : Int) + 1 + 1 + 1 + 1 = 3) := fun n => by omega
      simp [-Option.bind_some, F__law_is_guarantee, entry, this]
      exact RB.f0 fun z => by obtain ⟨a, b, c, e, _⟩ := okv_form z; cases e
    | [a, b, c], hx =>
      obtain ⟨fa, fb, fc⟩ := hx.2 a b c rfl
      have g1 := c_lisfr (k + 3) fa.2.1 M
      have g3 : callX (W (k + 5)) n__law_are_rows [.p (.tup [c]), .p (.int 1), .p (.int 2)] M = some (.p (.bl (rowB 2 c)), M) := c_arer (k + 2) (n := 2) fc.sz M
      have i0 : ∀ M, index (.p (.tup [a, b, c])) (.p (.int 0)) M = some a := fun _ => by rfl
      have i1 : ∀ M, index (.p (.tup [a, b, c])) (.p (.int 1)) M = some b := fun _ => by rfl
      have i2 : ∀ M, index (.p (.tup [a, b, c])) (.p (.int 2)) M = some c := fun _ => by rfl
      by_cases ha : frB a = true
      · obtain ⟨v, rfl⟩ := frB_iff ha
        have hv := fa.2.2 v rfl
        rw [ha] at g1
        by_cases hb : rowB hs.length b = true
        · obtain ⟨ch, hlc, rfl, hbc⟩ := fb.get hb
          have g2 := c_tabl (k + 1) hlc (by omega) hbc M
          by_cases ok : (ch.all (fun q => decide (0 ≤ q)) && decide (ch.sum = 1)) = true
          · rw [ok] at g2
            rw [Bool.and_eq_true, decide_eq_true_eq] at ok
            have nn : ∀ x ∈ ch, 0 ≤ x := fun q hq => of_decide_eq_true (List.all_eq_true.mp ok.1 q hq)
            by_cases hcc : rowB 2 c = true
            · rw [hcc] at g3
              obtain ⟨l2, hl2, rfl, hb2⟩ := fc.get hcc
              match l2, hl2, hb2 with
              | [p, q], _, hb2 =>
                have bp : Bd 120 p := hb2 p (by simp)
                have bq : Bd 120 q := hb2 q (by simp)
                have nq := @num_neg q
                have er : row [p, q] = .tup [fr p, fr q] := rfl
                rw [er] at i0 i1 i2 g3 ⊢
                rw [okv_iff]
                have i3 : ∀ M, index (.p (.tup [fr p, fr q])) (.p (.int 1)) M = some (fr q) := fun _ => by rfl
                have i4 : ∀ M, index (.p (fr q)) (.p (.int 0)) M = some (.int q.num) := fun _ => by rfl
                by_cases d3 : q < 0
                · have d3' : q.num < 0 := by rw [nq]; exact d3
                  generalize W (k + 5) = V at *
                  simp [-Option.bind_some, -ix_tup, F__law_is_guarantee, entry, i0, i1, i2, g1, g2, g3, lh, s1, i3, i4, d3']
                  exact RB.f0 fun z : Jud hs ps ν v ch p q => absurd d3 (Rat.not_lt.mpr z.q0)
                have d3' : ¬ q.num < 0 := by rw [nq]; exact d3
                have nl : newl ((rest hs ps).map fr) M = some (.p (.ref M.length), M ++ [(rest hs ps).map fr]) := newl_ok (by rw [List.length_map, szl]; omega)
                have cmi : ∀ a, a < hs.length → callX (W (k + 5)) n__law_minus [.p (fr (gf hs a)), .p (fr (gf ps a))] M = some (.p (fr (gf hs a - gf ps a)), M) := fun a ha => c_lminus (k + 3) (hh _ (gf_mem ha)) (hp _ (gf_mem (by omega))) (by decide) (by decide) M
                have c5 : callX (W (k + 5)) n__law_mean [.p (row ch), .p (row ps)] (M ++ [(rest hs ps).map fr]) = some (.p (fr (dot ch ps)), M ++ [(rest hs ps).map fr]) := c_lmean (k + 1) (m := 200) ch ps hbc (hp.mono (by decide)) (by omega) (by omega) (by decide) rfl rfl
                have c6 : callX (W (k + 5)) n__law_mean [.p (row ch), .p (.ref M.length)] (M ++ [(rest hs ps).map fr]) = some (.p (fr (dot ch (rest hs ps))), M ++ [(rest hs ps).map fr]) := c_lmean (k + 1) (m := 200) ch (rest hs ps) hbc (br.mono (by decide)) (by omega) (by omega) (by decide) rfl (get_end _ _)
                have bd : Bd 2407 (dot ch ps) := (Bd.dot hbc (hp.mono (by decide))).mono (by omega)
                have c7 := c_lless (k + 4) bd bn (by decide) (by decide) (M ++ [(rest hs ps).map fr])
                have c8 : ∀ x, Bd 160 x → callX (W (k + 5)) n__law_times [.p (fr q), .p (fr x)] (M ++ [(rest hs ps).map fr]) = some (.p (fr (q * x)), (M ++ [(rest hs ps).map fr])) := fun x hx => c_ltimes (k + 3) bq hx (by decide) (by decide) _
                have c9 : ∀ x, Bd 160 x → callX (W (k + 5)) n__law_plus [.p (fr p), .p (fr (q * x))] (M ++ [(rest hs ps).map fr]) = some (.p (fr (p + q * x)), (M ++ [(rest hs ps).map fr])) := fun x hx => c_lplus (k + 3) bp (bq.mul hx) (by decide) (by decide) _
                have c10 : ∀ a, a < ps.length → callX (W (k + 5)) n__law_less [.p (fr (gf (rest hs ps) a)), .p (fr (p + q * gf ps a))] (M ++ [(rest hs ps).map fr]) = some (.p (.bl (decide (gf (rest hs ps) a < p + q * gf ps a))), (M ++ [(rest hs ps).map fr])) := fun a ha => c_lless (k + 4) (br _ (gf_mem (l := rest hs ps) (a := a) (by omega))) (bp.add (bq.mul (hp _ (gf_mem ha)))) (by decide) (by decide) (M ++ [(rest hs ps).map fr])
                have ih : ∀ a, a < hs.length → ∀ M, index (.p (row hs)) (.p (.int (a : Int))) M = some (fr (gf hs a)) := fun a ha M => ix_gf rfl ha
                have ip : ∀ a, a < hs.length → ∀ M, index (.p (row ps)) (.p (.int (a : Int))) M = some (fr (gf ps a)) := fun a ha M => ix_gf rfl (by omega)
                have ir : ∀ a, a < hs.length → index (.p (.ref M.length)) (.p (.int (a : Int))) (M ++ [(rest hs ps).map fr]) = some (fr (gf (rest hs ps) a)) := fun a ha => by rw [ix_ref, get_end]; exact atx_gf (by omega)
                have sm : small (hs.length : Int) = true := by unfold small; simp; omega
                have f : lcs (W (k + 5)) G [7] (.call n__law_minus [(.idx (.v 1) (.v 7)), (.idx (.v 2) (.v 7))] [0, 1]) (.nm 7) [] ⟨(List.range hs.length).map fun a : Nat => P.int (a : Int), [], true⟩ ((List.range hs.length).map fun a : Nat => P.int (a : Int)) [some (.p (workP cs T)), some (.p (row hs)), some (.p (row ps)), some (.p (.tup [fr v, row ch, .tup [fr p, fr q]])), some (.p (fr p)), some (.p (fr q)), some (.p (fr ν)), none, none] M = some ((rest hs ps).map fr, M) := by
                  rw [show (rest hs ps).map fr = (List.range hs.length).map fun a => fr (gf hs a - gf ps a) by unfold rest; rw [List.map_map]; rfl]
                  refine lcs_map (fun a : Nat => P.int (a : Int)) (fun a => fr (gf hs a - gf ps a)) rfl (List.range hs.length) fun a ha => ?_
                  have ha := List.mem_range.mp ha
                  have h1 := cmi a ha
                  generalize W (k + 5) = V at *
                  simp [-Option.bind_some, -ix_tup, lcx, wipeE, ih a ha, ip a ha, h1]
                have e7 := c8 _ bn
                have e8 := c9 _ bn
                have px : ∀ a, a < hs.length → Bd 160 (gf ps a) := fun a ha => (hp _ (gf_mem (by omega))).mono (by decide)
                generalize W (k + 5) = V at *
                by_cases d1 : dot ch ps < ν
                · rw [decide_eq_true d1] at c7
                  simp [-Option.bind_some, -ix_tup, -ix_ref, F__law_is_guarantee, entry, i0, i1, i2, g1, g2, g3, lh, s1, i3, i4, d3', c4, src_rng1 sm, rangeP_map, f, nl, c5, c7]
                  exact RB.f (fun z : Jud hs ps ν v ch p q => absurd d1 (Rat.not_lt.mpr z.up)) _
                rw [decide_eq_false d1] at c7
                by_cases d2 : dot ch (rest hs ps) = v
                · rw [d2] at c6
                  simp [-Option.bind_some, -ix_tup, -ix_ref, F__law_is_guarantee, entry, i0, i1, i2, g1, g2, g3, lh, s1, i3, i4, d3', c4, src_rng1 sm, rangeP_map, f, nl, c5, c6, c7]
                  refine lop_wpJ (fun a : Nat => P.int (a : Int)) (fun pre r ρ M' => M' = M ++ [(rest hs ps).map fr] ∧ (∀ a, a < pre.length → p + q * gf ps a ≤ gf (rest hs ps) a) ∧ ∃ (z7 : Option D), ρ = [some (.p (workP cs T)), some (.p (row hs)), some (.p (row ps)), some (.p (.tup [fr v, row ch, .tup [fr p, fr q]])), some (.p (fr p)), some (.p (fr q)), some (.p (fr ν)), z7, some (.p (.ref M.length))]) (List.range hs.length) ⟨rfl, by simp, none, rfl⟩ ?_ ?_
                  · rintro J Q hJ hQ pre a r ρ M' hr ⟨rfl, hpre, z7, rfl⟩
                    obtain ⟨ea, hlt⟩ := range_at hr
                    subst ea
                    have pa := px _ hlt
                    have e1 := c8 _ pa
                    have e2 := c9 _ pa
                    have e3 := c10 pre.length (by omega)
                    by_cases g : gf (rest hs ps) pre.length < p + q * gf ps pre.length
                    · rw [decide_eq_true g] at e3
                      simp [-Option.bind_some, -ix_tup, -ix_ref, ir _ hlt, ip _ hlt, e1, e2, e3]
                      rw [hQ]
                      exact RB.f (fun z : Jud hs ps ν v ch p q => absurd g (Rat.not_lt.mpr (z.line _ (by omega)))) _
                    · rw [decide_eq_false g] at e3
                      simp [-Option.bind_some, -ix_tup, -ix_ref, ir _ hlt, ip _ hlt, e1, e2, e3]
                      rw [hJ]
                      refine ⟨rfl, fun b hb => ?_, _, rfl⟩
                      rw [List.length_append, List.length_singleton] at hb
                      by_cases e : b = pre.length
                      · rw [e]; exact Rat.not_lt.mp g
                      · exact hpre b (by omega)
                  · rintro ρ M' ⟨rfl, hpre, z7, rfl⟩
                    rw [List.length_range] at hpre
                    simp [-Option.bind_some, -ix_tup, -ix_ref, e7, e8, i0]
                    refine RB.b ?_ _
                    rw [decide_eq_true_eq]
                    exact ⟨fun z => ⟨by omega, nn, ok.2, Rat.not_lt.mp d1, d2, Rat.not_lt.mp d3, z, fun a ha => hpre a (by omega)⟩, fun z => z.at_⟩
                · simp [-Option.bind_some, -ix_tup, -ix_ref, F__law_is_guarantee, entry, i0, i1, i2, g1, g2, g3, lh, s1, i3, i4, d3', c4, src_rng1 sm, rangeP_map, f, nl, c5, c6, c7, d2]
                  exact RB.f (fun z : Jud hs ps ν v ch p q => d2 z.eq) _
            · have hcc' : rowB 2 c = false := Bool.eq_false_iff.mpr hcc
              rw [hcc'] at g3
              generalize W (k + 5) = V at *
              simp [-Option.bind_some, -ix_tup, F__law_is_guarantee, entry, i0, i1, i2, g1, g2, g3, lh, s1]
              refine RB.f0 (fun z => ?_)
              obtain ⟨a, b, c, e, _, _, h⟩ := okv_form z
              cases e; exact hcc h
          · have ok' := Bool.eq_false_iff.mpr ok
            rw [ok'] at g2
            generalize W (k + 5) = V at *
            simp [-Option.bind_some, -ix_tup, F__law_is_guarantee, entry, i0, i1, i2, g1, g2, lh, s1]
            refine RB.f0 fun z => ?_
            obtain ⟨v', ch', p', q', e, h⟩ := z
            simp only [gP, P.tup.injEq, List.cons.injEq, and_true] at e
            have := row_inj e.2.1
            subst this
            refine ok ?_
            rw [Bool.and_eq_true, decide_eq_true_eq]
            exact ⟨List.all_eq_true.mpr fun q hq => decide_eq_true (h.nn q hq), h.sum⟩
        · have hb' : rowB hs.length b = false := Bool.eq_false_iff.mpr hb
          have g2 := c_tabl_n (k + 1) fb.sz hb' M
          generalize W (k + 5) = V at *
          simp [-Option.bind_some, -ix_tup, F__law_is_guarantee, entry, i0, i1, i2, g1, g2, lh, s1]
          refine RB.f0 (fun z => ?_)
          obtain ⟨a, b, c, e, _, h, _⟩ := okv_form z
          cases e
          rw [hl] at hb
          exact hb h
      · have ha' : frB a = false := Bool.eq_false_iff.mpr ha
        rw [ha'] at g1
        generalize W (k + 5) = V at *
        simp [-Option.bind_some, -ix_tup, F__law_is_guarantee, entry, i0, g1]
        refine RB.f0 (fun z => ?_)
        obtain ⟨a, b, c, e, h, _, _⟩ := okv_form z
        cases e; exact ha h
  | _ =>
    generalize W (k + 5) = V at *
    simp [-Option.bind_some, F__law_is_guarantee, entry]
    exact RB.f0 fun z => by obtain ⟨a, b, c, e, _⟩ := okv_form z; cases e

end K30
end

section
set_option linter.all false
set_option autoImplicit false
set_option maxRecDepth 10000
set_option exponentiation.threshold 100000
set_option maxHeartbeats 4000000
namespace K30
open PySem IX
theorem dual_l {p q : Rat} : ∀ (F ps rs : List Rat), F.length = ps.length → rs.length = ps.length → (∀ x ∈ F, 0 ≤ x) → (∀ r, r < ps.length → p + q * gf ps r ≤ gf rs r) → p * F.sum + q * dot F ps ≤ dot F rs
  | [], _, _, _, _, _, _ => by simp; grind
  | f :: F, [], _, h, _, _, _ => by simp at h
  | f :: F, y :: ps, [], _, h, _, _ => by simp at h
  | f :: F, y :: ps, z :: rs, h1, h2, h3, h4 => by
    have ih := dual_l F ps rs (by simpa using h1) (by simpa using h2) (fun x hx => h3 x (List.mem_cons_of_mem _ hx)) (fun r hr => h4 (r + 1) (by simpa using hr))
    have h0 : p + q * y ≤ z := h4 0 (by simp)
    have f0 := h3 f List.mem_cons_self
    have := Rat.mul_le_mul_of_nonneg_left h0 f0
    rw [dot_cons, dot_cons, List.sum_cons]
    grind
theorem rest_cons (h p : Rat) (hs ps : List Rat) : rest (h :: hs) (p :: ps) = (h - p) :: rest hs ps := by
  unfold rest
  rw [List.length_cons, List.range_succ_eq_map, List.map_cons, List.map_map]
  rfl
theorem dot_rest : ∀ (F hs ps : List Rat), F.length = hs.length → hs.length = ps.length → dot F (rest hs ps) = dot F hs - dot F ps
  | [], _, _, _, _ => by simp; grind
  | f :: F, [], _, h, _ => by simp at h
  | f :: F, y :: hs, [], _, h => by simp at h
  | f :: F, y :: hs, z :: ps, h1, h2 => by
    have ih := dot_rest F hs ps (by simpa using h1) (by simpa using h2)
    rw [rest_cons, dot_cons, dot_cons, dot_cons, ih]
    grind
theorem dot_smul (s : Rat) : ∀ (F hs : List Rat), dot F (hs.map fun x => s * x) = s * dot F hs
  | [], _ => by simp
  | _ :: _, [] => by simp
  | f :: F, y :: hs => by
    have ih := dot_smul s F hs
    rw [List.map_cons, dot_cons, dot_cons, ih]
    grind
theorem dot_le_max {F ps : List Rat} (h1 : F.length = ps.length) (hF : ∀ x ∈ F, 0 ≤ x) (hs : F.sum = 1) (h0 : 0 < ps.length) : ∃ r, r < ps.length ∧ dot F ps ≤ gf ps r := by
  match ps, h0, h1 with
  | y :: l, _, h1 =>
    obtain ⟨a, b, c⟩ := fmax_ge l y
    have hm : fmax y l ∈ y :: l := by
      rcases c with c | c
      · rw [c]; exact List.mem_cons_self
      · exact List.mem_cons_of_mem _ c
    obtain ⟨r, hr, e⟩ := mem_gf hm
    refine ⟨r, hr, ?_⟩
    rw [e]
    have := dual_l (p := -(fmax y l)) (q := 1) F (y :: l) (zer (y :: l).length) h1 (zl _) hF (fun r hr => by
      rw [gf_zer]
      have := gf_mem hr
      rcases List.mem_cons.mp this with z | z
      · rw [z]; grind
      · have := b _ z; grind)
    rw [hs] at this
    have z : dot F (zer (y :: l).length) = 0 := dot_zero F _
    rw [z] at this
    grind
theorem bar_cases (cs : List Rat) (T : List (List Rat)) (ps : List Rat) : 0 ≤ barOf cs T ps ∧ (∀ x ∈ T.zip cs, dot x.1 ps - x.2 ≤ barOf cs T ps) ∧ (barOf cs T ps = 0 ∨ ∃ x ∈ T.zip cs, barOf cs T ps = dot x.1 ps - x.2) := by
  obtain ⟨a, b, c⟩ := fmax_ge (netsOf cs T ps) 0
  refine ⟨a, fun x hx => b _ (List.mem_map.mpr ⟨x, hx, rfl⟩), ?_⟩
  rcases c with c | c
  · exact .inl c
  · obtain ⟨x, hx, e⟩ := List.mem_map.mp c
    exact .inr ⟨x, hx, e.symm⟩
theorem reachD {z : Bool} {cs : List Rat} {T : List (List Rat)} {hs ps : List Rat} (h : Drawn z cs T hs) (hp : Pays hs.length ps) : ∃ r, r < ps.length ∧ barOf cs T ps ≤ gf ps r := by
  obtain ⟨p1, p2, p3⟩ := hp
  have n0 : 0 < ps.length := by rw [p1]; exact h.r0
  rcases (bar_cases cs T ps).2.2 with e | ⟨x, hx, e⟩
  · exact ⟨0, n0, by rw [e]; exact p2 _ (gf_mem n0)⟩
  · have hm := List.of_mem_zip (a := x.1) (b := x.2) hx
    have hc := h.ch _ hm.1
    obtain ⟨r, hr, le⟩ := dot_le_max (F := x.1) (ps := ps) (by rw [hc.1, p1]) hc.2.1 hc.2.2.1 n0
    refine ⟨r, hr, ?_⟩
    have := h.c0 _ hm.2
    rw [e]; grind
theorem Cert.tp {ps rs : List Rat} {ν v p q : Rat} {ch : List Rat} (ce : Cert ps rs ν v ch p q) (h6 : ps.length ≤ 6) : Tp (gP v ch p q) :=
  Tp.of3 (Lf.fr ce.bv (by decide)) (Rw.row (by rw [ce.len]; omega) ce.bc (by decide)) (by
    rw [pr_row]
    refine Rw.row (by simp) (fun x hx => ?_) (by decide)
    simp only [List.mem_cons, List.not_mem_nil, or_false] at hx
    rcases hx with rfl | rfl
    · exact ce.bp
    · exact ce.bq.mono (by decide))
theorem Cert.jud {hs ps : List Rat} {ν v p q : Rat} {ch : List Rat} (ce : Cert ps (rest hs ps) ν v ch p q) : Jud hs ps ν v ch p q := ⟨ce.len, ce.nn, ce.sum, ce.up, ce.eq, ce.q0, ce.at_, ce.line⟩
abbrev loops : Nat := LL
theorem plain (ns : List Int) (hl : ns.length ≤ 63) (hb : ∀ z ∈ ns, Builtin.Int.intBits z ≤ 1048576) : ∃ M', evF tab (fun x => pg.G.lookup x) loops 12 n_law [.scr (ns.map P.int)] [] = some (.p (.bl true), M') := by
  suffices h : Wp (W (11 + 1) n_law [.scr (ns.map P.int)] []) fun r => r.1 = .p (.bl true) by
    obtain ⟨⟨d, M'⟩, e, h⟩ := h
    dsimp only at h
    subst h
    exact ⟨M', e⟩
  refine enter F_law rfl rfl ?_
  have fo := flow_ok 10 ns hl []
  have dw := fun {i j : Nat} {M : Mem} (hf : Flow i j M) => d_work 6 hf false
  have dpay := fun {i j : Nat} {M : Mem} {hs : List Rat} (hf : Flow i j M) h0 h6 hp hb => d_pays 7 (hs := hs) hf h0 h6 hp hb
  have dd : ∀ {i j : Nat} {M : Mem}, Flow i j M → Dr (W 11) i j M n__law_draw [.p (.ref i), .p (.int 4)] fun x => ∃ d : Nat, x = .int d ∧ d < 4 := fun hf => d_draw 10 hf 4 (by decide) (lt9000 (by decide))
  have dch := fun {i j : Nat} {M : Mem} (hf : Flow i j M) {v p q : Rat} {ch : List Rat} (hv : Bd 500 v) (h0 : 0 < ch.length) (h6 : ch.length ≤ 6) (hc : AllB 200 ch) (hp : Bd 120 p) (hq : Bd 120 q) => d_changed 6 hf hv h0 h6 hc hp hq
  have cgu : ∀ {cs hs ps : List Rat} {T : List (List Rat)}, Drawn false cs T hs → Pays hs.length ps → ∀ M, ∃ v ch p q, Cert ps (rest hs ps) (barOf cs T ps) v ch p q ∧ callX (W 11) n_guarantee [.p (workP cs T), .p (row hs), .p (row ps)] M = some (.p (gP v ch p q), M) := fun {cs hs ps T} h hp M => c_guarantee 4 (by rw [hp.1]) (h.cb.mono (by decide)) h.n4 (by rw [hp.1]; exact h.ch) (h.hb.mono (by decide)) hp.2.2 (by rw [hp.1]; exact h.r6) (reachD h hp) M
  have jj : ∀ {cs hs ps : List Rat} {T : List (List Rat)}, Drawn false cs T hs → Pays hs.length ps → ∀ x, Tp x → ∃ b : Bool, (b = true ↔ okv hs ps (barOf cs T ps) x) ∧ ∀ M, callX (W 11) n_judge_guarantee [.p (workP cs T), .p (row hs), .p (row ps), .p x] M = some (.p (.bl b), M) ∧ callX (W 11) n__law_is_guarantee [.p (workP cs T), .p (row hs), .p (row ps), .p x] M = some (.p (.bl b), M) := fun {cs hs ps T} h hp x hx => by
    have h1 := fun M => c_judge 4 (hl := by rw [hp.1]) (h.cb.mono (by decide) : AllB 8 cs) h.n4 (by rw [hp.1]; exact h.ch) (h.hb.mono (by decide) : AllB 12 hs) hp.2.2 (by rw [hp.1]; exact h.r6) hx M
    have h2 := fun M => c_lawj 5 (hl := by rw [hp.1]) (h.cb.mono (by decide) : AllB 8 cs) h.n4 h.tl (by rw [hp.1]; exact h.ch) (h.hb.mono (by decide) : AllB 12 hs) hp.2.2 (by rw [hp.1]; exact h.r6) hx M
    obtain ⟨b, _, hb⟩ := h1 []
    refine ⟨b, hb, fun M => ?_⟩
    obtain ⟨b1, e1, hb1⟩ := h1 M
    obtain ⟨b2, e2, hb2⟩ := h2 M
    rw [e1, e2, Bool.eq_iff_iff.mpr (hb1.trans hb.symm), Bool.eq_iff_iff.mpr (hb2.trans hb.symm)]
    exact ⟨rfl, rfl⟩
  simp only [Nat.reduceAdd] at dw dpay fo dch
  generalize W 11 = V at *
  simp [-Option.bind_some, F_law, entry]
  refine fo.bind fun ⟨d, M0⟩ ⟨i, j, e, fl0⟩ => ?_
  dsimp only at e fl0
  subst e
  simp [-Option.bind_some, src_rng1 (n := 3) (M := M0) (by decide), rangeP_map]
  refine lop_wpJ (fun a : Nat => P.int (a : Int)) (fun pre r ρ M' => Flow i j M' ∧ ∃ z2 z3 z4 z5 z6 z7 z8 z9 z10 z11 : Option D, ρ = [some (.scr (ns.map P.int)), some (.p (.ref i)), z2, z3, z4, z5, z6, z7, z8, z9, z10, z11]) (List.range 3) ⟨fl0, _, _, _, _, _, _, _, _, _, _, rfl⟩ ?_ ?_
  · rintro J Q hJ - pre a r ρ M' hr ⟨fl, z2, z3, z4, z5, z6, z7, z8, z9, z10, z11, rfl⟩
    simp [-Option.bind_some]
    refine (dw fl).bind fun ⟨d, M2⟩ ⟨cs, T, hs, n, e, hd, n1, n2, n3, g, fl2, kp2⟩ => ?_
    dsimp only at e g fl2 kp2
    subst e
    simp only [obs, putD_tp, put_tp, puts_cons, puts_nil, put_nm, List.length_cons, List.length_nil, Nat.zero_add, Nat.reduceAdd, Nat.reduceLT, if_true, List.set_cons_succ, List.set_cons_zero, wp_some, after_nx]
    rw [wp_cons]
    simp [-Option.bind_some, -wp_cons]
    refine (dpay fl2 hd.r0 hd.r6 hd.h0 hd.hb).use fun x M3 hx fl3 c3 => ?_
    obtain ⟨ps, rfl, hps⟩ := hx
    obtain ⟨v, ch, p, q, ce, c9⟩ := cgu hd hps M3
    have J1 := jj hd hps
    have h6 : ps.length ≤ 6 := by rw [hps.1]; exact hd.r6
    have h0 : 0 < ps.length := by rw [hps.1]; exact hd.r0
    have tp0 := ce.tp h6
    obtain ⟨b, hb, h⟩ := J1 _ tp0
    have b1 : b = true := hb.mpr ⟨v, ch, p, q, rfl, ce.jud⟩
    subst b1
    have c10 := fun M => (h M).2
    have tp1 : Tp (.tup [fr v, row ch, .tup [fr 0, fr 0]]) := Tp.of3 (Lf.fr ce.bv (by decide)) (Rw.row (by rw [ce.len]; omega) ce.bc (by decide)) (Rw.tup (by simp) (fun y hy => by
      simp only [List.mem_cons, List.not_mem_nil, or_false] at hy
      rcases hy with rfl | rfl <;> exact Lf.fr (bdz.mono (by decide)) (by decide)))
    have tpn : Tp .non := ⟨cl_non, fun a b c e => by cases e⟩
    have dch := fun {M : Mem} (hf : Flow i j M) => dch hf (v := v) (p := p) (q := q) (ch := ch) ce.bv (by rw [ce.len]; exact h0) (by rw [ce.len]; exact h6) ce.bc ce.bp (ce.bq.mono (by decide))
    have g0 : ∀ M, index (.p (gP v ch p q)) (.p (.int 0)) M = some (fr v) := fun _ => by rfl
    have g1 : ∀ M, index (.p (gP v ch p q)) (.p (.int 1)) M = some (row ch) := fun _ => by rfl
    generalize gP v ch p q = X0 at *
    rw [wp_some, after_nx, wp_cons]
    refine Wp.mono (P := fun o => o = .nx [some (.scr (ns.map P.int)), some (.p (.ref i)), some (.p (.int (a : Int))), some (.p (workP cs T)), some (.p (row hs)), some (.p (.ref n)), some (.p (row ps)), some (.p X0), z8, z9, z10, z11] M3) ?_ ?_
    · by_cases h : 0 < a
      · simp [-Option.bind_some, c9, h]
      · simp [-Option.bind_some, c9, h]
    rintro o rfl
    rw [after_nx, wp_cons]
    simp [-Option.bind_some, -wp_cons, c10]
    rw [wp_cons]
    refine Wp.mono (P := fun o => ∃ (z8 : Option D) (m : Nat) (vals : List P) (M4 : Mem), o = .nx [some (.scr (ns.map P.int)), some (.p (.ref i)), some (.p (.int (a : Int))), some (.p (workP cs T)), some (.p (row hs)), some (.p (.ref n)), some (.p (row ps)), some (.p X0), z8, some (.p (.ref m)), z10, z11] M4 ∧ Flow i j M4 ∧ m ≠ i ∧ M4[m]? = some vals ∧ ∀ x ∈ vals, Tp x) ?_ ?_
    · have nl1 : newl [X0, .non, .tup [fr v, row ch, .tup [fr 0, fr 0]]] M3 = some (.p (.ref M3.length), M3 ++ [[X0, .non, .tup [fr v, row ch, .tup [fr 0, fr 0]]]]) := newl_ok (by simp [szl])
      have e00 : P.tup [.int 0, .int 1] = fr 0 := rfl
      have sr : ∀ M, src .rng [.p (.int 6)] M = some ⟨(List.range 6).map fun k : Nat => P.int (0 + (k : Int)), [], true⟩ := fun M => by rw [src_rng1 (by decide), rangeP_map]; rfl
      simp [-Option.bind_some, -ix_tup, g0, g1, e00, s2, s3, nl1, sr]
      refine (lcs_draw (fun x : Nat => P.int (x : Int)) id Tp (fun _ => rfl) (List.range 6) (fl3.app [[X0, .non, .tup [fr v, row ch, .tup [fr 0, fr 0]]]]) ?_).bind ?_
      · intro a ha M' fl kp
        simp [-Option.bind_some, lcx, wipeE]
        refine (dch fl).use fun x M5 hx fl5 c5 => ?_
        simp [-Option.bind_some]
        exact ⟨hx, fl5, c5.kp⟩
      · rintro ⟨acc, M4⟩ ⟨vs, h1, h2, h3, fl4, kp4⟩
        dsimp only at h1 fl4 kp4
        subst h1
        rw [List.map_id]
        have hl : vs.length = 6 := by simpa using h2
        have l3 := fl3.lt.1
        have g4 : M4[M3.length]? = some [X0, .non, .tup [fr v, row ch, .tup [fr 0, fr 0]]] := kp4.at (by omega) (get_end _ _)
        have nl4 : newl vs M4 = some (.p (.ref M4.length), M4 ++ [vs]) := newl_ok (by rw [hl]; decide)
        have g5 : (M4 ++ [vs])[M3.length]? = some [X0, .non, .tup [fr v, row ch, .tup [fr 0, fr 0]]] := get_app g4
        have nl5 : newl ([X0, .non, .tup [fr v, row ch, .tup [fr 0, fr 0]]] ++ vs) (M4 ++ [vs]) = some (.p (.ref (M4.length + 1)), M4 ++ [vs] ++ [[X0, .non, .tup [fr v, row ch, .tup [fr 0, fr 0]]] ++ vs]) := by
          rw [newl_ok (by simp [szl, hl])]; simp
        simp [-Option.bind_some, nl4, g5]
        rw [List.cons_append, List.cons_append, List.cons_append, List.nil_append] at nl5
        simp [-Option.bind_some, nl5]
        have fl5 := fl4.app [vs, X0 :: P.non :: P.tup [fr v, row ch, .tup [fr 0, fr 0]] :: vs]
        refine ⟨_, _, X0 :: P.non :: P.tup [fr v, row ch, .tup [fr 0, fr 0]] :: vs, _, ⟨⟨rfl, rfl⟩, rfl⟩, fl5, by have := fl4.lt.1; omega, get_e1 _ _ _ _, fun x hx => ?_⟩
        rcases List.mem_cons.mp hx with rfl | hx
        · exact tp0
        rcases List.mem_cons.mp hx with rfl | hx
        · exact tpn
        rcases List.mem_cons.mp hx with rfl | hx
        · exact tp1
        · exact h3 x hx
    rintro o ⟨z8, m, vals, M4, rfl, fl4, hm, g4, hv⟩
    rw [after_nx]
    simp [-Option.bind_some, g4]
    have h0 := lop_wpJ (W := V) (G := G) (N := LL) (s := ⟨vals, [(m, vals)], true⟩) (t := .nm 10) (b := [S.ife (.cmp .eq (.call n__law_draw [(.v 1), (.c (.int 4))] [0, 1]) (.c (.int 0)))
              [.set (.nm 11) (.call n_judge_guarantee [(.v 10), (.v 6), (.v 4), (.v 3)] [3, 2, 1, 0])]
              [.set (.nm 11) (.call n_judge_guarantee [(.v 3), (.v 4), (.v 6), (.v 10)] [0, 1, 2, 3])],
           .ife (.or [(.not (.tru (.bi .isbool [(.v 11)]))), (.cmp .ne (.v 11) (.call n__law_is_guarantee [(.v 3), (.v 4), (.v 6), (.v 10)] [0, 1, 2, 3]))])
              [.ret (.c (.bl false))]
              []]) (id : P → P) (Q := After V G LL [] (LP ⟨(List.range 3).map fun a : Nat => P.int (a : Int), [], true⟩ (J (pre ++ [a]) r) Q)) (ρ := [some (.scr (ns.map P.int)), some (.p (.ref i)), some (.p (.int (a : Int))), some (.p (workP cs T)), some (.p (row hs)), some (.p (.ref n)), some (.p (row ps)), some (.p X0), z8, some (.p (.ref m)), z10, z11]) (M := M4) (fun pre r ρ M' => Flow i j M' ∧ M'[m]? = some vals ∧ ∃ z10 z11 : Option D, ρ = [some (.scr (ns.map P.int)), some (.p (.ref i)), some (.p (.int (a : Int))), some (.p (workP cs T)), some (.p (row hs)), some (.p (.ref n)), some (.p (row ps)), some (.p X0), z8, some (.p (.ref m)), z10, z11]) vals ⟨fl4, g4, z10, z11, rfl⟩ ?_ ?_
    · rw [List.map_id] at h0
      exact h0
    · rintro J2 Q2 hJ2 - pre2 x r2 ρ M5 hr2 ⟨fl5, g5, y10, y11, rfl⟩
      obtain ⟨b, -, hx⟩ := J1 x (hv x (by rw [hr2]; simp))
      simp [-Option.bind_some]
      refine (dd fl5).use fun y M6 hy fl6 c6 => ?_
      obtain ⟨d, rfl, hd4⟩ := hy
      have q1 := (hx M6).1
      have q2 := (hx M6).2
      have g6 := c6.at hm g5
      have ne : ∀ M, cmpop .ne (.p (.bl b)) (.p (.bl b)) M = some false := fun _ => by cases b <;> rfl
      by_cases d0 : d = 0
      · subst d0
        simp [-Option.bind_some, q1, q2, ne, g6]
        rw [hJ2]
        exact ⟨fl6, g6, _, _, rfl⟩
      · have d0' : ¬ ((d : Int) = 0) := by omega
        simp [-Option.bind_some, q1, q2, ne, g6, d0, d0']
        rw [hJ2]
        exact ⟨fl6, g6, _, _, rfl⟩
    · rintro ρ M5 ⟨fl5, g5, y10, y11, rfl⟩
      rw [after_nx, wp_nil, LP_nx]
      rw [hJ]
      exact ⟨rfl, fl5, _, _, _, _, _, _, _, _, _, _, rfl⟩
  · rintro ρ M' ⟨fl, z2, z3, z4, z5, z6, z7, z8, z9, z10, z11, rfl⟩
    simp [-Option.bind_some]

end K30
end

section
set_option Elab.async false
set_option autoImplicit false
set_option linter.all false
set_option maxRecDepth 100000
set_option maxHeartbeats 0
namespace K30
open PySem PySem.Spec PyProof.Rows L2 GX IX
abbrev top (i : Nat) : Stmt := PySem.Challenge.pw_gladlydone_k30_guarantees.main.body.getD i (.Pass ⟨0, 0, 0, 0⟩)
abbrev s_common : Stmt := top 3
def d_common : He.DefD := ⟨("common", none), "common", "common", L2.defArgs s_common, L2.defBody s_common, L2.defScope s_common, [], []⟩
abbrev s_ratio : Stmt := top 4
def d_ratio : He.DefD := ⟨("ratio", none), "ratio", "ratio", L2.defArgs s_ratio, L2.defBody s_ratio, L2.defScope s_ratio, [], []⟩
abbrev s_is_number : Stmt := top 5
def d_is_number : He.DefD := ⟨("is_number", none), "is_number", "is_number", L2.defArgs s_is_number, L2.defBody s_is_number, L2.defScope s_is_number, [], []⟩
abbrev s_is_fraction : Stmt := top 6
def d_is_fraction : He.DefD := ⟨("is_fraction", none), "is_fraction", "is_fraction", L2.defArgs s_is_fraction, L2.defBody s_is_fraction, L2.defScope s_is_fraction, [], []⟩
abbrev s_is_fractions : Stmt := top 7
def d_is_fractions : He.DefD := ⟨("is_fractions", none), "is_fractions", "is_fractions", L2.defArgs s_is_fractions, L2.defBody s_is_fractions, L2.defScope s_is_fractions, [], []⟩
abbrev s_is_chances : Stmt := top 8
def d_is_chances : He.DefD := ⟨("is_chances", none), "is_chances", "is_chances", L2.defArgs s_is_chances, L2.defBody s_is_chances, L2.defScope s_is_chances, [], []⟩
abbrev s_plus : Stmt := top 9
def d_plus : He.DefD := ⟨("plus", none), "plus", "plus", L2.defArgs s_plus, L2.defBody s_plus, L2.defScope s_plus, [], []⟩
abbrev s_minus : Stmt := top 10
def d_minus : He.DefD := ⟨("minus", none), "minus", "minus", L2.defArgs s_minus, L2.defBody s_minus, L2.defScope s_minus, [], []⟩
abbrev s_times : Stmt := top 11
def d_times : He.DefD := ⟨("times", none), "times", "times", L2.defArgs s_times, L2.defBody s_times, L2.defScope s_times, [], []⟩
abbrev s_less : Stmt := top 12
def d_less : He.DefD := ⟨("less", none), "less", "less", L2.defArgs s_less, L2.defBody s_less, L2.defScope s_less, [], []⟩
abbrev s_atmost : Stmt := top 13
def d_atmost : He.DefD := ⟨("atmost", none), "atmost", "atmost", L2.defArgs s_atmost, L2.defBody s_atmost, L2.defScope s_atmost, [], []⟩
abbrev s_alike : Stmt := top 14
def d_alike : He.DefD := ⟨("alike", none), "alike", "alike", L2.defArgs s_alike, L2.defBody s_alike, L2.defScope s_alike, [], []⟩
abbrev s_greatest_of : Stmt := top 15
def d_greatest_of : He.DefD := ⟨("greatest_of", none), "greatest_of", "greatest_of", L2.defArgs s_greatest_of, L2.defBody s_greatest_of, L2.defScope s_greatest_of, [], []⟩
abbrev s_bottom_of : Stmt := top 16
def d_bottom_of : He.DefD := ⟨("bottom_of", none), "bottom_of", "bottom_of", L2.defArgs s_bottom_of, L2.defBody s_bottom_of, L2.defScope s_bottom_of, [], []⟩
abbrev s_tops_over : Stmt := top 17
def d_tops_over : He.DefD := ⟨("tops_over", none), "tops_over", "tops_over", L2.defArgs s_tops_over, L2.defBody s_tops_over, L2.defScope s_tops_over, [], []⟩
abbrev s_wholes : Stmt := top 18
def d_wholes : He.DefD := ⟨("wholes", none), "wholes", "wholes", L2.defArgs s_wholes, L2.defBody s_wholes, L2.defScope s_wholes, [], []⟩
abbrev s_raw_dot : Stmt := top 19
def d_raw_dot : He.DefD := ⟨("raw_dot", none), "raw_dot", "raw_dot", L2.defArgs s_raw_dot, L2.defBody s_raw_dot, L2.defScope s_raw_dot, [], []⟩
abbrev s_dot : Stmt := top 20
def d_dot : He.DefD := ⟨("dot", none), "dot", "dot", L2.defArgs s_dot, L2.defBody s_dot, L2.defScope s_dot, [], []⟩
abbrev s_row_minus : Stmt := top 21
def d_row_minus : He.DefD := ⟨("row_minus", none), "row_minus", "row_minus", L2.defArgs s_row_minus, L2.defBody s_row_minus, L2.defScope s_row_minus, [], []⟩
abbrev s_zeros : Stmt := top 22
def d_zeros : He.DefD := ⟨("zeros", none), "zeros", "zeros", L2.defArgs s_zeros, L2.defBody s_zeros, L2.defScope s_zeros, [], []⟩
abbrev s_unit : Stmt := top 23
def d_unit : He.DefD := ⟨("unit", none), "unit", "unit", L2.defArgs s_unit, L2.defBody s_unit, L2.defScope s_unit, [], []⟩
abbrev s_net_bound : Stmt := top 25
def d_net_bound : He.DefD := ⟨("net_bound", none), "net_bound", "net_bound", L2.defArgs s_net_bound, L2.defBody s_net_bound, L2.defScope s_net_bound, [], []⟩
abbrev s_corners : Stmt := top 26
def d_corners : He.DefD := ⟨("corners", none), "corners", "corners", L2.defArgs s_corners, L2.defBody s_corners, L2.defScope s_corners, [], []⟩
abbrev s_least_corner : Stmt := top 27
def d_least_corner : He.DefD := ⟨("least_corner", none), "least_corner", "least_corner", L2.defArgs s_least_corner, L2.defBody s_least_corner, L2.defScope s_least_corner, [], []⟩
abbrev s_corner_chances : Stmt := top 28
def d_corner_chances : He.DefD := ⟨("corner_chances", none), "corner_chances", "corner_chances", L2.defArgs s_corner_chances, L2.defBody s_corner_chances, L2.defScope s_corner_chances, [], []⟩
abbrev s_slope_at : Stmt := top 29
def d_slope_at : He.DefD := ⟨("slope_at", none), "slope_at", "slope_at", L2.defArgs s_slope_at, L2.defBody s_slope_at, L2.defScope s_slope_at, [], []⟩
abbrev s_guarantee : Stmt := top 30
def d_guarantee : He.DefD := ⟨("guarantee", none), "guarantee", "guarantee", L2.defArgs s_guarantee, L2.defBody s_guarantee, L2.defScope s_guarantee, [], []⟩
abbrev s_judge_guarantee : Stmt := top 31
def d_judge_guarantee : He.DefD := ⟨("judge_guarantee", none), "judge_guarantee", "judge_guarantee", L2.defArgs s_judge_guarantee, L2.defBody s_judge_guarantee, L2.defScope s_judge_guarantee, [], []⟩
abbrev s__law_flow : Stmt := top 33
def d__law_flow : He.DefD := ⟨("_law_flow", none), "_law_flow", "_law_flow", L2.defArgs s__law_flow, L2.defBody s__law_flow, L2.defScope s__law_flow, [], []⟩
abbrev s__law_draw : Stmt := top 34
def d__law_draw : He.DefD := ⟨("_law_draw", none), "_law_draw", "_law_draw", L2.defArgs s__law_draw, L2.defBody s__law_draw, L2.defScope s__law_draw, [], []⟩
abbrev s__law_pick : Stmt := top 35
def d__law_pick : He.DefD := ⟨("_law_pick", none), "_law_pick", "_law_pick", L2.defArgs s__law_pick, L2.defBody s__law_pick, L2.defScope s__law_pick, [], []⟩
abbrev s__law_shuffled : Stmt := top 36
def d__law_shuffled : He.DefD := ⟨("_law_shuffled", none), "_law_shuffled", "_law_shuffled", L2.defArgs s__law_shuffled, L2.defBody s__law_shuffled, L2.defScope s__law_shuffled, [], []⟩
abbrev s__law_frac : Stmt := top 37
def d__law_frac : He.DefD := ⟨("_law_frac", none), "_law_frac", "_law_frac", L2.defArgs s__law_frac, L2.defBody s__law_frac, L2.defScope s__law_frac, [], []⟩
abbrev s__law_plus : Stmt := top 38
def d__law_plus : He.DefD := ⟨("_law_plus", none), "_law_plus", "_law_plus", L2.defArgs s__law_plus, L2.defBody s__law_plus, L2.defScope s__law_plus, [], []⟩
abbrev s__law_minus : Stmt := top 39
def d__law_minus : He.DefD := ⟨("_law_minus", none), "_law_minus", "_law_minus", L2.defArgs s__law_minus, L2.defBody s__law_minus, L2.defScope s__law_minus, [], []⟩
abbrev s__law_times : Stmt := top 40
def d__law_times : He.DefD := ⟨("_law_times", none), "_law_times", "_law_times", L2.defArgs s__law_times, L2.defBody s__law_times, L2.defScope s__law_times, [], []⟩
abbrev s__law_less : Stmt := top 41
def d__law_less : He.DefD := ⟨("_law_less", none), "_law_less", "_law_less", L2.defArgs s__law_less, L2.defBody s__law_less, L2.defScope s__law_less, [], []⟩
abbrev s__law_greatest : Stmt := top 42
def d__law_greatest : He.DefD := ⟨("_law_greatest", none), "_law_greatest", "_law_greatest", L2.defArgs s__law_greatest, L2.defBody s__law_greatest, L2.defScope s__law_greatest, [], []⟩
abbrev s__law_row : Stmt := top 43
def d__law_row : He.DefD := ⟨("_law_row", none), "_law_row", "_law_row", L2.defArgs s__law_row, L2.defBody s__law_row, L2.defScope s__law_row, [], []⟩
abbrev s__law_total : Stmt := top 44
def d__law_total : He.DefD := ⟨("_law_total", none), "_law_total", "_law_total", L2.defArgs s__law_total, L2.defBody s__law_total, L2.defScope s__law_total, [], []⟩
abbrev s__law_is_whole : Stmt := top 45
def d__law_is_whole : He.DefD := ⟨("_law_is_whole", none), "_law_is_whole", "_law_is_whole", L2.defArgs s__law_is_whole, L2.defBody s__law_is_whole, L2.defScope s__law_is_whole, [], []⟩
abbrev s__law_is_fraction : Stmt := top 46
def d__law_is_fraction : He.DefD := ⟨("_law_is_fraction", none), "_law_is_fraction", "_law_is_fraction", L2.defArgs s__law_is_fraction, L2.defBody s__law_is_fraction, L2.defScope s__law_is_fraction, [], []⟩
abbrev s__law_are_rows : Stmt := top 47
def d__law_are_rows : He.DefD := ⟨("_law_are_rows", none), "_law_are_rows", "_law_are_rows", L2.defArgs s__law_are_rows, L2.defBody s__law_are_rows, L2.defScope s__law_are_rows, [], []⟩
abbrev s__law_is_table : Stmt := top 48
def d__law_is_table : He.DefD := ⟨("_law_is_table", none), "_law_is_table", "_law_is_table", L2.defArgs s__law_is_table, L2.defBody s__law_is_table, L2.defScope s__law_is_table, [], []⟩
abbrev s__law_mean : Stmt := top 49
def d__law_mean : He.DefD := ⟨("_law_mean", none), "_law_mean", "_law_mean", L2.defArgs s__law_mean, L2.defBody s__law_mean, L2.defScope s__law_mean, [], []⟩
abbrev s__law_numbers : Stmt := top 50
def d__law_numbers : He.DefD := ⟨("_law_numbers", none), "_law_numbers", "_law_numbers", L2.defArgs s__law_numbers, L2.defBody s__law_numbers, L2.defScope s__law_numbers, [], []⟩
abbrev s__law_chances : Stmt := top 51
def d__law_chances : He.DefD := ⟨("_law_chances", none), "_law_chances", "_law_chances", L2.defArgs s__law_chances, L2.defBody s__law_chances, L2.defScope s__law_chances, [], []⟩
abbrev s__law_work : Stmt := top 52
def d__law_work : He.DefD := ⟨("_law_work", none), "_law_work", "_law_work", L2.defArgs s__law_work, L2.defBody s__law_work, L2.defScope s__law_work, [], []⟩
abbrev s__law_bar : Stmt := top 53
def d__law_bar : He.DefD := ⟨("_law_bar", none), "_law_bar", "_law_bar", L2.defArgs s__law_bar, L2.defBody s__law_bar, L2.defScope s__law_bar, [], []⟩
abbrev s__law_is_guarantee : Stmt := top 54
def d__law_is_guarantee : He.DefD := ⟨("_law_is_guarantee", none), "_law_is_guarantee", "_law_is_guarantee", L2.defArgs s__law_is_guarantee, L2.defBody s__law_is_guarantee, L2.defScope s__law_is_guarantee, [], []⟩
abbrev s__law_pays : Stmt := top 55
def d__law_pays : He.DefD := ⟨("_law_pays", none), "_law_pays", "_law_pays", L2.defArgs s__law_pays, L2.defBody s__law_pays, L2.defScope s__law_pays, [], []⟩
abbrev s__law_changed : Stmt := top 56
def d__law_changed : He.DefD := ⟨("_law_changed", none), "_law_changed", "_law_changed", L2.defArgs s__law_changed, L2.defBody s__law_changed, L2.defScope s__law_changed, [], []⟩
abbrev s_law : Stmt := top 57
def d_law : He.DefD := ⟨("law", none), "law", "law", L2.defArgs s_law, L2.defBody s_law, L2.defScope s_law, [], []⟩
def fn_0 : List (He.DefD) := [d_common, d_ratio, d_is_number, d_is_fraction, d_is_fractions, d_is_chances, d_plus, d_minus, d_times, d_less, d_atmost, d_alike, d_greatest_of, d_bottom_of, d_tops_over, d_wholes, d_raw_dot, d_dot, d_row_minus, d_zeros, d_unit, d_net_bound, d_corners, d_least_corner, d_corner_chances, d_slope_at, d_guarantee, d_judge_guarantee, d__law_flow, d__law_draw]
def fn_1 : List (He.DefD) := [d__law_pick, d__law_shuffled, d__law_frac, d__law_plus, d__law_minus, d__law_times, d__law_less, d__law_greatest, d__law_row, d__law_total, d__law_is_whole, d__law_is_fraction, d__law_are_rows, d__law_is_table, d__law_mean, d__law_numbers, d__law_chances, d__law_work, d__law_bar, d__law_is_guarantee, d__law_pays, d__law_changed, d_law]
def fn : List (He.DefD) := fn_0 ++ fn_1

def fa_0 : List (He.Fa) := [.glo "common", .glo "ratio", .glo "is_number", .glo "is_fraction", .glo "is_fractions", .glo "is_chances", .glo "plus", .glo "minus", .glo "times", .glo "less", .glo "atmost", .glo "alike", .glo "greatest_of", .glo "bottom_of", .glo "tops_over", .glo "wholes", .glo "raw_dot", .glo "dot", .glo "row_minus", .glo "zeros", .glo "unit", .glo "net_bound", .glo "corners", .glo "least_corner", .glo "corner_chances", .glo "slope_at", .glo "guarantee", .glo "judge_guarantee", .glo "_law_flow", .glo "_law_draw"]
def fa_1 : List (He.Fa) := [.glo "_law_pick", .glo "_law_shuffled", .glo "_law_frac", .glo "_law_plus", .glo "_law_minus", .glo "_law_times", .glo "_law_less", .glo "_law_greatest", .glo "_law_row", .glo "_law_total", .glo "_law_is_whole", .glo "_law_is_fraction", .glo "_law_are_rows", .glo "_law_is_table", .glo "_law_mean", .glo "_law_numbers", .glo "_law_chances", .glo "_law_work", .glo "_law_bar", .glo "_law_is_guarantee", .glo "_law_pays", .glo "_law_changed", .glo "law", .free "len", .free "abs", .free "int", .free "bool", .free "max", .free "min", .free "sum"]
def fa_2 : List (He.Fa) := [.free "tuple", .free "list", .free "isinstance", .free "all", .free "any", .free "range", .free "enumerate", .free "zip", .free "str", .glo "ZERO", .glo "ONE"]
def fa : List (He.Fa) := fa_0 ++ fa_1 ++ fa_2

def tf_0 : List (He.Defn) := [("common", none), ("ratio", none), ("is_number", none), ("is_fraction", none), ("is_fractions", none), ("is_chances", none), ("plus", none), ("minus", none), ("times", none), ("less", none), ("atmost", none), ("alike", none), ("greatest_of", none), ("bottom_of", none), ("tops_over", none), ("wholes", none), ("raw_dot", none), ("dot", none), ("row_minus", none), ("zeros", none), ("unit", none), ("net_bound", none), ("corners", none), ("least_corner", none), ("corner_chances", none), ("slope_at", none), ("guarantee", none), ("judge_guarantee", none), ("_law_flow", none), ("_law_draw", none)]
def tf_1 : List (He.Defn) := [("_law_pick", none), ("_law_shuffled", none), ("_law_frac", none), ("_law_plus", none), ("_law_minus", none), ("_law_times", none), ("_law_less", none), ("_law_greatest", none), ("_law_row", none), ("_law_total", none), ("_law_is_whole", none), ("_law_is_fraction", none), ("_law_are_rows", none), ("_law_is_table", none), ("_law_mean", none), ("_law_numbers", none), ("_law_chances", none), ("_law_work", none), ("_law_bar", none), ("_law_is_guarantee", none), ("_law_pays", none), ("_law_changed", none), ("law", none)]
def tf : List (He.Defn) := tf_0 ++ tf_1

def ex (K : PySem.W.Frag) : Bool := exT tf K && He.tupB K "ZERO" [.int 0, .int 1] && He.tupB K "ONE" [.int 1, .int 1]
abbrev R : PySem.W.OpenRow := PySem.W.OpenLaw.row PySem.Challenge.rw_gladlydone_k30_guarantees
abbrev hk : PySem.W.Hook := He.hookX 5 fa fn [] tf ex
def ob (s : PySem.W.SharedT) : He.AlX := He.obsX 5 fa fn [] tf ex (HandSHeadRun.getT s)
theorem ob_eq (s : PySem.W.SharedT) : ob s = hk.obs s.abs := He.obsX_eq (HandSHeadRun.getT_eq s)
def loose_0 : List (Str) := ["__name__", "ZERO", "ONE", "common", "ratio", "is_number", "is_fraction", "is_fractions", "is_chances", "plus", "minus", "times", "less", "atmost", "alike", "greatest_of", "bottom_of", "tops_over", "wholes", "raw_dot", "dot", "row_minus", "zeros", "unit", "net_bound", "corners", "least_corner", "corner_chances", "slope_at", "guarantee"]
def loose_1 : List (Str) := ["judge_guarantee", "_law_flow", "_law_draw", "_law_pick", "_law_shuffled", "_law_frac", "_law_plus", "_law_minus", "_law_times", "_law_less", "_law_greatest", "_law_row", "_law_total", "_law_is_whole", "_law_is_fraction", "_law_are_rows", "_law_is_table", "_law_mean", "_law_numbers", "_law_chances", "_law_work", "_law_bar", "_law_is_guarantee", "_law_pays", "_law_changed"]
def loose : List (Str) := loose_0 ++ loose_1

theorem run (w : World) : HandSHeadRun.RunEq R (PySem.W.view R.prog [57]) hk ob 4000 loose w := by
  intro os
  kernel_rfl
section
variable {K : PySem.W.Frag} {mg : Str → Option Value}
theorem sc_common : FnScope N_common [("one" : Str), ("other" : Str)] (L2.defScope s_common) := ⟨rfl, rfl, rfl, by decide +kernel, by kernel_rfl, by decide +kernel, by decide +kernel⟩
theorem tr_common : trSs pg 60 3 N_common (L2.defScope s_common) (L2.defBody s_common) = some F_common.body := by kernel_rfl
theorem in_common {fd : FuncData} (F : FunD K "common" "common" (L2.defArgs s_common) (L2.defBody s_common) (L2.defScope s_common) [] [] (He.fAd K ("common", none)) fd) (hm : mg "common" = some (.ref (He.ga K "common"))) (hct : PySem.W.codeHdIn K (He.cT K ("common", none)).1 (He.cT K ("common", none)).2 = true) : DefIn pg tab K mg 60 3 "common" 0 ["one", "other"] [] :=
  def_in (N := N_common) (fn := F_common) F hm hct sc_common (by simp) (fun _ _ _ _ _ _ us hl => match us, hl with | [_, _], _ => rfl) (fun ks hks => absurd hks (by simp)) rfl rfl rfl tr_common
theorem sc_ratio : FnScope N_ratio [("top" : Str), ("bottom" : Str)] (L2.defScope s_ratio) := ⟨rfl, rfl, rfl, by decide +kernel, by kernel_rfl, by decide +kernel, by decide +kernel⟩
theorem tr_ratio : trSs pg 60 3 N_ratio (L2.defScope s_ratio) (L2.defBody s_ratio) = some F_ratio.body := by kernel_rfl
theorem in_ratio {fd : FuncData} (F : FunD K "ratio" "ratio" (L2.defArgs s_ratio) (L2.defBody s_ratio) (L2.defScope s_ratio) [] [] (He.fAd K ("ratio", none)) fd) (hm : mg "ratio" = some (.ref (He.ga K "ratio"))) (hct : PySem.W.codeHdIn K (He.cT K ("ratio", none)).1 (He.cT K ("ratio", none)).2 = true) : DefIn pg tab K mg 60 3 "ratio" 1 ["top", "bottom"] [] :=
  def_in (N := N_ratio) (fn := F_ratio) F hm hct sc_ratio (by simp) (fun _ _ _ _ _ _ us hl => match us, hl with | [_, _], _ => rfl) (fun ks hks => absurd hks (by simp)) rfl rfl rfl tr_ratio
theorem sc_is_number : FnScope N_is_number [("value" : Str)] (L2.defScope s_is_number) := ⟨rfl, rfl, rfl, by decide +kernel, by kernel_rfl, by decide +kernel, by decide +kernel⟩
theorem tr_is_number : trSs pg 60 3 N_is_number (L2.defScope s_is_number) (L2.defBody s_is_number) = some F_is_number.body := by kernel_rfl
theorem in_is_number {fd : FuncData} (F : FunD K "is_number" "is_number" (L2.defArgs s_is_number) (L2.defBody s_is_number) (L2.defScope s_is_number) [] [] (He.fAd K ("is_number", none)) fd) (hm : mg "is_number" = some (.ref (He.ga K "is_number"))) (hct : PySem.W.codeHdIn K (He.cT K ("is_number", none)).1 (He.cT K ("is_number", none)).2 = true) : DefIn pg tab K mg 60 3 "is_number" 2 ["value"] [] :=
  def_in (N := N_is_number) (fn := F_is_number) F hm hct sc_is_number (by simp) (fun _ _ _ _ _ _ us hl => match us, hl with | [_], _ => rfl) (fun ks hks => absurd hks (by simp)) rfl rfl rfl tr_is_number
theorem sc_is_fraction : FnScope N_is_fraction [("value" : Str)] (L2.defScope s_is_fraction) := ⟨rfl, rfl, rfl, by decide +kernel, by kernel_rfl, by decide +kernel, by decide +kernel⟩
theorem tr_is_fraction : trSs pg 60 3 N_is_fraction (L2.defScope s_is_fraction) (L2.defBody s_is_fraction) = some F_is_fraction.body := by kernel_rfl
theorem in_is_fraction {fd : FuncData} (F : FunD K "is_fraction" "is_fraction" (L2.defArgs s_is_fraction) (L2.defBody s_is_fraction) (L2.defScope s_is_fraction) [] [] (He.fAd K ("is_fraction", none)) fd) (hm : mg "is_fraction" = some (.ref (He.ga K "is_fraction"))) (hct : PySem.W.codeHdIn K (He.cT K ("is_fraction", none)).1 (He.cT K ("is_fraction", none)).2 = true) : DefIn pg tab K mg 60 3 "is_fraction" 3 ["value"] [] :=
  def_in (N := N_is_fraction) (fn := F_is_fraction) F hm hct sc_is_fraction (by simp) (fun _ _ _ _ _ _ us hl => match us, hl with | [_], _ => rfl) (fun ks hks => absurd hks (by simp)) rfl rfl rfl tr_is_fraction
theorem sc_is_fractions : FnScope N_is_fractions [("value" : Str), ("low" : Str), ("high" : Str)] (L2.defScope s_is_fractions) := ⟨rfl, rfl, rfl, by decide +kernel, by kernel_rfl, by decide +kernel, by decide +kernel⟩
theorem tr_is_fractions : trSs pg 60 3 N_is_fractions (L2.defScope s_is_fractions) (L2.defBody s_is_fractions) = some F_is_fractions.body := by kernel_rfl
theorem in_is_fractions {fd : FuncData} (F : FunD K "is_fractions" "is_fractions" (L2.defArgs s_is_fractions) (L2.defBody s_is_fractions) (L2.defScope s_is_fractions) [] [] (He.fAd K ("is_fractions", none)) fd) (hm : mg "is_fractions" = some (.ref (He.ga K "is_fractions"))) (hct : PySem.W.codeHdIn K (He.cT K ("is_fractions", none)).1 (He.cT K ("is_fractions", none)).2 = true) : DefIn pg tab K mg 60 3 "is_fractions" 4 ["value", "low", "high"] [] :=
  def_in (N := N_is_fractions) (fn := F_is_fractions) F hm hct sc_is_fractions (by simp) (fun _ _ _ _ _ _ us hl => match us, hl with | [_, _, _], _ => rfl) (fun ks hks => absurd hks (by simp)) rfl rfl rfl tr_is_fractions
theorem sc_is_chances : FnScope N_is_chances [("value" : Str), ("low" : Str), ("high" : Str)] (L2.defScope s_is_chances) := ⟨rfl, rfl, rfl, by decide +kernel, by kernel_rfl, by decide +kernel, by decide +kernel⟩
theorem tr_is_chances : trSs pg 60 3 N_is_chances (L2.defScope s_is_chances) (L2.defBody s_is_chances) = some F_is_chances.body := by kernel_rfl
theorem in_is_chances {fd : FuncData} (F : FunD K "is_chances" "is_chances" (L2.defArgs s_is_chances) (L2.defBody s_is_chances) (L2.defScope s_is_chances) [] [] (He.fAd K ("is_chances", none)) fd) (hm : mg "is_chances" = some (.ref (He.ga K "is_chances"))) (hct : PySem.W.codeHdIn K (He.cT K ("is_chances", none)).1 (He.cT K ("is_chances", none)).2 = true) : DefIn pg tab K mg 60 3 "is_chances" 5 ["value", "low", "high"] [] :=
  def_in (N := N_is_chances) (fn := F_is_chances) F hm hct sc_is_chances (by simp) (fun _ _ _ _ _ _ us hl => match us, hl with | [_, _, _], _ => rfl) (fun ks hks => absurd hks (by simp)) rfl rfl rfl tr_is_chances
theorem sc_plus : FnScope N_plus [("one" : Str), ("other" : Str)] (L2.defScope s_plus) := ⟨rfl, rfl, rfl, by decide +kernel, by kernel_rfl, by decide +kernel, by decide +kernel⟩
theorem tr_plus : trSs pg 60 3 N_plus (L2.defScope s_plus) (L2.defBody s_plus) = some F_plus.body := by kernel_rfl
theorem in_plus {fd : FuncData} (F : FunD K "plus" "plus" (L2.defArgs s_plus) (L2.defBody s_plus) (L2.defScope s_plus) [] [] (He.fAd K ("plus", none)) fd) (hm : mg "plus" = some (.ref (He.ga K "plus"))) (hct : PySem.W.codeHdIn K (He.cT K ("plus", none)).1 (He.cT K ("plus", none)).2 = true) : DefIn pg tab K mg 60 3 "plus" 6 ["one", "other"] [] :=
  def_in (N := N_plus) (fn := F_plus) F hm hct sc_plus (by simp) (fun _ _ _ _ _ _ us hl => match us, hl with | [_, _], _ => rfl) (fun ks hks => absurd hks (by simp)) rfl rfl rfl tr_plus
theorem sc_minus : FnScope N_minus [("one" : Str), ("other" : Str)] (L2.defScope s_minus) := ⟨rfl, rfl, rfl, by decide +kernel, by kernel_rfl, by decide +kernel, by decide +kernel⟩
theorem tr_minus : trSs pg 60 3 N_minus (L2.defScope s_minus) (L2.defBody s_minus) = some F_minus.body := by kernel_rfl
theorem in_minus {fd : FuncData} (F : FunD K "minus" "minus" (L2.defArgs s_minus) (L2.defBody s_minus) (L2.defScope s_minus) [] [] (He.fAd K ("minus", none)) fd) (hm : mg "minus" = some (.ref (He.ga K "minus"))) (hct : PySem.W.codeHdIn K (He.cT K ("minus", none)).1 (He.cT K ("minus", none)).2 = true) : DefIn pg tab K mg 60 3 "minus" 7 ["one", "other"] [] :=
  def_in (N := N_minus) (fn := F_minus) F hm hct sc_minus (by simp) (fun _ _ _ _ _ _ us hl => match us, hl with | [_, _], _ => rfl) (fun ks hks => absurd hks (by simp)) rfl rfl rfl tr_minus
theorem sc_times : FnScope N_times [("one" : Str), ("other" : Str)] (L2.defScope s_times) := ⟨rfl, rfl, rfl, by decide +kernel, by kernel_rfl, by decide +kernel, by decide +kernel⟩
theorem tr_times : trSs pg 60 3 N_times (L2.defScope s_times) (L2.defBody s_times) = some F_times.body := by kernel_rfl
theorem in_times {fd : FuncData} (F : FunD K "times" "times" (L2.defArgs s_times) (L2.defBody s_times) (L2.defScope s_times) [] [] (He.fAd K ("times", none)) fd) (hm : mg "times" = some (.ref (He.ga K "times"))) (hct : PySem.W.codeHdIn K (He.cT K ("times", none)).1 (He.cT K ("times", none)).2 = true) : DefIn pg tab K mg 60 3 "times" 8 ["one", "other"] [] :=
  def_in (N := N_times) (fn := F_times) F hm hct sc_times (by simp) (fun _ _ _ _ _ _ us hl => match us, hl with | [_, _], _ => rfl) (fun ks hks => absurd hks (by simp)) rfl rfl rfl tr_times
theorem sc_less : FnScope N_less [("one" : Str), ("other" : Str)] (L2.defScope s_less) := ⟨rfl, rfl, rfl, by decide +kernel, by kernel_rfl, by decide +kernel, by decide +kernel⟩
theorem tr_less : trSs pg 60 3 N_less (L2.defScope s_less) (L2.defBody s_less) = some F_less.body := by kernel_rfl
theorem in_less {fd : FuncData} (F : FunD K "less" "less" (L2.defArgs s_less) (L2.defBody s_less) (L2.defScope s_less) [] [] (He.fAd K ("less", none)) fd) (hm : mg "less" = some (.ref (He.ga K "less"))) (hct : PySem.W.codeHdIn K (He.cT K ("less", none)).1 (He.cT K ("less", none)).2 = true) : DefIn pg tab K mg 60 3 "less" 9 ["one", "other"] [] :=
  def_in (N := N_less) (fn := F_less) F hm hct sc_less (by simp) (fun _ _ _ _ _ _ us hl => match us, hl with | [_, _], _ => rfl) (fun ks hks => absurd hks (by simp)) rfl rfl rfl tr_less
theorem sc_atmost : FnScope N_atmost [("one" : Str), ("other" : Str)] (L2.defScope s_atmost) := ⟨rfl, rfl, rfl, by decide +kernel, by kernel_rfl, by decide +kernel, by decide +kernel⟩
theorem tr_atmost : trSs pg 60 3 N_atmost (L2.defScope s_atmost) (L2.defBody s_atmost) = some F_atmost.body := by kernel_rfl
theorem in_atmost {fd : FuncData} (F : FunD K "atmost" "atmost" (L2.defArgs s_atmost) (L2.defBody s_atmost) (L2.defScope s_atmost) [] [] (He.fAd K ("atmost", none)) fd) (hm : mg "atmost" = some (.ref (He.ga K "atmost"))) (hct : PySem.W.codeHdIn K (He.cT K ("atmost", none)).1 (He.cT K ("atmost", none)).2 = true) : DefIn pg tab K mg 60 3 "atmost" 10 ["one", "other"] [] :=
  def_in (N := N_atmost) (fn := F_atmost) F hm hct sc_atmost (by simp) (fun _ _ _ _ _ _ us hl => match us, hl with | [_, _], _ => rfl) (fun ks hks => absurd hks (by simp)) rfl rfl rfl tr_atmost
theorem sc_alike : FnScope N_alike [("one" : Str), ("other" : Str)] (L2.defScope s_alike) := ⟨rfl, rfl, rfl, by decide +kernel, by kernel_rfl, by decide +kernel, by decide +kernel⟩
theorem tr_alike : trSs pg 60 3 N_alike (L2.defScope s_alike) (L2.defBody s_alike) = some F_alike.body := by kernel_rfl
theorem in_alike {fd : FuncData} (F : FunD K "alike" "alike" (L2.defArgs s_alike) (L2.defBody s_alike) (L2.defScope s_alike) [] [] (He.fAd K ("alike", none)) fd) (hm : mg "alike" = some (.ref (He.ga K "alike"))) (hct : PySem.W.codeHdIn K (He.cT K ("alike", none)).1 (He.cT K ("alike", none)).2 = true) : DefIn pg tab K mg 60 3 "alike" 11 ["one", "other"] [] :=
  def_in (N := N_alike) (fn := F_alike) F hm hct sc_alike (by simp) (fun _ _ _ _ _ _ us hl => match us, hl with | [_, _], _ => rfl) (fun ks hks => absurd hks (by simp)) rfl rfl rfl tr_alike
theorem sc_greatest_of : FnScope N_greatest_of [("row" : Str)] (L2.defScope s_greatest_of) := ⟨rfl, rfl, rfl, by decide +kernel, by kernel_rfl, by decide +kernel, by decide +kernel⟩
theorem tr_greatest_of : trSs pg 60 3 N_greatest_of (L2.defScope s_greatest_of) (L2.defBody s_greatest_of) = some F_greatest_of.body := by kernel_rfl
theorem in_greatest_of {fd : FuncData} (F : FunD K "greatest_of" "greatest_of" (L2.defArgs s_greatest_of) (L2.defBody s_greatest_of) (L2.defScope s_greatest_of) [] [] (He.fAd K ("greatest_of", none)) fd) (hm : mg "greatest_of" = some (.ref (He.ga K "greatest_of"))) (hct : PySem.W.codeHdIn K (He.cT K ("greatest_of", none)).1 (He.cT K ("greatest_of", none)).2 = true) : DefIn pg tab K mg 60 3 "greatest_of" 12 ["row"] [] :=
  def_in (N := N_greatest_of) (fn := F_greatest_of) F hm hct sc_greatest_of (by simp) (fun _ _ _ _ _ _ us hl => match us, hl with | [_], _ => rfl) (fun ks hks => absurd hks (by simp)) rfl rfl rfl tr_greatest_of
theorem sc_bottom_of : FnScope N_bottom_of [("row" : Str)] (L2.defScope s_bottom_of) := ⟨rfl, rfl, rfl, by decide +kernel, by kernel_rfl, by decide +kernel, by decide +kernel⟩
theorem tr_bottom_of : trSs pg 60 3 N_bottom_of (L2.defScope s_bottom_of) (L2.defBody s_bottom_of) = some F_bottom_of.body := by kernel_rfl
theorem in_bottom_of {fd : FuncData} (F : FunD K "bottom_of" "bottom_of" (L2.defArgs s_bottom_of) (L2.defBody s_bottom_of) (L2.defScope s_bottom_of) [] [] (He.fAd K ("bottom_of", none)) fd) (hm : mg "bottom_of" = some (.ref (He.ga K "bottom_of"))) (hct : PySem.W.codeHdIn K (He.cT K ("bottom_of", none)).1 (He.cT K ("bottom_of", none)).2 = true) : DefIn pg tab K mg 60 3 "bottom_of" 13 ["row"] [] :=
  def_in (N := N_bottom_of) (fn := F_bottom_of) F hm hct sc_bottom_of (by simp) (fun _ _ _ _ _ _ us hl => match us, hl with | [_], _ => rfl) (fun ks hks => absurd hks (by simp)) rfl rfl rfl tr_bottom_of
theorem sc_tops_over : FnScope N_tops_over [("row" : Str), ("bottom" : Str)] (L2.defScope s_tops_over) := ⟨rfl, rfl, rfl, by decide +kernel, by kernel_rfl, by decide +kernel, by decide +kernel⟩
theorem tr_tops_over : trSs pg 60 3 N_tops_over (L2.defScope s_tops_over) (L2.defBody s_tops_over) = some F_tops_over.body := by kernel_rfl
theorem in_tops_over {fd : FuncData} (F : FunD K "tops_over" "tops_over" (L2.defArgs s_tops_over) (L2.defBody s_tops_over) (L2.defScope s_tops_over) [] [] (He.fAd K ("tops_over", none)) fd) (hm : mg "tops_over" = some (.ref (He.ga K "tops_over"))) (hct : PySem.W.codeHdIn K (He.cT K ("tops_over", none)).1 (He.cT K ("tops_over", none)).2 = true) : DefIn pg tab K mg 60 3 "tops_over" 14 ["row", "bottom"] [] :=
  def_in (N := N_tops_over) (fn := F_tops_over) F hm hct sc_tops_over (by simp) (fun _ _ _ _ _ _ us hl => match us, hl with | [_, _], _ => rfl) (fun ks hks => absurd hks (by simp)) rfl rfl rfl tr_tops_over
theorem sc_wholes : FnScope N_wholes [("row" : Str)] (L2.defScope s_wholes) := ⟨rfl, rfl, rfl, by decide +kernel, by kernel_rfl, by decide +kernel, by decide +kernel⟩
theorem tr_wholes : trSs pg 60 3 N_wholes (L2.defScope s_wholes) (L2.defBody s_wholes) = some F_wholes.body := by kernel_rfl
theorem in_wholes {fd : FuncData} (F : FunD K "wholes" "wholes" (L2.defArgs s_wholes) (L2.defBody s_wholes) (L2.defScope s_wholes) [] [] (He.fAd K ("wholes", none)) fd) (hm : mg "wholes" = some (.ref (He.ga K "wholes"))) (hct : PySem.W.codeHdIn K (He.cT K ("wholes", none)).1 (He.cT K ("wholes", none)).2 = true) : DefIn pg tab K mg 60 3 "wholes" 15 ["row"] [] :=
  def_in (N := N_wholes) (fn := F_wholes) F hm hct sc_wholes (by simp) (fun _ _ _ _ _ _ us hl => match us, hl with | [_], _ => rfl) (fun ks hks => absurd hks (by simp)) rfl rfl rfl tr_wholes
theorem sc_raw_dot : FnScope N_raw_dot [("row" : Str), ("other" : Str)] (L2.defScope s_raw_dot) := ⟨rfl, rfl, rfl, by decide +kernel, by kernel_rfl, by decide +kernel, by decide +kernel⟩
theorem tr_raw_dot : trSs pg 60 3 N_raw_dot (L2.defScope s_raw_dot) (L2.defBody s_raw_dot) = some F_raw_dot.body := by kernel_rfl
theorem in_raw_dot {fd : FuncData} (F : FunD K "raw_dot" "raw_dot" (L2.defArgs s_raw_dot) (L2.defBody s_raw_dot) (L2.defScope s_raw_dot) [] [] (He.fAd K ("raw_dot", none)) fd) (hm : mg "raw_dot" = some (.ref (He.ga K "raw_dot"))) (hct : PySem.W.codeHdIn K (He.cT K ("raw_dot", none)).1 (He.cT K ("raw_dot", none)).2 = true) : DefIn pg tab K mg 60 3 "raw_dot" 16 ["row", "other"] [] :=
  def_in (N := N_raw_dot) (fn := F_raw_dot) F hm hct sc_raw_dot (by simp) (fun _ _ _ _ _ _ us hl => match us, hl with | [_, _], _ => rfl) (fun ks hks => absurd hks (by simp)) rfl rfl rfl tr_raw_dot
theorem sc_dot : FnScope N_dot [("row" : Str), ("other" : Str)] (L2.defScope s_dot) := ⟨rfl, rfl, rfl, by decide +kernel, by kernel_rfl, by decide +kernel, by decide +kernel⟩
theorem tr_dot : trSs pg 60 3 N_dot (L2.defScope s_dot) (L2.defBody s_dot) = some F_dot.body := by kernel_rfl
theorem in_dot {fd : FuncData} (F : FunD K "dot" "dot" (L2.defArgs s_dot) (L2.defBody s_dot) (L2.defScope s_dot) [] [] (He.fAd K ("dot", none)) fd) (hm : mg "dot" = some (.ref (He.ga K "dot"))) (hct : PySem.W.codeHdIn K (He.cT K ("dot", none)).1 (He.cT K ("dot", none)).2 = true) : DefIn pg tab K mg 60 3 "dot" 17 ["row", "other"] [] :=
  def_in (N := N_dot) (fn := F_dot) F hm hct sc_dot (by simp) (fun _ _ _ _ _ _ us hl => match us, hl with | [_, _], _ => rfl) (fun ks hks => absurd hks (by simp)) rfl rfl rfl tr_dot
theorem sc_row_minus : FnScope N_row_minus [("row" : Str), ("other" : Str)] (L2.defScope s_row_minus) := ⟨rfl, rfl, rfl, by decide +kernel, by kernel_rfl, by decide +kernel, by decide +kernel⟩
theorem tr_row_minus : trSs pg 60 3 N_row_minus (L2.defScope s_row_minus) (L2.defBody s_row_minus) = some F_row_minus.body := by kernel_rfl
theorem in_row_minus {fd : FuncData} (F : FunD K "row_minus" "row_minus" (L2.defArgs s_row_minus) (L2.defBody s_row_minus) (L2.defScope s_row_minus) [] [] (He.fAd K ("row_minus", none)) fd) (hm : mg "row_minus" = some (.ref (He.ga K "row_minus"))) (hct : PySem.W.codeHdIn K (He.cT K ("row_minus", none)).1 (He.cT K ("row_minus", none)).2 = true) : DefIn pg tab K mg 60 3 "row_minus" 18 ["row", "other"] [] :=
  def_in (N := N_row_minus) (fn := F_row_minus) F hm hct sc_row_minus (by simp) (fun _ _ _ _ _ _ us hl => match us, hl with | [_, _], _ => rfl) (fun ks hks => absurd hks (by simp)) rfl rfl rfl tr_row_minus
theorem sc_zeros : FnScope N_zeros [("many" : Str)] (L2.defScope s_zeros) := ⟨rfl, rfl, rfl, by decide +kernel, by kernel_rfl, by decide +kernel, by decide +kernel⟩
theorem tr_zeros : trSs pg 60 3 N_zeros (L2.defScope s_zeros) (L2.defBody s_zeros) = some F_zeros.body := by kernel_rfl
theorem in_zeros {fd : FuncData} (F : FunD K "zeros" "zeros" (L2.defArgs s_zeros) (L2.defBody s_zeros) (L2.defScope s_zeros) [] [] (He.fAd K ("zeros", none)) fd) (hm : mg "zeros" = some (.ref (He.ga K "zeros"))) (hct : PySem.W.codeHdIn K (He.cT K ("zeros", none)).1 (He.cT K ("zeros", none)).2 = true) : DefIn pg tab K mg 60 3 "zeros" 19 ["many"] [] :=
  def_in (N := N_zeros) (fn := F_zeros) F hm hct sc_zeros (by simp) (fun _ _ _ _ _ _ us hl => match us, hl with | [_], _ => rfl) (fun ks hks => absurd hks (by simp)) rfl rfl rfl tr_zeros
theorem sc_unit : FnScope N_unit [("many" : Str), ("place" : Str)] (L2.defScope s_unit) := ⟨rfl, rfl, rfl, by decide +kernel, by kernel_rfl, by decide +kernel, by decide +kernel⟩
theorem tr_unit : trSs pg 60 3 N_unit (L2.defScope s_unit) (L2.defBody s_unit) = some F_unit.body := by kernel_rfl
theorem in_unit {fd : FuncData} (F : FunD K "unit" "unit" (L2.defArgs s_unit) (L2.defBody s_unit) (L2.defScope s_unit) [] [] (He.fAd K ("unit", none)) fd) (hm : mg "unit" = some (.ref (He.ga K "unit"))) (hct : PySem.W.codeHdIn K (He.cT K ("unit", none)).1 (He.cT K ("unit", none)).2 = true) : DefIn pg tab K mg 60 3 "unit" 20 ["many", "place"] [] :=
  def_in (N := N_unit) (fn := F_unit) F hm hct sc_unit (by simp) (fun _ _ _ _ _ _ us hl => match us, hl with | [_, _], _ => rfl) (fun ks hks => absurd hks (by simp)) rfl rfl rfl tr_unit
theorem sc_net_bound : FnScope N_net_bound [("work" : Str), ("pays" : Str)] (L2.defScope s_net_bound) := ⟨rfl, rfl, rfl, by decide +kernel, by kernel_rfl, by decide +kernel, by decide +kernel⟩
theorem tr_net_bound : trSs pg 60 3 N_net_bound (L2.defScope s_net_bound) (L2.defBody s_net_bound) = some F_net_bound.body := by kernel_rfl
theorem in_net_bound {fd : FuncData} (F : FunD K "net_bound" "net_bound" (L2.defArgs s_net_bound) (L2.defBody s_net_bound) (L2.defScope s_net_bound) [] [] (He.fAd K ("net_bound", none)) fd) (hm : mg "net_bound" = some (.ref (He.ga K "net_bound"))) (hct : PySem.W.codeHdIn K (He.cT K ("net_bound", none)).1 (He.cT K ("net_bound", none)).2 = true) : DefIn pg tab K mg 60 3 "net_bound" 21 ["work", "pays"] [] :=
  def_in (N := N_net_bound) (fn := F_net_bound) F hm hct sc_net_bound (by simp) (fun _ _ _ _ _ _ us hl => match us, hl with | [_, _], _ => rfl) (fun ks hks => absurd hks (by simp)) rfl rfl rfl tr_net_bound
theorem sc_corners : FnScope N_corners [("rests" : Str), ("wages" : Str), ("need" : Str)] (L2.defScope s_corners) := ⟨rfl, rfl, rfl, by decide +kernel, by kernel_rfl, by decide +kernel, by decide +kernel⟩
theorem tr_corners : trSs pg 60 3 N_corners (L2.defScope s_corners) (L2.defBody s_corners) = some F_corners.body := by kernel_rfl
theorem in_corners {fd : FuncData} (F : FunD K "corners" "corners" (L2.defArgs s_corners) (L2.defBody s_corners) (L2.defScope s_corners) [] [] (He.fAd K ("corners", none)) fd) (hm : mg "corners" = some (.ref (He.ga K "corners"))) (hct : PySem.W.codeHdIn K (He.cT K ("corners", none)).1 (He.cT K ("corners", none)).2 = true) : DefIn pg tab K mg 60 3 "corners" 22 ["rests", "wages", "need"] [] :=
  def_in (N := N_corners) (fn := F_corners) F hm hct sc_corners (by simp) (fun _ _ _ _ _ _ us hl => match us, hl with | [_, _, _], _ => rfl) (fun ks hks => absurd hks (by simp)) rfl rfl rfl tr_corners
theorem sc_least_corner : FnScope N_least_corner [("rests" : Str), ("wages" : Str), ("need" : Str)] (L2.defScope s_least_corner) := ⟨rfl, rfl, rfl, by decide +kernel, by kernel_rfl, by decide +kernel, by decide +kernel⟩
theorem tr_least_corner : trSs pg 60 3 N_least_corner (L2.defScope s_least_corner) (L2.defBody s_least_corner) = some F_least_corner.body := by kernel_rfl
theorem in_least_corner {fd : FuncData} (F : FunD K "least_corner" "least_corner" (L2.defArgs s_least_corner) (L2.defBody s_least_corner) (L2.defScope s_least_corner) [] [] (He.fAd K ("least_corner", none)) fd) (hm : mg "least_corner" = some (.ref (He.ga K "least_corner"))) (hct : PySem.W.codeHdIn K (He.cT K ("least_corner", none)).1 (He.cT K ("least_corner", none)).2 = true) : DefIn pg tab K mg 60 3 "least_corner" 23 ["rests", "wages", "need"] [] :=
  def_in (N := N_least_corner) (fn := F_least_corner) F hm hct sc_least_corner (by simp) (fun _ _ _ _ _ _ us hl => match us, hl with | [_, _, _], _ => rfl) (fun ks hks => absurd hks (by simp)) rfl rfl rfl tr_least_corner
theorem sc_corner_chances : FnScope N_corner_chances [("wages" : Str), ("need" : Str), ("high" : Str), ("low" : Str)] (L2.defScope s_corner_chances) := ⟨rfl, rfl, rfl, by decide +kernel, by kernel_rfl, by decide +kernel, by decide +kernel⟩
theorem tr_corner_chances : trSs pg 60 3 N_corner_chances (L2.defScope s_corner_chances) (L2.defBody s_corner_chances) = some F_corner_chances.body := by kernel_rfl
theorem in_corner_chances {fd : FuncData} (F : FunD K "corner_chances" "corner_chances" (L2.defArgs s_corner_chances) (L2.defBody s_corner_chances) (L2.defScope s_corner_chances) [] [] (He.fAd K ("corner_chances", none)) fd) (hm : mg "corner_chances" = some (.ref (He.ga K "corner_chances"))) (hct : PySem.W.codeHdIn K (He.cT K ("corner_chances", none)).1 (He.cT K ("corner_chances", none)).2 = true) : DefIn pg tab K mg 60 3 "corner_chances" 24 ["wages", "need", "high", "low"] [] :=
  def_in (N := N_corner_chances) (fn := F_corner_chances) F hm hct sc_corner_chances (by simp) (fun _ _ _ _ _ _ us hl => match us, hl with | [_, _, _, _], _ => rfl) (fun ks hks => absurd hks (by simp)) rfl rfl rfl tr_corner_chances
theorem sc_slope_at : FnScope N_slope_at [("rests" : Str), ("wages" : Str), ("high" : Str)] (L2.defScope s_slope_at) := ⟨rfl, rfl, rfl, by decide +kernel, by kernel_rfl, by decide +kernel, by decide +kernel⟩
theorem tr_slope_at : trSs pg 60 3 N_slope_at (L2.defScope s_slope_at) (L2.defBody s_slope_at) = some F_slope_at.body := by kernel_rfl
theorem in_slope_at {fd : FuncData} (F : FunD K "slope_at" "slope_at" (L2.defArgs s_slope_at) (L2.defBody s_slope_at) (L2.defScope s_slope_at) [] [] (He.fAd K ("slope_at", none)) fd) (hm : mg "slope_at" = some (.ref (He.ga K "slope_at"))) (hct : PySem.W.codeHdIn K (He.cT K ("slope_at", none)).1 (He.cT K ("slope_at", none)).2 = true) : DefIn pg tab K mg 60 3 "slope_at" 25 ["rests", "wages", "high"] [] :=
  def_in (N := N_slope_at) (fn := F_slope_at) F hm hct sc_slope_at (by simp) (fun _ _ _ _ _ _ us hl => match us, hl with | [_, _, _], _ => rfl) (fun ks hks => absurd hks (by simp)) rfl rfl rfl tr_slope_at
theorem sc_guarantee : FnScope N_guarantee [("work" : Str), ("heights" : Str), ("pays" : Str)] (L2.defScope s_guarantee) := ⟨rfl, rfl, rfl, by decide +kernel, by kernel_rfl, by decide +kernel, by decide +kernel⟩
theorem tr_guarantee : trSs pg 60 3 N_guarantee (L2.defScope s_guarantee) (L2.defBody s_guarantee) = some F_guarantee.body := by kernel_rfl
theorem in_guarantee {fd : FuncData} (F : FunD K "guarantee" "guarantee" (L2.defArgs s_guarantee) (L2.defBody s_guarantee) (L2.defScope s_guarantee) [] [] (He.fAd K ("guarantee", none)) fd) (hm : mg "guarantee" = some (.ref (He.ga K "guarantee"))) (hct : PySem.W.codeHdIn K (He.cT K ("guarantee", none)).1 (He.cT K ("guarantee", none)).2 = true) : DefIn pg tab K mg 60 3 "guarantee" 26 ["work", "heights", "pays"] [["pays", "heights", "work"]] :=
  def_in (N := N_guarantee) (fn := F_guarantee) F hm hct sc_guarantee (by simp) (fun _ _ _ _ _ _ us hl => match us, hl with | [_, _, _], _ => rfl) (fun ks hks => by
    rcases List.mem_singleton.mp hks
    exact fun _ _ _ _ _ _ ws h => match ws, h with | [], h => nomatch (show 0 = 3 from h) | [_], h => nomatch (show 0 = 3 from h) | [_, _], h => nomatch (show 0 = 3 from h) | _ :: _ :: _ :: _, _ => rfl) rfl rfl rfl tr_guarantee
theorem sc_judge_guarantee : FnScope N_judge_guarantee [("work" : Str), ("heights" : Str), ("pays" : Str), ("value" : Str)] (L2.defScope s_judge_guarantee) := ⟨rfl, rfl, rfl, by decide +kernel, by kernel_rfl, by decide +kernel, by decide +kernel⟩
theorem tr_judge_guarantee : trSs pg 60 3 N_judge_guarantee (L2.defScope s_judge_guarantee) (L2.defBody s_judge_guarantee) = some F_judge_guarantee.body := by kernel_rfl
theorem in_judge_guarantee {fd : FuncData} (F : FunD K "judge_guarantee" "judge_guarantee" (L2.defArgs s_judge_guarantee) (L2.defBody s_judge_guarantee) (L2.defScope s_judge_guarantee) [] [] (He.fAd K ("judge_guarantee", none)) fd) (hm : mg "judge_guarantee" = some (.ref (He.ga K "judge_guarantee"))) (hct : PySem.W.codeHdIn K (He.cT K ("judge_guarantee", none)).1 (He.cT K ("judge_guarantee", none)).2 = true) : DefIn pg tab K mg 60 3 "judge_guarantee" 27 ["work", "heights", "pays", "value"] [["value", "pays", "heights", "work"]] :=
  def_in (N := N_judge_guarantee) (fn := F_judge_guarantee) F hm hct sc_judge_guarantee (by simp) (fun _ _ _ _ _ _ us hl => match us, hl with | [_, _, _, _], _ => rfl) (fun ks hks => by
    rcases List.mem_singleton.mp hks
    exact fun _ _ _ _ _ _ ws h => match ws, h with | [], h => nomatch (show 0 = 4 from h) | [_], h => nomatch (show 0 = 4 from h) | [_, _], h => nomatch (show 0 = 4 from h) | [_, _, _], h => nomatch (show 0 = 4 from h) | _ :: _ :: _ :: _ :: _, _ => rfl) rfl rfl rfl tr_judge_guarantee
theorem sc__law_flow : FnScope N__law_flow [("script" : Str)] (L2.defScope s__law_flow) := ⟨rfl, rfl, rfl, by decide +kernel, by kernel_rfl, by decide +kernel, by decide +kernel⟩
theorem tr__law_flow : trSs pg 60 3 N__law_flow (L2.defScope s__law_flow) (L2.defBody s__law_flow) = some F__law_flow.body := by kernel_rfl
theorem in__law_flow {fd : FuncData} (F : FunD K "_law_flow" "_law_flow" (L2.defArgs s__law_flow) (L2.defBody s__law_flow) (L2.defScope s__law_flow) [] [] (He.fAd K ("_law_flow", none)) fd) (hm : mg "_law_flow" = some (.ref (He.ga K "_law_flow"))) (hct : PySem.W.codeHdIn K (He.cT K ("_law_flow", none)).1 (He.cT K ("_law_flow", none)).2 = true) : DefIn pg tab K mg 60 3 "_law_flow" 28 ["script"] [] :=
  def_in (N := N__law_flow) (fn := F__law_flow) F hm hct sc__law_flow (by simp) (fun _ _ _ _ _ _ us hl => match us, hl with | [_], _ => rfl) (fun ks hks => absurd hks (by simp)) rfl rfl rfl tr__law_flow
theorem sc__law_draw : FnScope N__law_draw [("flow" : Str), ("many" : Str)] (L2.defScope s__law_draw) := ⟨rfl, rfl, rfl, by decide +kernel, by kernel_rfl, by decide +kernel, by decide +kernel⟩
theorem tr__law_draw : trSs pg 60 3 N__law_draw (L2.defScope s__law_draw) (L2.defBody s__law_draw) = some F__law_draw.body := by kernel_rfl
theorem in__law_draw {fd : FuncData} (F : FunD K "_law_draw" "_law_draw" (L2.defArgs s__law_draw) (L2.defBody s__law_draw) (L2.defScope s__law_draw) [] [] (He.fAd K ("_law_draw", none)) fd) (hm : mg "_law_draw" = some (.ref (He.ga K "_law_draw"))) (hct : PySem.W.codeHdIn K (He.cT K ("_law_draw", none)).1 (He.cT K ("_law_draw", none)).2 = true) : DefIn pg tab K mg 60 3 "_law_draw" 29 ["flow", "many"] [] :=
  def_in (N := N__law_draw) (fn := F__law_draw) F hm hct sc__law_draw (by simp) (fun _ _ _ _ _ _ us hl => match us, hl with | [_, _], _ => rfl) (fun ks hks => absurd hks (by simp)) rfl rfl rfl tr__law_draw
theorem sc__law_pick : FnScope N__law_pick [("flow" : Str), ("things" : Str)] (L2.defScope s__law_pick) := ⟨rfl, rfl, rfl, by decide +kernel, by kernel_rfl, by decide +kernel, by decide +kernel⟩
theorem tr__law_pick : trSs pg 60 3 N__law_pick (L2.defScope s__law_pick) (L2.defBody s__law_pick) = some F__law_pick.body := by kernel_rfl
theorem in__law_pick {fd : FuncData} (F : FunD K "_law_pick" "_law_pick" (L2.defArgs s__law_pick) (L2.defBody s__law_pick) (L2.defScope s__law_pick) [] [] (He.fAd K ("_law_pick", none)) fd) (hm : mg "_law_pick" = some (.ref (He.ga K "_law_pick"))) (hct : PySem.W.codeHdIn K (He.cT K ("_law_pick", none)).1 (He.cT K ("_law_pick", none)).2 = true) : DefIn pg tab K mg 60 3 "_law_pick" 30 ["flow", "things"] [] :=
  def_in (N := N__law_pick) (fn := F__law_pick) F hm hct sc__law_pick (by simp) (fun _ _ _ _ _ _ us hl => match us, hl with | [_, _], _ => rfl) (fun ks hks => absurd hks (by simp)) rfl rfl rfl tr__law_pick
theorem sc__law_shuffled : FnScope N__law_shuffled [("flow" : Str), ("things" : Str)] (L2.defScope s__law_shuffled) := ⟨rfl, rfl, rfl, by decide +kernel, by kernel_rfl, by decide +kernel, by decide +kernel⟩
theorem tr__law_shuffled : trSs pg 60 3 N__law_shuffled (L2.defScope s__law_shuffled) (L2.defBody s__law_shuffled) = some F__law_shuffled.body := by kernel_rfl
theorem in__law_shuffled {fd : FuncData} (F : FunD K "_law_shuffled" "_law_shuffled" (L2.defArgs s__law_shuffled) (L2.defBody s__law_shuffled) (L2.defScope s__law_shuffled) [] [] (He.fAd K ("_law_shuffled", none)) fd) (hm : mg "_law_shuffled" = some (.ref (He.ga K "_law_shuffled"))) (hct : PySem.W.codeHdIn K (He.cT K ("_law_shuffled", none)).1 (He.cT K ("_law_shuffled", none)).2 = true) : DefIn pg tab K mg 60 3 "_law_shuffled" 31 ["flow", "things"] [] :=
  def_in (N := N__law_shuffled) (fn := F__law_shuffled) F hm hct sc__law_shuffled (by simp) (fun _ _ _ _ _ _ us hl => match us, hl with | [_, _], _ => rfl) (fun ks hks => absurd hks (by simp)) rfl rfl rfl tr__law_shuffled
theorem sc__law_frac : FnScope N__law_frac [("top" : Str), ("bottom" : Str)] (L2.defScope s__law_frac) := ⟨rfl, rfl, rfl, by decide +kernel, by kernel_rfl, by decide +kernel, by decide +kernel⟩
theorem tr__law_frac : trSs pg 60 3 N__law_frac (L2.defScope s__law_frac) (L2.defBody s__law_frac) = some F__law_frac.body := by kernel_rfl
theorem in__law_frac {fd : FuncData} (F : FunD K "_law_frac" "_law_frac" (L2.defArgs s__law_frac) (L2.defBody s__law_frac) (L2.defScope s__law_frac) [] [] (He.fAd K ("_law_frac", none)) fd) (hm : mg "_law_frac" = some (.ref (He.ga K "_law_frac"))) (hct : PySem.W.codeHdIn K (He.cT K ("_law_frac", none)).1 (He.cT K ("_law_frac", none)).2 = true) : DefIn pg tab K mg 60 3 "_law_frac" 32 ["top", "bottom"] [] :=
  def_in (N := N__law_frac) (fn := F__law_frac) F hm hct sc__law_frac (by simp) (fun _ _ _ _ _ _ us hl => match us, hl with | [_, _], _ => rfl) (fun ks hks => absurd hks (by simp)) rfl rfl rfl tr__law_frac
theorem sc__law_plus : FnScope N__law_plus [("x" : Str), ("y" : Str)] (L2.defScope s__law_plus) := ⟨rfl, rfl, rfl, by decide +kernel, by kernel_rfl, by decide +kernel, by decide +kernel⟩
theorem tr__law_plus : trSs pg 60 3 N__law_plus (L2.defScope s__law_plus) (L2.defBody s__law_plus) = some F__law_plus.body := by kernel_rfl
theorem in__law_plus {fd : FuncData} (F : FunD K "_law_plus" "_law_plus" (L2.defArgs s__law_plus) (L2.defBody s__law_plus) (L2.defScope s__law_plus) [] [] (He.fAd K ("_law_plus", none)) fd) (hm : mg "_law_plus" = some (.ref (He.ga K "_law_plus"))) (hct : PySem.W.codeHdIn K (He.cT K ("_law_plus", none)).1 (He.cT K ("_law_plus", none)).2 = true) : DefIn pg tab K mg 60 3 "_law_plus" 33 ["x", "y"] [] :=
  def_in (N := N__law_plus) (fn := F__law_plus) F hm hct sc__law_plus (by simp) (fun _ _ _ _ _ _ us hl => match us, hl with | [_, _], _ => rfl) (fun ks hks => absurd hks (by simp)) rfl rfl rfl tr__law_plus
theorem sc__law_minus : FnScope N__law_minus [("x" : Str), ("y" : Str)] (L2.defScope s__law_minus) := ⟨rfl, rfl, rfl, by decide +kernel, by kernel_rfl, by decide +kernel, by decide +kernel⟩
theorem tr__law_minus : trSs pg 60 3 N__law_minus (L2.defScope s__law_minus) (L2.defBody s__law_minus) = some F__law_minus.body := by kernel_rfl
theorem in__law_minus {fd : FuncData} (F : FunD K "_law_minus" "_law_minus" (L2.defArgs s__law_minus) (L2.defBody s__law_minus) (L2.defScope s__law_minus) [] [] (He.fAd K ("_law_minus", none)) fd) (hm : mg "_law_minus" = some (.ref (He.ga K "_law_minus"))) (hct : PySem.W.codeHdIn K (He.cT K ("_law_minus", none)).1 (He.cT K ("_law_minus", none)).2 = true) : DefIn pg tab K mg 60 3 "_law_minus" 34 ["x", "y"] [] :=
  def_in (N := N__law_minus) (fn := F__law_minus) F hm hct sc__law_minus (by simp) (fun _ _ _ _ _ _ us hl => match us, hl with | [_, _], _ => rfl) (fun ks hks => absurd hks (by simp)) rfl rfl rfl tr__law_minus
theorem sc__law_times : FnScope N__law_times [("x" : Str), ("y" : Str)] (L2.defScope s__law_times) := ⟨rfl, rfl, rfl, by decide +kernel, by kernel_rfl, by decide +kernel, by decide +kernel⟩
theorem tr__law_times : trSs pg 60 3 N__law_times (L2.defScope s__law_times) (L2.defBody s__law_times) = some F__law_times.body := by kernel_rfl
theorem in__law_times {fd : FuncData} (F : FunD K "_law_times" "_law_times" (L2.defArgs s__law_times) (L2.defBody s__law_times) (L2.defScope s__law_times) [] [] (He.fAd K ("_law_times", none)) fd) (hm : mg "_law_times" = some (.ref (He.ga K "_law_times"))) (hct : PySem.W.codeHdIn K (He.cT K ("_law_times", none)).1 (He.cT K ("_law_times", none)).2 = true) : DefIn pg tab K mg 60 3 "_law_times" 35 ["x", "y"] [] :=
  def_in (N := N__law_times) (fn := F__law_times) F hm hct sc__law_times (by simp) (fun _ _ _ _ _ _ us hl => match us, hl with | [_, _], _ => rfl) (fun ks hks => absurd hks (by simp)) rfl rfl rfl tr__law_times
theorem sc__law_less : FnScope N__law_less [("x" : Str), ("y" : Str)] (L2.defScope s__law_less) := ⟨rfl, rfl, rfl, by decide +kernel, by kernel_rfl, by decide +kernel, by decide +kernel⟩
theorem tr__law_less : trSs pg 60 3 N__law_less (L2.defScope s__law_less) (L2.defBody s__law_less) = some F__law_less.body := by kernel_rfl
theorem in__law_less {fd : FuncData} (F : FunD K "_law_less" "_law_less" (L2.defArgs s__law_less) (L2.defBody s__law_less) (L2.defScope s__law_less) [] [] (He.fAd K ("_law_less", none)) fd) (hm : mg "_law_less" = some (.ref (He.ga K "_law_less"))) (hct : PySem.W.codeHdIn K (He.cT K ("_law_less", none)).1 (He.cT K ("_law_less", none)).2 = true) : DefIn pg tab K mg 60 3 "_law_less" 36 ["x", "y"] [] :=
  def_in (N := N__law_less) (fn := F__law_less) F hm hct sc__law_less (by simp) (fun _ _ _ _ _ _ us hl => match us, hl with | [_, _], _ => rfl) (fun ks hks => absurd hks (by simp)) rfl rfl rfl tr__law_less
theorem sc__law_greatest : FnScope N__law_greatest [("some" : Str)] (L2.defScope s__law_greatest) := ⟨rfl, rfl, rfl, by decide +kernel, by kernel_rfl, by decide +kernel, by decide +kernel⟩
theorem tr__law_greatest : trSs pg 60 3 N__law_greatest (L2.defScope s__law_greatest) (L2.defBody s__law_greatest) = some F__law_greatest.body := by kernel_rfl
theorem in__law_greatest {fd : FuncData} (F : FunD K "_law_greatest" "_law_greatest" (L2.defArgs s__law_greatest) (L2.defBody s__law_greatest) (L2.defScope s__law_greatest) [] [] (He.fAd K ("_law_greatest", none)) fd) (hm : mg "_law_greatest" = some (.ref (He.ga K "_law_greatest"))) (hct : PySem.W.codeHdIn K (He.cT K ("_law_greatest", none)).1 (He.cT K ("_law_greatest", none)).2 = true) : DefIn pg tab K mg 60 3 "_law_greatest" 37 ["some"] [] :=
  def_in (N := N__law_greatest) (fn := F__law_greatest) F hm hct sc__law_greatest (by simp) (fun _ _ _ _ _ _ us hl => match us, hl with | [_], _ => rfl) (fun ks hks => absurd hks (by simp)) rfl rfl rfl tr__law_greatest
theorem sc__law_row : FnScope N__law_row [("flow" : Str), ("many" : Str), ("whole" : Str)] (L2.defScope s__law_row) := ⟨rfl, rfl, rfl, by decide +kernel, by kernel_rfl, by decide +kernel, by decide +kernel⟩
theorem tr__law_row : trSs pg 60 3 N__law_row (L2.defScope s__law_row) (L2.defBody s__law_row) = some F__law_row.body := by kernel_rfl
theorem in__law_row {fd : FuncData} (F : FunD K "_law_row" "_law_row" (L2.defArgs s__law_row) (L2.defBody s__law_row) (L2.defScope s__law_row) [] [] (He.fAd K ("_law_row", none)) fd) (hm : mg "_law_row" = some (.ref (He.ga K "_law_row"))) (hct : PySem.W.codeHdIn K (He.cT K ("_law_row", none)).1 (He.cT K ("_law_row", none)).2 = true) : DefIn pg tab K mg 60 3 "_law_row" 38 ["flow", "many", "whole"] [] :=
  def_in (N := N__law_row) (fn := F__law_row) F hm hct sc__law_row (by simp) (fun _ _ _ _ _ _ us hl => match us, hl with | [_, _, _], _ => rfl) (fun ks hks => absurd hks (by simp)) rfl rfl rfl tr__law_row
theorem sc__law_total : FnScope N__law_total [("some" : Str)] (L2.defScope s__law_total) := ⟨rfl, rfl, rfl, by decide +kernel, by kernel_rfl, by decide +kernel, by decide +kernel⟩
theorem tr__law_total : trSs pg 60 3 N__law_total (L2.defScope s__law_total) (L2.defBody s__law_total) = some F__law_total.body := by kernel_rfl
theorem in__law_total {fd : FuncData} (F : FunD K "_law_total" "_law_total" (L2.defArgs s__law_total) (L2.defBody s__law_total) (L2.defScope s__law_total) [] [] (He.fAd K ("_law_total", none)) fd) (hm : mg "_law_total" = some (.ref (He.ga K "_law_total"))) (hct : PySem.W.codeHdIn K (He.cT K ("_law_total", none)).1 (He.cT K ("_law_total", none)).2 = true) : DefIn pg tab K mg 60 3 "_law_total" 39 ["some"] [] :=
  def_in (N := N__law_total) (fn := F__law_total) F hm hct sc__law_total (by simp) (fun _ _ _ _ _ _ us hl => match us, hl with | [_], _ => rfl) (fun ks hks => absurd hks (by simp)) rfl rfl rfl tr__law_total
theorem sc__law_is_whole : FnScope N__law_is_whole [("value" : Str)] (L2.defScope s__law_is_whole) := ⟨rfl, rfl, rfl, by decide +kernel, by kernel_rfl, by decide +kernel, by decide +kernel⟩
theorem tr__law_is_whole : trSs pg 60 3 N__law_is_whole (L2.defScope s__law_is_whole) (L2.defBody s__law_is_whole) = some F__law_is_whole.body := by kernel_rfl
theorem in__law_is_whole {fd : FuncData} (F : FunD K "_law_is_whole" "_law_is_whole" (L2.defArgs s__law_is_whole) (L2.defBody s__law_is_whole) (L2.defScope s__law_is_whole) [] [] (He.fAd K ("_law_is_whole", none)) fd) (hm : mg "_law_is_whole" = some (.ref (He.ga K "_law_is_whole"))) (hct : PySem.W.codeHdIn K (He.cT K ("_law_is_whole", none)).1 (He.cT K ("_law_is_whole", none)).2 = true) : DefIn pg tab K mg 60 3 "_law_is_whole" 40 ["value"] [] :=
  def_in (N := N__law_is_whole) (fn := F__law_is_whole) F hm hct sc__law_is_whole (by simp) (fun _ _ _ _ _ _ us hl => match us, hl with | [_], _ => rfl) (fun ks hks => absurd hks (by simp)) rfl rfl rfl tr__law_is_whole
theorem sc__law_is_fraction : FnScope N__law_is_fraction [("value" : Str)] (L2.defScope s__law_is_fraction) := ⟨rfl, rfl, rfl, by decide +kernel, by kernel_rfl, by decide +kernel, by decide +kernel⟩
theorem tr__law_is_fraction : trSs pg 60 3 N__law_is_fraction (L2.defScope s__law_is_fraction) (L2.defBody s__law_is_fraction) = some F__law_is_fraction.body := by kernel_rfl
theorem in__law_is_fraction {fd : FuncData} (F : FunD K "_law_is_fraction" "_law_is_fraction" (L2.defArgs s__law_is_fraction) (L2.defBody s__law_is_fraction) (L2.defScope s__law_is_fraction) [] [] (He.fAd K ("_law_is_fraction", none)) fd) (hm : mg "_law_is_fraction" = some (.ref (He.ga K "_law_is_fraction"))) (hct : PySem.W.codeHdIn K (He.cT K ("_law_is_fraction", none)).1 (He.cT K ("_law_is_fraction", none)).2 = true) : DefIn pg tab K mg 60 3 "_law_is_fraction" 41 ["value"] [] :=
  def_in (N := N__law_is_fraction) (fn := F__law_is_fraction) F hm hct sc__law_is_fraction (by simp) (fun _ _ _ _ _ _ us hl => match us, hl with | [_], _ => rfl) (fun ks hks => absurd hks (by simp)) rfl rfl rfl tr__law_is_fraction
theorem sc__law_are_rows : FnScope N__law_are_rows [("value" : Str), ("many" : Str), ("long" : Str)] (L2.defScope s__law_are_rows) := ⟨rfl, rfl, rfl, by decide +kernel, by kernel_rfl, by decide +kernel, by decide +kernel⟩
theorem tr__law_are_rows : trSs pg 60 3 N__law_are_rows (L2.defScope s__law_are_rows) (L2.defBody s__law_are_rows) = some F__law_are_rows.body := by kernel_rfl
theorem in__law_are_rows {fd : FuncData} (F : FunD K "_law_are_rows" "_law_are_rows" (L2.defArgs s__law_are_rows) (L2.defBody s__law_are_rows) (L2.defScope s__law_are_rows) [] [] (He.fAd K ("_law_are_rows", none)) fd) (hm : mg "_law_are_rows" = some (.ref (He.ga K "_law_are_rows"))) (hct : PySem.W.codeHdIn K (He.cT K ("_law_are_rows", none)).1 (He.cT K ("_law_are_rows", none)).2 = true) : DefIn pg tab K mg 60 3 "_law_are_rows" 42 ["value", "many", "long"] [] :=
  def_in (N := N__law_are_rows) (fn := F__law_are_rows) F hm hct sc__law_are_rows (by simp) (fun _ _ _ _ _ _ us hl => match us, hl with | [_, _, _], _ => rfl) (fun ks hks => absurd hks (by simp)) rfl rfl rfl tr__law_are_rows
theorem sc__law_is_table : FnScope N__law_is_table [("value" : Str), ("many" : Str), ("long" : Str)] (L2.defScope s__law_is_table) := ⟨rfl, rfl, rfl, by decide +kernel, by kernel_rfl, by decide +kernel, by decide +kernel⟩
theorem tr__law_is_table : trSs pg 60 3 N__law_is_table (L2.defScope s__law_is_table) (L2.defBody s__law_is_table) = some F__law_is_table.body := by kernel_rfl
theorem in__law_is_table {fd : FuncData} (F : FunD K "_law_is_table" "_law_is_table" (L2.defArgs s__law_is_table) (L2.defBody s__law_is_table) (L2.defScope s__law_is_table) [] [] (He.fAd K ("_law_is_table", none)) fd) (hm : mg "_law_is_table" = some (.ref (He.ga K "_law_is_table"))) (hct : PySem.W.codeHdIn K (He.cT K ("_law_is_table", none)).1 (He.cT K ("_law_is_table", none)).2 = true) : DefIn pg tab K mg 60 3 "_law_is_table" 43 ["value", "many", "long"] [] :=
  def_in (N := N__law_is_table) (fn := F__law_is_table) F hm hct sc__law_is_table (by simp) (fun _ _ _ _ _ _ us hl => match us, hl with | [_, _, _], _ => rfl) (fun ks hks => absurd hks (by simp)) rfl rfl rfl tr__law_is_table
theorem sc__law_mean : FnScope N__law_mean [("row" : Str), ("some" : Str)] (L2.defScope s__law_mean) := ⟨rfl, rfl, rfl, by decide +kernel, by kernel_rfl, by decide +kernel, by decide +kernel⟩
theorem tr__law_mean : trSs pg 60 3 N__law_mean (L2.defScope s__law_mean) (L2.defBody s__law_mean) = some F__law_mean.body := by kernel_rfl
theorem in__law_mean {fd : FuncData} (F : FunD K "_law_mean" "_law_mean" (L2.defArgs s__law_mean) (L2.defBody s__law_mean) (L2.defScope s__law_mean) [] [] (He.fAd K ("_law_mean", none)) fd) (hm : mg "_law_mean" = some (.ref (He.ga K "_law_mean"))) (hct : PySem.W.codeHdIn K (He.cT K ("_law_mean", none)).1 (He.cT K ("_law_mean", none)).2 = true) : DefIn pg tab K mg 60 3 "_law_mean" 44 ["row", "some"] [] :=
  def_in (N := N__law_mean) (fn := F__law_mean) F hm hct sc__law_mean (by simp) (fun _ _ _ _ _ _ us hl => match us, hl with | [_, _], _ => rfl) (fun ks hks => absurd hks (by simp)) rfl rfl rfl tr__law_mean
theorem sc__law_numbers : FnScope N__law_numbers [("flow" : Str), ("many" : Str), ("least" : Str)] (L2.defScope s__law_numbers) := ⟨rfl, rfl, rfl, by decide +kernel, by kernel_rfl, by decide +kernel, by decide +kernel⟩
theorem tr__law_numbers : trSs pg 60 3 N__law_numbers (L2.defScope s__law_numbers) (L2.defBody s__law_numbers) = some F__law_numbers.body := by kernel_rfl
theorem in__law_numbers {fd : FuncData} (F : FunD K "_law_numbers" "_law_numbers" (L2.defArgs s__law_numbers) (L2.defBody s__law_numbers) (L2.defScope s__law_numbers) [] [] (He.fAd K ("_law_numbers", none)) fd) (hm : mg "_law_numbers" = some (.ref (He.ga K "_law_numbers"))) (hct : PySem.W.codeHdIn K (He.cT K ("_law_numbers", none)).1 (He.cT K ("_law_numbers", none)).2 = true) : DefIn pg tab K mg 60 3 "_law_numbers" 45 ["flow", "many", "least"] [] :=
  def_in (N := N__law_numbers) (fn := F__law_numbers) F hm hct sc__law_numbers (by simp) (fun _ _ _ _ _ _ us hl => match us, hl with | [_, _, _], _ => rfl) (fun ks hks => absurd hks (by simp)) rfl rfl rfl tr__law_numbers
theorem sc__law_chances : FnScope N__law_chances [("flow" : Str), ("acts" : Str), ("results" : Str)] (L2.defScope s__law_chances) := ⟨rfl, rfl, rfl, by decide +kernel, by kernel_rfl, by decide +kernel, by decide +kernel⟩
theorem tr__law_chances : trSs pg 60 3 N__law_chances (L2.defScope s__law_chances) (L2.defBody s__law_chances) = some F__law_chances.body := by kernel_rfl
theorem in__law_chances {fd : FuncData} (F : FunD K "_law_chances" "_law_chances" (L2.defArgs s__law_chances) (L2.defBody s__law_chances) (L2.defScope s__law_chances) [] [] (He.fAd K ("_law_chances", none)) fd) (hm : mg "_law_chances" = some (.ref (He.ga K "_law_chances"))) (hct : PySem.W.codeHdIn K (He.cT K ("_law_chances", none)).1 (He.cT K ("_law_chances", none)).2 = true) : DefIn pg tab K mg 60 3 "_law_chances" 46 ["flow", "acts", "results"] [] :=
  def_in (N := N__law_chances) (fn := F__law_chances) F hm hct sc__law_chances (by simp) (fun _ _ _ _ _ _ us hl => match us, hl with | [_, _, _], _ => rfl) (fun ks hks => absurd hks (by simp)) rfl rfl rfl tr__law_chances
theorem sc__law_work : FnScope N__law_work [("flow" : Str), ("zero" : Str)] (L2.defScope s__law_work) := ⟨rfl, rfl, rfl, by decide +kernel, by kernel_rfl, by decide +kernel, by decide +kernel⟩
theorem tr__law_work : trSs pg 60 3 N__law_work (L2.defScope s__law_work) (L2.defBody s__law_work) = some F__law_work.body := by kernel_rfl
theorem in__law_work {fd : FuncData} (F : FunD K "_law_work" "_law_work" (L2.defArgs s__law_work) (L2.defBody s__law_work) (L2.defScope s__law_work) [] [] (He.fAd K ("_law_work", none)) fd) (hm : mg "_law_work" = some (.ref (He.ga K "_law_work"))) (hct : PySem.W.codeHdIn K (He.cT K ("_law_work", none)).1 (He.cT K ("_law_work", none)).2 = true) : DefIn pg tab K mg 60 3 "_law_work" 47 ["flow", "zero"] [] :=
  def_in (N := N__law_work) (fn := F__law_work) F hm hct sc__law_work (by simp) (fun _ _ _ _ _ _ us hl => match us, hl with | [_, _], _ => rfl) (fun ks hks => absurd hks (by simp)) rfl rfl rfl tr__law_work
theorem sc__law_bar : FnScope N__law_bar [("work" : Str), ("pays" : Str)] (L2.defScope s__law_bar) := ⟨rfl, rfl, rfl, by decide +kernel, by kernel_rfl, by decide +kernel, by decide +kernel⟩
theorem tr__law_bar : trSs pg 60 3 N__law_bar (L2.defScope s__law_bar) (L2.defBody s__law_bar) = some F__law_bar.body := by kernel_rfl
theorem in__law_bar {fd : FuncData} (F : FunD K "_law_bar" "_law_bar" (L2.defArgs s__law_bar) (L2.defBody s__law_bar) (L2.defScope s__law_bar) [] [] (He.fAd K ("_law_bar", none)) fd) (hm : mg "_law_bar" = some (.ref (He.ga K "_law_bar"))) (hct : PySem.W.codeHdIn K (He.cT K ("_law_bar", none)).1 (He.cT K ("_law_bar", none)).2 = true) : DefIn pg tab K mg 60 3 "_law_bar" 48 ["work", "pays"] [] :=
  def_in (N := N__law_bar) (fn := F__law_bar) F hm hct sc__law_bar (by simp) (fun _ _ _ _ _ _ us hl => match us, hl with | [_, _], _ => rfl) (fun ks hks => absurd hks (by simp)) rfl rfl rfl tr__law_bar
theorem sc__law_is_guarantee : FnScope N__law_is_guarantee [("work" : Str), ("heights" : Str), ("pays" : Str), ("value" : Str)] (L2.defScope s__law_is_guarantee) := ⟨rfl, rfl, rfl, by decide +kernel, by kernel_rfl, by decide +kernel, by decide +kernel⟩
theorem tr__law_is_guarantee : trSs pg 60 3 N__law_is_guarantee (L2.defScope s__law_is_guarantee) (L2.defBody s__law_is_guarantee) = some F__law_is_guarantee.body := by kernel_rfl
theorem in__law_is_guarantee {fd : FuncData} (F : FunD K "_law_is_guarantee" "_law_is_guarantee" (L2.defArgs s__law_is_guarantee) (L2.defBody s__law_is_guarantee) (L2.defScope s__law_is_guarantee) [] [] (He.fAd K ("_law_is_guarantee", none)) fd) (hm : mg "_law_is_guarantee" = some (.ref (He.ga K "_law_is_guarantee"))) (hct : PySem.W.codeHdIn K (He.cT K ("_law_is_guarantee", none)).1 (He.cT K ("_law_is_guarantee", none)).2 = true) : DefIn pg tab K mg 60 3 "_law_is_guarantee" 49 ["work", "heights", "pays", "value"] [] :=
  def_in (N := N__law_is_guarantee) (fn := F__law_is_guarantee) F hm hct sc__law_is_guarantee (by simp) (fun _ _ _ _ _ _ us hl => match us, hl with | [_, _, _, _], _ => rfl) (fun ks hks => absurd hks (by simp)) rfl rfl rfl tr__law_is_guarantee
theorem sc__law_pays : FnScope N__law_pays [("flow" : Str), ("heights" : Str)] (L2.defScope s__law_pays) := ⟨rfl, rfl, rfl, by decide +kernel, by kernel_rfl, by decide +kernel, by decide +kernel⟩
theorem tr__law_pays : trSs pg 60 3 N__law_pays (L2.defScope s__law_pays) (L2.defBody s__law_pays) = some F__law_pays.body := by kernel_rfl
theorem in__law_pays {fd : FuncData} (F : FunD K "_law_pays" "_law_pays" (L2.defArgs s__law_pays) (L2.defBody s__law_pays) (L2.defScope s__law_pays) [] [] (He.fAd K ("_law_pays", none)) fd) (hm : mg "_law_pays" = some (.ref (He.ga K "_law_pays"))) (hct : PySem.W.codeHdIn K (He.cT K ("_law_pays", none)).1 (He.cT K ("_law_pays", none)).2 = true) : DefIn pg tab K mg 60 3 "_law_pays" 50 ["flow", "heights"] [] :=
  def_in (N := N__law_pays) (fn := F__law_pays) F hm hct sc__law_pays (by simp) (fun _ _ _ _ _ _ us hl => match us, hl with | [_, _], _ => rfl) (fun ks hks => absurd hks (by simp)) rfl rfl rfl tr__law_pays
theorem sc__law_changed : FnScope N__law_changed [("flow" : Str), ("value" : Str), ("deep" : Str)] (L2.defScope s__law_changed) := ⟨rfl, rfl, rfl, by decide +kernel, by kernel_rfl, by decide +kernel, by decide +kernel⟩
theorem tr__law_changed : trSs pg 60 3 N__law_changed (L2.defScope s__law_changed) (L2.defBody s__law_changed) = some F__law_changed.body := by kernel_rfl
theorem in__law_changed {fd : FuncData} (F : FunD K "_law_changed" "_law_changed" (L2.defArgs s__law_changed) (L2.defBody s__law_changed) (L2.defScope s__law_changed) [] [] (He.fAd K ("_law_changed", none)) fd) (hm : mg "_law_changed" = some (.ref (He.ga K "_law_changed"))) (hct : PySem.W.codeHdIn K (He.cT K ("_law_changed", none)).1 (He.cT K ("_law_changed", none)).2 = true) : DefIn pg tab K mg 60 3 "_law_changed" 51 ["flow", "value", "deep"] [] :=
  def_in (N := N__law_changed) (fn := F__law_changed) F hm hct sc__law_changed (by simp) (fun _ _ _ _ _ _ us hl => match us, hl with | [_, _, _], _ => rfl) (fun ks hks => absurd hks (by simp)) rfl rfl rfl tr__law_changed
theorem sc_law : FnScope N_law [("script" : Str)] (L2.defScope s_law) := ⟨rfl, rfl, rfl, by decide +kernel, by kernel_rfl, by decide +kernel, by decide +kernel⟩
theorem tr_law : trSs pg 60 3 N_law (L2.defScope s_law) (L2.defBody s_law) = some F_law.body := by kernel_rfl
theorem in_law {fd : FuncData} (F : FunD K "law" "law" (L2.defArgs s_law) (L2.defBody s_law) (L2.defScope s_law) [] [] (He.fAd K ("law", none)) fd) (hm : mg "law" = some (.ref (He.ga K "law"))) (hct : PySem.W.codeHdIn K (He.cT K ("law", none)).1 (He.cT K ("law", none)).2 = true) : DefIn pg tab K mg 60 3 "law" 52 ["script"] [] :=
  def_in (N := N_law) (fn := F_law) F hm hct sc_law (by simp) (fun _ _ _ _ _ _ us hl => match us, hl with | [_], _ => rfl) (fun ks hks => absurd hks (by simp)) rfl rfl rfl tr_law
end
theorem facts {w : World} {K : PySem.W.Frag} {h : Heap} {mg : Str → Option Value} (X : K.In h) (G : h.Ns mainGlobals mg) (c : He.SaysX fa fn [] tf ex w h K) :
    (∀ x ∈ bltN, mg x = none) ∧ (∀ x p, pg.G.lookup x = some p → ∃ u v, mg x = some u ∧ RelV v u ∧ ∀ H al, RP K H al p v) ∧ (∀ x i ps kss, pg.F.lookup x = some (i, ps, kss) → DefIn pg tab K mg 60 3 x i ps kss) := by
  have fac : ∀ f ∈ fa, f.ok K = true := fun f hf => He.SaysD.facts (show He.SaysD fa fn K from congrArg (fun z : He.AlT => z.1) c.t) hf
  have glo : ∀ x, (He.Fa.glo x) ∈ fa → mg x = some (.ref (He.ga K x)) := fun x hx => He.glo_ok X G (fac _ hx)
  have dfs : ∀ d ∈ fn, ∃ fd, FunD K d.name d.qual d.params d.body d.scope (d.dvs K) (d.kws K) (He.fAd K d.at_) fd := fun d hd => He.SaysD.defs (show He.SaysD fa fn K from congrArg (fun z : He.AlT => z.1) c.t) hd
  have hd := c.hd
  refine ⟨?_, ?_, ?_⟩
  · have fre : ∀ x, (He.Fa.free x) ∈ fa → mg x = none := fun x hx => He.free_ok X G (fac _ hx)
    exact List.forall_mem_cons.mpr ⟨fre _ (by simp [fa, fa_0, fa_1, fa_2]), List.forall_mem_cons.mpr ⟨fre _ (by simp [fa, fa_0, fa_1, fa_2]), List.forall_mem_cons.mpr ⟨fre _ (by simp [fa, fa_0, fa_1, fa_2]), List.forall_mem_cons.mpr ⟨fre _ (by simp [fa, fa_0, fa_1, fa_2]), List.forall_mem_cons.mpr ⟨fre _ (by simp [fa, fa_0, fa_1, fa_2]), List.forall_mem_cons.mpr ⟨fre _ (by simp [fa, fa_0, fa_1, fa_2]), List.forall_mem_cons.mpr ⟨fre _ (by simp [fa, fa_0, fa_1, fa_2]), List.forall_mem_cons.mpr ⟨fre _ (by simp [fa, fa_0, fa_1, fa_2]), List.forall_mem_cons.mpr ⟨fre _ (by simp [fa, fa_0, fa_1, fa_2]), List.forall_mem_cons.mpr ⟨fre _ (by simp [fa, fa_0, fa_1, fa_2]), List.forall_mem_cons.mpr ⟨fre _ (by simp [fa, fa_0, fa_1, fa_2]), List.forall_mem_cons.mpr ⟨fre _ (by simp [fa, fa_0, fa_1, fa_2]), List.forall_mem_cons.mpr ⟨fre _ (by simp [fa, fa_0, fa_1, fa_2]), List.forall_mem_cons.mpr ⟨fre _ (by simp [fa, fa_0, fa_1, fa_2]), List.forall_mem_cons.mpr ⟨fre _ (by simp [fa, fa_0, fa_1, fa_2]), List.forall_mem_cons.mpr ⟨fre _ (by simp [fa, fa_0, fa_1, fa_2]), fun _ h => by simp at h⟩⟩⟩⟩⟩⟩⟩⟩⟩⟩⟩⟩⟩⟩⟩⟩
  · have key : ∀ q ∈ pg.G, ∃ u v, mg q.1 = some u ∧ RelV v u ∧ ∀ H al, RP K H al q.2 v := by
      have exs := c.more
      simp only [ex, Bool.and_eq_true] at exs
      have g0 : ∃ u v, mg "ZERO" = some u ∧ RelV v u ∧ ∀ H al, RP K H al (.tup [.int 0, .int 1]) v := by
        refine ⟨_, .ref _, glo "ZERO" (by simp [fa, fa_0, fa_1, fa_2]), rfl, fun H al => ?_⟩
        show RP K H al (.tup _) _
        unfold RP
        exact ⟨_, _, rfl, He.tupB_ok exs.1.2 H, by simp [RPs, RP, He.Dv.v]⟩
      have g1 : ∃ u v, mg "ONE" = some u ∧ RelV v u ∧ ∀ H al, RP K H al (.tup [.int 1, .int 1]) v := by
        refine ⟨_, .ref _, glo "ONE" (by simp [fa, fa_0, fa_1, fa_2]), rfl, fun H al => ?_⟩
        show RP K H al (.tup _) _
        unfold RP
        exact ⟨_, _, rfl, He.tupB_ok exs.2 H, by simp [RPs, RP, He.Dv.v]⟩
      exact List.forall_mem_cons.mpr ⟨g0, List.forall_mem_cons.mpr ⟨g1, fun _ h => by simp at h⟩⟩
    exact fun x p hx => key (x, p) (lookup_in hx)
  · have key : ∀ q ∈ pg.F, DefIn pg tab K mg 60 3 q.1 q.2.1 q.2.2.1 q.2.2.2 := by
      obtain ⟨_, f0⟩ := dfs d_common (by simp [fn, fn_0, fn_1])
      have e0 := in_common f0 (glo "common" (by simp [fa, fa_0, fa_1, fa_2])) (hd ("common", none) (by simp [tf, tf_0, tf_1]))
      obtain ⟨_, f1⟩ := dfs d_ratio (by simp [fn, fn_0, fn_1])
      have e1 := in_ratio f1 (glo "ratio" (by simp [fa, fa_0, fa_1, fa_2])) (hd ("ratio", none) (by simp [tf, tf_0, tf_1]))
      obtain ⟨_, f2⟩ := dfs d_is_number (by simp [fn, fn_0, fn_1])
      have e2 := in_is_number f2 (glo "is_number" (by simp [fa, fa_0, fa_1, fa_2])) (hd ("is_number", none) (by simp [tf, tf_0, tf_1]))
      obtain ⟨_, f3⟩ := dfs d_is_fraction (by simp [fn, fn_0, fn_1])
      have e3 := in_is_fraction f3 (glo "is_fraction" (by simp [fa, fa_0, fa_1, fa_2])) (hd ("is_fraction", none) (by simp [tf, tf_0, tf_1]))
      obtain ⟨_, f4⟩ := dfs d_is_fractions (by simp [fn, fn_0, fn_1])
      have e4 := in_is_fractions f4 (glo "is_fractions" (by simp [fa, fa_0, fa_1, fa_2])) (hd ("is_fractions", none) (by simp [tf, tf_0, tf_1]))
      obtain ⟨_, f5⟩ := dfs d_is_chances (by simp [fn, fn_0, fn_1])
      have e5 := in_is_chances f5 (glo "is_chances" (by simp [fa, fa_0, fa_1, fa_2])) (hd ("is_chances", none) (by simp [tf, tf_0, tf_1]))
      obtain ⟨_, f6⟩ := dfs d_plus (by simp [fn, fn_0, fn_1])
      have e6 := in_plus f6 (glo "plus" (by simp [fa, fa_0, fa_1, fa_2])) (hd ("plus", none) (by simp [tf, tf_0, tf_1]))
      obtain ⟨_, f7⟩ := dfs d_minus (by simp [fn, fn_0, fn_1])
      have e7 := in_minus f7 (glo "minus" (by simp [fa, fa_0, fa_1, fa_2])) (hd ("minus", none) (by simp [tf, tf_0, tf_1]))
      obtain ⟨_, f8⟩ := dfs d_times (by simp [fn, fn_0, fn_1])
      have e8 := in_times f8 (glo "times" (by simp [fa, fa_0, fa_1, fa_2])) (hd ("times", none) (by simp [tf, tf_0, tf_1]))
      obtain ⟨_, f9⟩ := dfs d_less (by simp [fn, fn_0, fn_1])
      have e9 := in_less f9 (glo "less" (by simp [fa, fa_0, fa_1, fa_2])) (hd ("less", none) (by simp [tf, tf_0, tf_1]))
      obtain ⟨_, f10⟩ := dfs d_atmost (by simp [fn, fn_0, fn_1])
      have e10 := in_atmost f10 (glo "atmost" (by simp [fa, fa_0, fa_1, fa_2])) (hd ("atmost", none) (by simp [tf, tf_0, tf_1]))
      obtain ⟨_, f11⟩ := dfs d_alike (by simp [fn, fn_0, fn_1])
      have e11 := in_alike f11 (glo "alike" (by simp [fa, fa_0, fa_1, fa_2])) (hd ("alike", none) (by simp [tf, tf_0, tf_1]))
      obtain ⟨_, f12⟩ := dfs d_greatest_of (by simp [fn, fn_0, fn_1])
      have e12 := in_greatest_of f12 (glo "greatest_of" (by simp [fa, fa_0, fa_1, fa_2])) (hd ("greatest_of", none) (by simp [tf, tf_0, tf_1]))
      obtain ⟨_, f13⟩ := dfs d_bottom_of (by simp [fn, fn_0, fn_1])
      have e13 := in_bottom_of f13 (glo "bottom_of" (by simp [fa, fa_0, fa_1, fa_2])) (hd ("bottom_of", none) (by simp [tf, tf_0, tf_1]))
      obtain ⟨_, f14⟩ := dfs d_tops_over (by simp [fn, fn_0, fn_1])
      have e14 := in_tops_over f14 (glo "tops_over" (by simp [fa, fa_0, fa_1, fa_2])) (hd ("tops_over", none) (by simp [tf, tf_0, tf_1]))
      obtain ⟨_, f15⟩ := dfs d_wholes (by simp [fn, fn_0, fn_1])
      have e15 := in_wholes f15 (glo "wholes" (by simp [fa, fa_0, fa_1, fa_2])) (hd ("wholes", none) (by simp [tf, tf_0, tf_1]))
      obtain ⟨_, f16⟩ := dfs d_raw_dot (by simp [fn, fn_0, fn_1])
      have e16 := in_raw_dot f16 (glo "raw_dot" (by simp [fa, fa_0, fa_1, fa_2])) (hd ("raw_dot", none) (by simp [tf, tf_0, tf_1]))
      obtain ⟨_, f17⟩ := dfs d_dot (by simp [fn, fn_0, fn_1])
      have e17 := in_dot f17 (glo "dot" (by simp [fa, fa_0, fa_1, fa_2])) (hd ("dot", none) (by simp [tf, tf_0, tf_1]))
      obtain ⟨_, f18⟩ := dfs d_row_minus (by simp [fn, fn_0, fn_1])
      have e18 := in_row_minus f18 (glo "row_minus" (by simp [fa, fa_0, fa_1, fa_2])) (hd ("row_minus", none) (by simp [tf, tf_0, tf_1]))
      obtain ⟨_, f19⟩ := dfs d_zeros (by simp [fn, fn_0, fn_1])
      have e19 := in_zeros f19 (glo "zeros" (by simp [fa, fa_0, fa_1, fa_2])) (hd ("zeros", none) (by simp [tf, tf_0, tf_1]))
      obtain ⟨_, f20⟩ := dfs d_unit (by simp [fn, fn_0, fn_1])
      have e20 := in_unit f20 (glo "unit" (by simp [fa, fa_0, fa_1, fa_2])) (hd ("unit", none) (by simp [tf, tf_0, tf_1]))
      obtain ⟨_, f21⟩ := dfs d_net_bound (by simp [fn, fn_0, fn_1])
      have e21 := in_net_bound f21 (glo "net_bound" (by simp [fa, fa_0, fa_1, fa_2])) (hd ("net_bound", none) (by simp [tf, tf_0, tf_1]))
      obtain ⟨_, f22⟩ := dfs d_corners (by simp [fn, fn_0, fn_1])
      have e22 := in_corners f22 (glo "corners" (by simp [fa, fa_0, fa_1, fa_2])) (hd ("corners", none) (by simp [tf, tf_0, tf_1]))
      obtain ⟨_, f23⟩ := dfs d_least_corner (by simp [fn, fn_0, fn_1])
      have e23 := in_least_corner f23 (glo "least_corner" (by simp [fa, fa_0, fa_1, fa_2])) (hd ("least_corner", none) (by simp [tf, tf_0, tf_1]))
      obtain ⟨_, f24⟩ := dfs d_corner_chances (by simp [fn, fn_0, fn_1])
      have e24 := in_corner_chances f24 (glo "corner_chances" (by simp [fa, fa_0, fa_1, fa_2])) (hd ("corner_chances", none) (by simp [tf, tf_0, tf_1]))
      obtain ⟨_, f25⟩ := dfs d_slope_at (by simp [fn, fn_0, fn_1])
      have e25 := in_slope_at f25 (glo "slope_at" (by simp [fa, fa_0, fa_1, fa_2])) (hd ("slope_at", none) (by simp [tf, tf_0, tf_1]))
      obtain ⟨_, f26⟩ := dfs d_guarantee (by simp [fn, fn_0, fn_1])
      have e26 := in_guarantee f26 (glo "guarantee" (by simp [fa, fa_0, fa_1, fa_2])) (hd ("guarantee", none) (by simp [tf, tf_0, tf_1]))
      obtain ⟨_, f27⟩ := dfs d_judge_guarantee (by simp [fn, fn_0, fn_1])
      have e27 := in_judge_guarantee f27 (glo "judge_guarantee" (by simp [fa, fa_0, fa_1, fa_2])) (hd ("judge_guarantee", none) (by simp [tf, tf_0, tf_1]))
      obtain ⟨_, f28⟩ := dfs d__law_flow (by simp [fn, fn_0, fn_1])
      have e28 := in__law_flow f28 (glo "_law_flow" (by simp [fa, fa_0, fa_1, fa_2])) (hd ("_law_flow", none) (by simp [tf, tf_0, tf_1]))
      obtain ⟨_, f29⟩ := dfs d__law_draw (by simp [fn, fn_0, fn_1])
      have e29 := in__law_draw f29 (glo "_law_draw" (by simp [fa, fa_0, fa_1, fa_2])) (hd ("_law_draw", none) (by simp [tf, tf_0, tf_1]))
      obtain ⟨_, f30⟩ := dfs d__law_pick (by simp [fn, fn_0, fn_1])
      have e30 := in__law_pick f30 (glo "_law_pick" (by simp [fa, fa_0, fa_1, fa_2])) (hd ("_law_pick", none) (by simp [tf, tf_0, tf_1]))
      obtain ⟨_, f31⟩ := dfs d__law_shuffled (by simp [fn, fn_0, fn_1])
      have e31 := in__law_shuffled f31 (glo "_law_shuffled" (by simp [fa, fa_0, fa_1, fa_2])) (hd ("_law_shuffled", none) (by simp [tf, tf_0, tf_1]))
      obtain ⟨_, f32⟩ := dfs d__law_frac (by simp [fn, fn_0, fn_1])
      have e32 := in__law_frac f32 (glo "_law_frac" (by simp [fa, fa_0, fa_1, fa_2])) (hd ("_law_frac", none) (by simp [tf, tf_0, tf_1]))
      obtain ⟨_, f33⟩ := dfs d__law_plus (by simp [fn, fn_0, fn_1])
      have e33 := in__law_plus f33 (glo "_law_plus" (by simp [fa, fa_0, fa_1, fa_2])) (hd ("_law_plus", none) (by simp [tf, tf_0, tf_1]))
      obtain ⟨_, f34⟩ := dfs d__law_minus (by simp [fn, fn_0, fn_1])
      have e34 := in__law_minus f34 (glo "_law_minus" (by simp [fa, fa_0, fa_1, fa_2])) (hd ("_law_minus", none) (by simp [tf, tf_0, tf_1]))
      obtain ⟨_, f35⟩ := dfs d__law_times (by simp [fn, fn_0, fn_1])
      have e35 := in__law_times f35 (glo "_law_times" (by simp [fa, fa_0, fa_1, fa_2])) (hd ("_law_times", none) (by simp [tf, tf_0, tf_1]))
      obtain ⟨_, f36⟩ := dfs d__law_less (by simp [fn, fn_0, fn_1])
      have e36 := in__law_less f36 (glo "_law_less" (by simp [fa, fa_0, fa_1, fa_2])) (hd ("_law_less", none) (by simp [tf, tf_0, tf_1]))
      obtain ⟨_, f37⟩ := dfs d__law_greatest (by simp [fn, fn_0, fn_1])
      have e37 := in__law_greatest f37 (glo "_law_greatest" (by simp [fa, fa_0, fa_1, fa_2])) (hd ("_law_greatest", none) (by simp [tf, tf_0, tf_1]))
      obtain ⟨_, f38⟩ := dfs d__law_row (by simp [fn, fn_0, fn_1])
      have e38 := in__law_row f38 (glo "_law_row" (by simp [fa, fa_0, fa_1, fa_2])) (hd ("_law_row", none) (by simp [tf, tf_0, tf_1]))
      obtain ⟨_, f39⟩ := dfs d__law_total (by simp [fn, fn_0, fn_1])
      have e39 := in__law_total f39 (glo "_law_total" (by simp [fa, fa_0, fa_1, fa_2])) (hd ("_law_total", none) (by simp [tf, tf_0, tf_1]))
      obtain ⟨_, f40⟩ := dfs d__law_is_whole (by simp [fn, fn_0, fn_1])
      have e40 := in__law_is_whole f40 (glo "_law_is_whole" (by simp [fa, fa_0, fa_1, fa_2])) (hd ("_law_is_whole", none) (by simp [tf, tf_0, tf_1]))
      obtain ⟨_, f41⟩ := dfs d__law_is_fraction (by simp [fn, fn_0, fn_1])
      have e41 := in__law_is_fraction f41 (glo "_law_is_fraction" (by simp [fa, fa_0, fa_1, fa_2])) (hd ("_law_is_fraction", none) (by simp [tf, tf_0, tf_1]))
      obtain ⟨_, f42⟩ := dfs d__law_are_rows (by simp [fn, fn_0, fn_1])
      have e42 := in__law_are_rows f42 (glo "_law_are_rows" (by simp [fa, fa_0, fa_1, fa_2])) (hd ("_law_are_rows", none) (by simp [tf, tf_0, tf_1]))
      obtain ⟨_, f43⟩ := dfs d__law_is_table (by simp [fn, fn_0, fn_1])
      have e43 := in__law_is_table f43 (glo "_law_is_table" (by simp [fa, fa_0, fa_1, fa_2])) (hd ("_law_is_table", none) (by simp [tf, tf_0, tf_1]))
      obtain ⟨_, f44⟩ := dfs d__law_mean (by simp [fn, fn_0, fn_1])
      have e44 := in__law_mean f44 (glo "_law_mean" (by simp [fa, fa_0, fa_1, fa_2])) (hd ("_law_mean", none) (by simp [tf, tf_0, tf_1]))
      obtain ⟨_, f45⟩ := dfs d__law_numbers (by simp [fn, fn_0, fn_1])
      have e45 := in__law_numbers f45 (glo "_law_numbers" (by simp [fa, fa_0, fa_1, fa_2])) (hd ("_law_numbers", none) (by simp [tf, tf_0, tf_1]))
      obtain ⟨_, f46⟩ := dfs d__law_chances (by simp [fn, fn_0, fn_1])
      have e46 := in__law_chances f46 (glo "_law_chances" (by simp [fa, fa_0, fa_1, fa_2])) (hd ("_law_chances", none) (by simp [tf, tf_0, tf_1]))
      obtain ⟨_, f47⟩ := dfs d__law_work (by simp [fn, fn_0, fn_1])
      have e47 := in__law_work f47 (glo "_law_work" (by simp [fa, fa_0, fa_1, fa_2])) (hd ("_law_work", none) (by simp [tf, tf_0, tf_1]))
      obtain ⟨_, f48⟩ := dfs d__law_bar (by simp [fn, fn_0, fn_1])
      have e48 := in__law_bar f48 (glo "_law_bar" (by simp [fa, fa_0, fa_1, fa_2])) (hd ("_law_bar", none) (by simp [tf, tf_0, tf_1]))
      obtain ⟨_, f49⟩ := dfs d__law_is_guarantee (by simp [fn, fn_0, fn_1])
      have e49 := in__law_is_guarantee f49 (glo "_law_is_guarantee" (by simp [fa, fa_0, fa_1, fa_2])) (hd ("_law_is_guarantee", none) (by simp [tf, tf_0, tf_1]))
      obtain ⟨_, f50⟩ := dfs d__law_pays (by simp [fn, fn_0, fn_1])
      have e50 := in__law_pays f50 (glo "_law_pays" (by simp [fa, fa_0, fa_1, fa_2])) (hd ("_law_pays", none) (by simp [tf, tf_0, tf_1]))
      obtain ⟨_, f51⟩ := dfs d__law_changed (by simp [fn, fn_0, fn_1])
      have e51 := in__law_changed f51 (glo "_law_changed" (by simp [fa, fa_0, fa_1, fa_2])) (hd ("_law_changed", none) (by simp [tf, tf_0, tf_1]))
      obtain ⟨_, f52⟩ := dfs d_law (by simp [fn, fn_0, fn_1])
      have e52 := in_law f52 (glo "law" (by simp [fa, fa_0, fa_1, fa_2])) (hd ("law", none) (by simp [tf, tf_0, tf_1]))
      exact List.forall_mem_cons.mpr ⟨e0, List.forall_mem_cons.mpr ⟨e1, List.forall_mem_cons.mpr ⟨e2, List.forall_mem_cons.mpr ⟨e3, List.forall_mem_cons.mpr ⟨e4, List.forall_mem_cons.mpr ⟨e5, List.forall_mem_cons.mpr ⟨e6, List.forall_mem_cons.mpr ⟨e7, List.forall_mem_cons.mpr ⟨e8, List.forall_mem_cons.mpr ⟨e9, List.forall_mem_cons.mpr ⟨e10, List.forall_mem_cons.mpr ⟨e11, List.forall_mem_cons.mpr ⟨e12, List.forall_mem_cons.mpr ⟨e13, List.forall_mem_cons.mpr ⟨e14, List.forall_mem_cons.mpr ⟨e15, List.forall_mem_cons.mpr ⟨e16, List.forall_mem_cons.mpr ⟨e17, List.forall_mem_cons.mpr ⟨e18, List.forall_mem_cons.mpr ⟨e19, List.forall_mem_cons.mpr ⟨e20, List.forall_mem_cons.mpr ⟨e21, List.forall_mem_cons.mpr ⟨e22, List.forall_mem_cons.mpr ⟨e23, List.forall_mem_cons.mpr ⟨e24, List.forall_mem_cons.mpr ⟨e25, List.forall_mem_cons.mpr ⟨e26, List.forall_mem_cons.mpr ⟨e27, List.forall_mem_cons.mpr ⟨e28, List.forall_mem_cons.mpr ⟨e29, List.forall_mem_cons.mpr ⟨e30, List.forall_mem_cons.mpr ⟨e31, List.forall_mem_cons.mpr ⟨e32, List.forall_mem_cons.mpr ⟨e33, List.forall_mem_cons.mpr ⟨e34, List.forall_mem_cons.mpr ⟨e35, List.forall_mem_cons.mpr ⟨e36, List.forall_mem_cons.mpr ⟨e37, List.forall_mem_cons.mpr ⟨e38, List.forall_mem_cons.mpr ⟨e39, List.forall_mem_cons.mpr ⟨e40, List.forall_mem_cons.mpr ⟨e41, List.forall_mem_cons.mpr ⟨e42, List.forall_mem_cons.mpr ⟨e43, List.forall_mem_cons.mpr ⟨e44, List.forall_mem_cons.mpr ⟨e45, List.forall_mem_cons.mpr ⟨e46, List.forall_mem_cons.mpr ⟨e47, List.forall_mem_cons.mpr ⟨e48, List.forall_mem_cons.mpr ⟨e49, List.forall_mem_cons.mpr ⟨e50, List.forall_mem_cons.mpr ⟨e51, List.forall_mem_cons.mpr ⟨e52, fun _ h => by simp at h⟩⟩⟩⟩⟩⟩⟩⟩⟩⟩⟩⟩⟩⟩⟩⟩⟩⟩⟩⟩⟩⟩⟩⟩⟩⟩⟩⟩⟩⟩⟩⟩⟩⟩⟩⟩⟩⟩⟩⟩⟩⟩⟩⟩⟩⟩⟩⟩⟩⟩⟩⟩⟩
    exact fun x i ps kss hx => key (x, (i, ps, kss)) (lookup_in hx)
end K30
end

section
open PySem PySem.W PySem.Calls PyProof.Rows
set_option maxRecDepth 100000 in
set_option maxHeartbeats 0 in
theorem PySem.Challenge.cw_gladlydone_k30_guarantees_holds : PySem.Challenge.rw_gladlydone_k30_guarantees.Holds := by
  w_on; o_law
  refine HandSHeadRun.head_any (r := OpenLaw.row PySem.Challenge.rw_gladlydone_k30_guarantees) (q := view (OpenLaw.row PySem.Challenge.rw_gladlydone_k30_guarantees).prog [57]) (H := K30.hk) (ob := K30.ob) (M := 4000) (loose := K30.loose) (d := HandSHeadRun.topDef (OpenLaw.row PySem.Challenge.rw_gladlydone_k30_guarantees).prog 57) (kwd := []) K30.ob_eq
    (by kernel_rfl) (fun s => by kernel_rfl) K30.run (by kernel_rfl) (by kernel_rfl) (by kernel_rfl) (by rfl) (by first | assumption | decide +kernel) (by decide +kernel) ⟨rfl, rfl, rfl, rfl, rfl, by decide +kernel⟩ ?hw ?hc
  case hw => w_witness2
  case hc =>
    refine LamX.walk_ofTsE (l := PySem.Challenge.rw_gladlydone_k30_guarantees) (n := 63) (k := 48) (x := "script") (CX := fun _ => IX.CXF) rfl (by decide) (by kernel_rfl) ⟨rfl, by decide, by decide⟩ ?F (fun _ _ _ _ _ z => z)
    intro w mg fa h Y G hmg0
    obtain ⟨K, KX, c⟩ := Y
    have hmg : mg ("law" : PySem.Str) = some (.ref fa) := by
      have e : (HandSHeadRun.topDef (OpenLaw.row PySem.Challenge.rw_gladlydone_k30_guarantees).prog 57).name = ("law" : PySem.Str) := by kernel_rfl
      rw [← e]
      exact hmg0
    obtain ⟨f1, f2, f3⟩ := K30.facts KX G c
    exact ⟨K, KX, IX.law_at (kss := []) (k := 12) (L := K30.loops) KX c (by have z := c.more; simp only [K30.ex, Bool.and_eq_true] at z; exact z.1.1) hmg (by simp [K30.tf, K30.tf_0, K30.tf_1]) f1 f2 f3 (by kernel_rfl) K30.plain⟩
end
