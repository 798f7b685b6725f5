import PyProof.Rows.All
import Wide.All
import OpenK.AllK
import Wide.FinOn
import HandS.ForMost
import HandS.GenList
import HandS.AnyAll
import KE.GoesMore
import KE.GoesEnum
import KE.DataMinMax
import KE.KTupSum
import HandS.Iter
import KE.DataAny
import HandS.Deep
import HandS.More
import KE.DataFind
import HandS.TupMul
import PyProof.Lay0
import PyProof.P3Statements
import KE.KNestM
import HandS.TupAny
import HandS.Wide
import HandS.Zip
import HandS.IsInst
import HandS.Style
import HandS.Comp
import HandS.EndTab
import HandS.Conv
import HandS.Dict
import HandS.Words
import HandS.Defaults
import HandS.ExcOwn
import HandS.ExcField
import HandS.TryOnly
import HandS.RaiseMore
import HandS.HeadHook1
import HandS.HeadEnd
import HandS.HeadHook2
import HandS.HeadHook3
import HandS.HeadHook4
import HandS.HeadWalk
import HandS.Head0
import HandS.Head1
import HandS.Head2
import HandS.ExcInit
import HandS.FStr
import HandS.Nested
import HandS.ClsMeth
import HandS.WordsExc
import KE.KExcSuper
import PySem.Challenge.RW_gladlydone_k67_made_works
set_option Elab.async false
set_option autoImplicit false
set_option linter.all false
set_option exponentiation.threshold 100000

section
set_option Elab.async false
set_option linter.all false
set_option maxRecDepth 100000
set_option maxHeartbeats 4000000
namespace GX
open PySem PySem.Spec PyProof.Rows L2 GenW

/-- while the generator sleeps its consumer changes the objects at Sa alone -/
structure Slp (Own : List V → List (Addr × Obj) → Prop) (Sa : List Addr) (ys : List V) (s s' : Shared) : Prop where
  os : s'.os = s.os
  bare : AllBare s'.gens
  keep : ∀ b o, b ∉ Sa → s.heap.get? b = some o → s'.heap.get? b = some o
  own : ∃ pl, Own ys pl ∧ pl.map (·.1) = Sa ∧ ∀ p ∈ pl, s'.heap.get? p.1 = some p.2 ∧ ∀ v, p.2.data ≠ .cell v

theorem woken {X : Cx} {Own : List V → List (Addr × Obj) → Prop} {Sa : List Addr} {ys : List V} {pl : List (Addr × Obj)} {σ : L2.St} {H : Hp} {s s' : Shared}
    (hpn : ∀ b ∈ Sa, ∀ p ∈ X.pn, p.1 ≠ b) (hA : ∀ b ∈ Sa, Apart X b) (hpl : pl.map (·.1) = Sa) (I : Inv X pl σ H s) (z : Slp Own Sa ys s s') :
    ∃ pl', Own ys pl' ∧ pl'.map (·.1) = Sa ∧ Inv X pl' σ H s' := by
  obtain ⟨z1, z2, z3, pl', z4, z5, z6⟩ := z
  have mem : ∀ b ∈ Sa, ∃ o, (b, o) ∈ pl := fun b hb => by
    rw [← hpl] at hb
    obtain ⟨p, hp, e⟩ := List.mem_map.mp hb
    exact ⟨p.2, by rw [← e]; exact hp⟩
  have at_ : ∀ b ∈ Sa, H b = none ∧ b ≠ X.env.locals ∧ b ∉ X.fs := fun b hb => by
    obtain ⟨o, hm⟩ := mem b hb
    obtain ⟨_, h2, h3, h4, _⟩ := I.pin (b, o) (List.mem_append_right _ hm)
    exact ⟨h2, h3, h4⟩
  have nt : ∀ b u, H b = some u → b ∉ Sa := fun b u q hb => by rw [(at_ b hb).1] at q; cases q
  have I0 : Inv X [] σ H s := I.pins_of fun p hp => absurd hp (by simp)
  obtain ⟨hh, g, d, t, o⟩ := s'
  have ho : o = s.os := z1
  subst ho
  have J : Inv X [] σ H { s with heap := hh, gens := g, drawn := d, toks := t } := by
    refine I0.step (g' := g) (t' := t) (d' := d) (ch := Sa) (fun b hb => ?_)
      (fun b ob _ _ hc q _ => z3 b ob hc q) (fun b ob _ _ hc q _ => ⟨ob.slots, z3 b ob hc q⟩) (fun _ _ _ _ n => n) (fun b ob hc q => ⟨ob, z3 b ob hc q⟩)
      (fun _ _ q => q) (fun _ _ _ q => q) (fun b ps q => ⟨#[], by rw [q]; simp⟩) (fun m hm => ?_) (fun b u q => ?_) z2
    · refine ⟨.inr (hA b hb).1, (hA b hb).2.1, (hA b hb).2.2, fun p hp => ?_⟩
      rcases List.mem_append.mp hp with hp | hp
      · exact hpn b hb p hp
      · exact absurd hp (by simp)
    · obtain ⟨ob, es, ep, ho, r⟩ := hm
      exact ⟨ob, es, ep, z3 _ ob (fun hb => (at_ _ hb).2.1 rfl) ho, r⟩
    · refine (I0.hok b u q).stay (fun c v hc y => z3 c v ?_ y) (fun _ y => y) fun _ _ y => y
      rcases hc with y | y
      · rw [y]; exact nt b u q
      · exact nt c _ y
  refine ⟨pl', z4, z5, J.pins_of fun p hp => ?_⟩
  have hb : p.1 ∈ Sa := by rw [← z5]; exact List.mem_map.mpr ⟨p, hp, rfl⟩
  obtain ⟨h1, h2, h3⟩ := at_ p.1 hb
  exact ⟨(z6 p hp).1, h1, h2, h3, (z6 p hp).2⟩

/-- a consumer: what its objects are behind ys, whether it goes on -/
structure Con where
  Sa : List Addr
  Own : List V → List (Addr × Obj) → Prop
  Yl : List V → Hp → Prop
  Go : List V → Prop
  Dn : List V → Hp → Prop

def CY (X : Cx) (C : Con) (a : Addr) (g : Nat) : Protocol := fun n s₀ v s kap =>
  ∃ ys x pl σ H, 1 ≤ n ∧ n + 1 + ys.length = sizeLine ∧ RelV x v ∧ (∀ p ∈ pl, s₀.heap.get? p.1 = some p.2) ∧ C.Own ys pl ∧ pl.map (·.1) = C.Sa ∧ Inv X pl σ H s ∧ s.heap.IsGen a g ∧ C.Yl (ys ++ [x]) H ∧ (C.Go (ys ++ [x]) → ∀ s', Slp C.Own C.Sa (ys ++ [x]) s s' → kap (.send .none) s')
def CF (X : Cx) (C : Con) (n : Nat) (s₀ s : Shared) : Prop := ∃ ys pl σ H, n + ys.length = sizeLine ∧ (∀ p ∈ pl, s₀.heap.get? p.1 = some p.2) ∧ C.Own ys pl ∧ pl.map (·.1) = C.Sa ∧ Inv X pl σ H s ∧ C.Dn ys H
def CR (X : Cx) (C : Con) : GenEnd := fun n s₀ r s => ((r = .ok (.ret .none) ∨ r = .ok .next) ∧ CF X C n s₀ s) ∨ ∃ e, r = .error e ∧ (fun (_ : Value) (_ : Shared) => False) e s

/-- the reading of a generator's turns -/
def tGenL (C : Con) (J : It) (g : TG) (tt : TT) (te : TE) (vs : List Nat) (σw : L2.St) (W : Nat → Nat → List V → Hp → Prop) : Prop :=
  ∀ i m ys H, W i m ys H → (J.stop i H ∧ C.Dn ys H) ∨ (J.go i H ∧ ∃ Nx : List V → Hp → Prop, (∀ ys' H', Nx ys' H' → ∃ m', m' < m ∧ W (i + 1) m' ys' H') ∧
    ∀ x H', J.yld i H x H' → g x σw H' fun σ2 H2 => wipe σ2 vs = σw ∧ tt σ2 H2 fun b H3 =>
      if b = true then te σ2 H3 fun y H4 => ys.length + 1 < sizeLine ∧ C.Yl (ys ++ [y]) H4 ∧ (C.Go (ys ++ [y]) → Nx (ys ++ [y]) H4) else Nx ys H3)

theorem gen_over {A : Around} {elt tg iter : Expr} {ifs : List Expr} {scope : Scope} {pos : Pos} {it acc : Value} {env : Env} :
    A.over (.compLoop (.GeneratorExp elt [⟨tg, iter, ifs, 0⟩] scope pos) 0 it acc env) [] = A.deeper env := by
  first
    | rfl
    | (obtain ⟨hd, d, fr, gs, u⟩ := A; simp [Around.over, Around.deeper, marksOver, frameCount, unitsOf, envsOf, guardsOf, pushEnvs, pushGuards, Code.envs, Code.env?, Code.isFrame, Code.guards, Code.isGuard, Code.weight, Code.frames, Code.isCreation, Code.isCaller, Code.cUnits])
theorem gen_over0 {A : Around} {elt tg iter : Expr} {ifs : List Expr} {scope : Scope} {pos : Pos} {it acc : Value} {env : Env} :
    A.over (.compStart (.GeneratorExp elt [⟨tg, iter, ifs, 0⟩] scope pos) 0 it acc env) [] = A.deeper env := by
  first
    | rfl
    | (obtain ⟨hd, d, fr, gs, u⟩ := A; simp [Around.over, Around.deeper, marksOver, frameCount, unitsOf, envsOf, guardsOf, pushEnvs, pushGuards, Code.envs, Code.env?, Code.isFrame, Code.guards, Code.isGuard, Code.weight, Code.frames, Code.isCreation, Code.isCaller, Code.cUnits])

section
variable {X : Cx} {C : Con} {a : Addr} {gn : Nat} {A : Around} {elt tg iter : Expr} {ifs : List Expr} {scope : Scope} {pos : Pos} {it : Addr} {fp : List Addr} {tn : Nat → Heap → Prop} {J : It} {g : TG} {tt : TT} {te : TE} {vs : List Nat} {σw : L2.St}

theorem seg_loop (hc : X.calm = true) (T : Turn X.prog X.w X.K tg J fp it tn) (pg : PG X tg g) (pt : PTs X ifs tt) (pe : PE X elt te) (hco : X.env.scope.isCoroutine = false)
    (hxe : X.xe = fun _ _ => False) (hex : X.ex = fp) (hA : A.deeper X.env = X.A) (hag : ∃ go, (a, go) ∈ X.pn ∧ (∀ h : Heap, h.get? a = some go → h.IsGen a gn))
    (hSa : ∀ b ∈ C.Sa, Apart X b ∧ (∀ p ∈ X.pn, p.1 ≠ b) ∧ b ∉ fp) (hpf : ∀ p ∈ X.pn, p.1 ∉ fp) {W : Nat → Nat → List V → Hp → Prop} (turn : tGenL C J g tt te vs σw W) (hvs : wipe σw vs = σw) :
    ∀ (m i n : Nat) (ys : List V) (s₀ s : Shared) (H : Hp) (pl : List (Addr × Obj)), n + ys.length = sizeLine → W i m ys H → (∀ p ∈ pl, s₀.heap.get? p.1 = some p.2) → C.Own ys pl → pl.map (·.1) = C.Sa → Inv X pl σw H s → tn i s.heap → (∀ b ∈ fp, H b = none) →
      Seg (model X.prog X.w) A (CR X C) (CY X C a gn) n s₀ (.compLoop (.GeneratorExp elt [⟨tg, iter, ifs, 0⟩] scope pos) 0 (.ref it) .none X.env)
        ((model X.prog X.w).den (.compLoop (.GeneratorExp elt [⟨tg, iter, ifs, 0⟩] scope pos) 0 (.ref it) .none X.env)) [] s := by
  have stat : ∀ {pl : List (Addr × Obj)} {σ' : L2.St} {H' : Hp} {s' : Shared}, pl.map (·.1) = C.Sa → Inv X pl σ' H' s' → (∀ b ∈ fp, H' b = none) → ∀ b ∈ fp, FpOk X pl H' b := fun {pl σ' H' s'} hpl I' hn b hb => by
    have hb' : b ∈ X.ex := by rw [hex]; exact hb
    refine ⟨hn b hb, (I'.ok.exf b hb').1, I'.ok.exfs b hb', .inl hb', fun x c e => (I'.ok.exf b hb').2 x c e, fun p hp e => ?_⟩
    rcases List.mem_append.mp hp with hp | hp
    · exact hpf p hp (by rw [e]; exact hb)
    · exact (hSa p.1 (by rw [← hpl]; exact List.mem_map.mpr ⟨p, hp, rfl⟩)).2.2 (by rw [e]; exact hb)
  intro m
  induction m using Nat.strongRecOn with
  | ind m ih =>
    intro i n ys s₀ s H pl hn hw h0 hown hpl I st hfp
    show Seg _ A _ _ _ s₀ _ ((compTurn (.GeneratorExp elt [⟨tg, iter, ifs, 0⟩] scope pos) 0 (.ref it) .none X.env).onRaise (leaving X.env)) [] s
    rw [compTurn_gen, Sem.onRaise_eq_wrap]
    refine seg_bind_wrap (wpAny_standAt ?_)
    rcases turn i m ys H hw with ⟨stop, dn⟩ | ⟨go, Nx, hNx, step⟩
    · have td := T.done X rfl rfl rfl hc i pl s σw H (fun _ _ => False) I (stat hpl I hfp) st stop
      refine seg_bind_wrap ?_
      rw [gen_over, hA]
      refine thnF td fun r s1 ⟨hr, I1⟩ => ?_
      subst hr
      exact seg_end (.ok .next) (.inl ⟨.inr rfl, ys, pl, σw, H, hn, h0, hown, hpl, I1, dn⟩)
    · have ti := T.item X rfl rfl rfl hc i pl s σw H (fun _ _ => False) I (stat hpl I hfp) st go
      refine seg_bind_wrap ?_
      rw [gen_over, hA]
      refine thnF ti fun r s1 ⟨u, hr, h1⟩ => ?_
      subst hr
      refine seg_bind_wrap ?_
      rw [gen_over, hA]
      refine thnF h1 fun _ s2 ⟨x, H2, I2, r2, y2, st2, n2⟩ => ?_
      have I2' := I2.pinned (stat hpl I2 n2) (T.obj _ _ st2)
      refine seg_bind_wrap ?_
      rw [gen_over, hA]
      have hrun := pg.run _ s2 _ H2 x u _ I2' r2 (step x H2 y2)
      rw [hxe] at hrun
      refine thnF hrun fun _ s3 ⟨σ3, H3, I3, hw3, q3⟩ => ?_
      refine seg_bind_wrap ?_
      rw [gen_over, hA]
      have hrun2 := pt.run _ s3 σ3 H3 _ I3 q3
      rw [hxe] at hrun2
      refine thnF hrun2 fun b s4 ⟨H4, I4, q4⟩ => ?_
      -- the turn's end
      have hl3 : σw.length = σ3.length := by rw [← hw3, wipe_length]
      have back : ∀ {pl' : List (Addr × Obj)} {s' : Shared} {H' : Hp}, Inv X pl' σ3 H' s' → Inv X pl' σw H' s' := fun {pl' s' H'} I' => I'.weak hl3 fun j v e => by
        rw [← hw3] at e
        exact (wipe_some e).1
      have pin' : ∀ {s' : Shared} {H' : Hp}, Inv X (pl ++ pinsAt fp s2.heap) σ3 H' s' → ∀ b ∈ fp, ∀ o, s2.heap.get? b = some o → s'.heap.get? b = some o ∧ H' b = none := fun {s' H'} I' b hb o e =>
        let z := I'.pin (b, o) (List.mem_append_right _ (List.mem_append_right _ (mem_pinsAt hb e)))
        ⟨z.1, z.2.1⟩
      have fpn : ∀ {s' : Shared} {H' : Hp}, Inv X (pl ++ pinsAt fp s2.heap) σ3 H' s' → ∀ b ∈ fp, H' b = none := fun {s' H'} I' b hb => by
        obtain ⟨o, e, _⟩ := T.obj _ _ st2 b hb
        exact (pin' I' b hb o e).2
      cases b with
      | false =>
        simp only [Bool.false_eq_true, if_false] at q4 ⊢
        obtain ⟨m', hm, w'⟩ := hNx ys H4 q4
        exact seg_again rfl (ih m' hm (i + 1) n ys s₀ s4 H4 pl hn w' h0 hown hpl (back I4).unpinned (T.keep _ _ _ st2 fun b hb o e => (pin' I4 b hb o e).1) (fpn I4))
      | true =>
        simp only [if_true] at q4 ⊢
        have hy : ∀ v, yieldOut X.env v = yieldValue v := fun v => by simp only [yieldOut, hco, Bool.false_eq_true, if_false]
        simp only [hy]
        rw [Sem.bind_eq_wrap', Sem.bind_eq_wrap', Sem.wrap_wrap, Sem.wrap_wrap]
        refine seg_wrap ?_
        rw [gen_over, hA]
        have hrun3 := pe.run _ s4 σ3 H4 _ I4 q4
        rw [hxe] at hrun3
        refine thnF hrun3 fun v s5 ⟨y, H5, I5, r5, hlt, yl, cont⟩ => ?_
        obtain ⟨n, rfl⟩ : ∃ k, n = k + 1 := ⟨n - 1, by omega⟩
        have hgen : s5.heap.IsGen a gn := by
          obtain ⟨go, hm, hg⟩ := hag
          exact hg _ (I5.pin (a, go) (List.mem_append_left _ hm)).1
        refine seg_at (seg_yield rfl rfl rfl ⟨ys, y, pl, σ3, H5, by omega, hn, r5, h0, hown, hpl, I5.unpinned, hgen, yl, fun hgo s6 z => ?_⟩)
        obtain ⟨pl', o6, e6, I6⟩ := woken (fun b hb => (hSa b hb).2.1) (fun b hb => (hSa b hb).1) hpl I5.unpinned z
        obtain ⟨m', hm, w'⟩ := hNx (ys ++ [y]) H5 (cont hgo)
        refine seg_again rfl (ih m' hm (i + 1) n (ys ++ [y]) s6 s6 H5 pl' ?_ w' (fun p hp => (I6.pin p (List.mem_append_right _ hp)).1) o6 e6 (back I6) (T.keep _ _ _ st2 fun b hb o e => z.keep b o (fun hz => (hSa b hz).2.2 hb) (pin' I5 b hb o e).1) (fpn I5))
        rw [List.length_append, List.length_singleton]; omega
end
end GX
end

section
set_option Elab.async false
set_option linter.all false
set_option maxRecDepth 100000
set_option maxHeartbeats 4000000
namespace GX
open PySem PySem.Spec PyProof.Rows L2 GenW

abbrev gEnv (scope : Scope) (cells : List (Str × Addr)) (L : Addr) (code : Value) (bi : Addr) (env : Env) : Env :=
  newEnv scope L env.globals cells (env.qual ++ "<genexpr>.") none code none bi

theorem newEnv_gen {M : Model} {A : Around} {E : Value → Shared → Prop} {s : Shared} {scope : Scope} {closure : List (Str × Addr)} {env : Env} {code itv : Value} {bi : Addr} {Q : Env → Shared → Prop}
    (hk : scope.kind = .function) (h0 : scope.names.lookup (".0" : Str) = some NameKind.local)
    (h : ∀ h' tk, (∃ m, h'.Ns s.heap.objs.size m) → Heap.SameBut s.heap.objs.size (pushCells (s.heap.push { cls := .type "frame", data := .dict #[] }) scope.names) h' →
      Q (gEnv scope (cellsFrom (s.heap.objs.size + 1) scope.names closure) s.heap.objs.size code bi env) { s with heap := h', toks := tk }) :
    wpAny M A (newFunctionEnv scope env.globals closure [(".0", itv)] (env.qual ++ "<genexpr>.") none code none bi) Q E s := by
  simp only [newFunctionEnv, Option.isSome_none, Bool.false_eq_true, if_false]
  refine wpAny_bind (wpAny_alloc ?_)
  refine wpAny_bind (wpAny_layCells _ (fun name kind cells => by cases hkc : kind == NameKind.cell <;> simp [hkc]) _ _ _ _ ?_)
  rw [show ({ s with heap := s.heap.push { cls := .type "frame", data := .dict #[] } } : Shared).heap.objs.size = s.heap.objs.size + 1 from Heap.size_push ..]
  rw [List.forIn_cons]
  refine wpAny_bind (wpAny_bind (wpAny_bind (wpAny_storeName_local (m := fun _ => none) h0 ((Heap.Ns.new s.heap (.type "frame")).keeps (pushCells_keeps _ _)) (fun h' hn hs => ?_) (by rw [hk]; rfl))))
  refine wpAny_pure ?_
  simp only [List.forIn_nil]
  refine wpAny_pure (wpAny_pure ?_)
  exact h h' _ ⟨_, hn⟩ hs

/-- the context of a generator's frame -/
abbrev Cxg (X : Cx) (A : Around) (s : Shared) (H : Hp) (scope : Scope) (cenv : Env) (fp : List Addr) (pn : List (Addr × Obj)) : Cx :=
  { X with s_0 := s, H_0 := H, env := cenv, outer := X.stack, stack := cenv :: X.stack, A := A.deeper cenv, ex := fp, fn := fun x => scope.names.lookup x == some .cell, pn := pn, xe := fun _ _ => False }

/-- the names of a generator's scope: its own (with their places), or captured -/
structure GenOk (N : List Str) (sc scope : Scope) (own : List (Str × Nat)) : Prop where
  blk : BlkOk N sc scope own
  co : scope.isCoroutine = false
  dot : scope.names.lookup (".0" : Str) = some NameKind.local

section
variable {X : Cx} {pins : List (Addr × Obj)} {σ : L2.St} {H : Hp} {s : Shared}

theorem gen_start {A : Around} {scope : Scope} {own : List (Str × Nat)} {fp : List Addr} {code : Value} {bi : Addr} {pn pl : List (Addr × Obj)} {s6 : Shared} {h' : Heap}
    (I : Inv X pins σ H s) (ok : GenOk X.N X.env.scope scope own) (hN : X.N.Nodup) (hfp : ∀ b ∈ fp, FpOk X pins H b ∧ b < s.heap.objs.size)
    (hA : A.frames = some X.stack) (hh : A.handled = none) (hbi : bi = builtinsNs)
    (hns : ∃ m, h'.Ns s.heap.objs.size m) (hsb : Heap.SameBut s.heap.objs.size (pushCells (s.heap.push { cls := .type "frame", data := .dict #[] }) scope.names) h')
    (k6 : ∀ b o, h'.get? b = some o → s6.heap.get? b = some o) (os6 : s6.os = s.os) (b6 : AllBare s6.gens)
    (hpin : ∀ p ∈ pn ++ pl, s6.heap.get? p.1 = some p.2 ∧ h'.objs.size ≤ p.1 ∧ ∀ v, p.2.data ≠ .cell v) :
    Inv (Cxg X A s H scope (gEnv scope (cellsFrom (s.heap.objs.size + 1) scope.names (cloFrom X.env.cells scope.names [])) s.heap.objs.size code bi X.env) fp pn) pl (wipe σ (own.map (·.2))) H s6 := by
  have hfree : ∀ y ∈ scope.names, y.2 = .free → ∃ c, X.env.cells.lookup y.1 = some c := fun y hy e => by
    rcases ok.blk.free y hy e with k | k
    · exact I.ok.has _ (.inl k)
    · exact I.ok.has _ (.inr k)
  generalize hcenv : gEnv scope (cellsFrom (s.heap.objs.size + 1) scope.names (cloFrom X.env.cells scope.names [])) s.heap.objs.size code bi X.env = cenv
  have szle : (pushCells (s.heap.push { cls := .type "frame", data := .dict #[] }) scope.names).objs.size = h'.objs.size := hsb.1.symm
  have szs : s.heap.objs.size + 1 ≤ h'.objs.size := by
    rw [← szle, ← Heap.size_push s.heap { cls := .type "frame", data := .dict #[] }]
    exact pushCells_size _ _
  have kp1 : ∀ b o, b ≠ s.heap.objs.size → (pushCells (s.heap.push { cls := .type "frame", data := .dict #[] }) scope.names).get? b = some o → h'.get? b = some o := fun b o hb e => (hsb.2 b hb).trans e
  have kp : ∀ b o, s.heap.get? b = some o → s6.heap.get? b = some o := fun b o e =>
    k6 b o (kp1 b o (Nat.ne_of_lt (Heap.lt_size e)) (pushCells_keeps _ _ _ _ (Heap.get?_push_of_some _ e)))
  have hL : cenv.locals = s.heap.objs.size := by rw [← hcenv]; rfl
  have hcl : cenv.cells = cellsFrom (s.heap.objs.size + 1) scope.names (cloFrom X.env.cells scope.names []) := by rw [← hcenv]; rfl
  have hsc : cenv.scope = scope := by rw [← hcenv]; rfl
  rw [← Heap.size_push s.heap { cls := .type "frame", data := .dict #[] }] at hcl
  have cm : ∀ {y c}, (y, c) ∈ cloFrom X.env.cells scope.names [] → X.env.cells.lookup y = some c ∧ c < s.heap.objs.size := fun {y c} hm => by
    rcases cloFrom_mem hm with hm | ⟨h1, rfl⟩
    · cases hm
    · obtain ⟨c, hc⟩ := hfree _ h1 rfl
      rw [hc]
      obtain ⟨w, z⟩ := I.cell _ _ hc
      exact ⟨rfl, z.lt⟩
  have mem : ∀ {y c}, cenv.cells.lookup y = some c → (X.env.cells.lookup y = some c ∧ c < s.heap.objs.size) ∨ (s.heap.objs.size + 1 ≤ c ∧ CellAt s6.heap c none) := fun {y c} e => by
    rw [hcl] at e
    rcases cells_mem (PySem.mem_of_lookup e) with hm | ⟨_, h2, h3⟩
    · exact .inl (cm hm)
    · rw [Heap.size_push] at h2
      obtain ⟨oc, e1, e2⟩ := h3
      exact .inr ⟨h2, oc, k6 _ _ (kp1 _ _ (Nat.ne_of_gt h2) e1), e2⟩
  have look : ∀ {y}, scope.names.lookup y = some .free → ∃ c, cenv.cells.lookup y = some c ∧ X.env.cells.lookup y = some c := fun {y} hl => by
    have hy : (y, NameKind.free) ∈ scope.names := PySem.mem_of_lookup hl
    obtain ⟨c', e'⟩ := mem_lookup (cells_acc (names := scope.names) (n := (s.heap.push { cls := .type "frame", data := .dict #[] }).objs.size) (cloFrom_has (cells := X.env.cells) (acc := []) hy))
    rw [← hcl] at e'
    refine ⟨c', e', ?_⟩
    rw [hcl] at e'
    rcases cells_mem (PySem.mem_of_lookup e') with hm | ⟨h1, _, _⟩
    · exact (cm hm).1
    · have := ok.blk.uniq _ h1
      rw [hl] at this; cases this
  have okB : (Cxg X A s H scope cenv fp pn).Ok := by
    refine ⟨I.ok.mod, by show cenv.scope.kind = _; rw [hsc]; exact ok.blk.kind, by show cenv.globals = _; rw [← hcenv]; exact I.ok.glob, by show cenv.builtins = _; rw [← hcenv]; exact hbi, by show s.heap.objs.size ≤ cenv.locals; rw [hL]; exact Nat.le_refl _,
      fun y z c e1 e2 => ?_, fun y hy => ?_, fun y c z e => ?_, fun _ => hh, ?_, .inr ⟨rfl, by show cenv.frame = some cenv.locals; rw [← hcenv]; rfl⟩, fun b hb => ⟨?_, fun y c e z => ?_⟩, I.bs, Nat.le_trans I.ok.bsz I.sz, fun b o e hb => ?_, fun b hb z => ?_, I.stack, I.stkFree⟩
    · have e1 : cenv.cells.lookup y = some c := e1
      have e2 : cenv.cells.lookup z = some c := e2
      rw [hcl] at e1 e2
      refine cells_inj (fun p hp => ?_) (fun y z c a b => I.ok.inj y z c (cm a).1 (cm b).1) (PySem.mem_of_lookup e1) (PySem.mem_of_lookup e2)
      rw [Heap.size_push]
      exact Nat.lt_succ_of_lt (cm (y := p.1) (c := p.2) hp).2
    · show ∃ c, cenv.cells.lookup y = some c
      have hy' : scope.names.lookup y = some .cell ∨ scope.names.lookup y = some .free := by
        have hy : cenv.scope.names.lookup y = some .cell ∨ cenv.scope.names.lookup y = some .free := hy
        rw [hsc] at hy; exact hy
      rcases hy' with e | e
      · obtain ⟨c, hm⟩ := cells_has (n := (s.heap.push { cls := .type "frame", data := .dict #[] }).objs.size) (acc := cloFrom X.env.cells scope.names []) (PySem.mem_of_lookup e)
        obtain ⟨c', e'⟩ := mem_lookup hm
        exact ⟨c', by rw [hcl]; exact e'⟩
      · obtain ⟨c, h1, _⟩ := look e
        exact ⟨c, h1⟩
    · have z : (scope.names.lookup y == some NameKind.cell) = true := z
      have z : scope.names.lookup y = some .cell := by simpa using z
      have e : cenv.cells.lookup y = some c := e
      rw [hcl] at e
      rcases cells_mem (PySem.mem_of_lookup e) with hm | ⟨_, h2, _⟩
      · rcases cloFrom_mem hm with hm | ⟨h1, _⟩
        · cases hm
        · have q := ok.blk.uniq _ h1
          rw [z] at q; cases q
      · rw [Heap.size_push] at h2
        exact Nat.le_of_succ_le h2
    · show (A.deeper cenv).frames = some (cenv :: X.stack)
      unfold Around.deeper
      rw [hA]; rfl
    · show b ≠ cenv.locals
      rw [hL]; exact Nat.ne_of_lt (hfp b hb).2
    · have e : cenv.cells.lookup y = some c := e
      rcases mem e with ⟨h1, _⟩ | ⟨h1, _⟩
      · exact (hfp b hb).1.2.2.2.2.1 y c h1 z
      · have h2 : s.heap.objs.size + 1 ≤ b := by rw [← z]; exact h1
        exact absurd (Nat.lt_of_lt_of_le (hfp b hb).2 (Nat.le_of_succ_le h2)) (Nat.lt_irrefl _)
    · rcases (hfp b hb).1.2.2.2.1 with z | z
      · exact I.ok.noex b o e z
      · exact absurd (Nat.lt_of_lt_of_le (Heap.lt_size e) (Nat.le_trans I.ok.bsz z)) (Nat.lt_irrefl _)
    · rcases List.mem_cons.mp (I.stkSub b z) with z | z
      · exact (hfp b hb).1.2.1 z
      · exact (hfp b hb).1.2.2.1 z
  have young : ∀ b, s.heap.objs.size ≤ b → H b = none ∧ b ∉ frs X.stack := fun b hb => by
    refine ⟨I.hok.fresh hb, fun hm => ?_⟩
    obtain ⟨_, o, ho, _⟩ := I.stack.mem hm
    exact absurd (Nat.lt_of_lt_of_le (Heap.lt_size ho) hb) (Nat.lt_irrefl _)
  refine ⟨okB, os6, b6, Un.kept kp, ?_, fun y c e => ?_, ?_, fun y c e => ?_, fun p hp => ?_, I.hok.kept kp, by rw [wipe_length]; exact I.len⟩
  · obtain ⟨m, hm⟩ := hns
    refine ⟨m, ?_, fun i y av e1 e2 e3 => ?_⟩
    · show Heap.Ns _ cenv.locals _
      rw [hL]
      exact hm.keeps k6
    · obtain ⟨e2, hne⟩ := wipe_some e2
      have hfr : scope.names.lookup y = some .free := by
        have e3' : Vis scope y := by
          have e3 : Vis cenv.scope y := e3
          rw [hsc] at e3; exact e3
        have no : ∀ k', scope.names.lookup y = some k' → ¬ (k' = .local ∨ k' = .cell) := fun k' e hh => by
          rcases ok.blk.own _ (PySem.mem_of_lookup e) hh with e' | e'
          · obtain ⟨p, hp, hpy⟩ := List.mem_map.mp e'
            have e3 := ok.blk.ix p hp
            have : p.1 = y := hpy
            rw [this] at e3
            exact hne (List.mem_map.mpr ⟨p, hp, nodup_ix hN e3 e1⟩)
          · exact e' (List.mem_of_getElem? e1)
        rcases e3' with e | e | e
        · exact absurd (.inl rfl) (no _ e)
        · exact absurd (.inr rfl) (no _ e)
        · exact e
      obtain ⟨m, hn, hl⟩ := I.loc
      have hvis : Vis X.env.scope y := (ok.blk.free _ (PySem.mem_of_lookup hfr) rfl).elim (fun k => .inr (.inl k)) (fun k => .inr (.inr k))
      obtain ⟨w, r, q⟩ := hl i y av e1 e2 hvis
      refine ⟨w, r, .inr ⟨.inr (by show cenv.scope.names.lookup y = _; rw [hsc]; exact hfr), ?_⟩⟩
      obtain ⟨c, h1, h2⟩ := look hfr
      rcases q with ⟨k, _⟩ | ⟨_, c', e', z⟩
      · have k : X.env.scope.names.lookup y = some .local := k
        rcases ok.blk.free _ (PySem.mem_of_lookup hfr) rfl with k' | k' <;> rw [show X.env.scope.names.lookup y = _ from k'] at k <;> cases k
      · rw [h2] at e'; cases e'
        exact ⟨c, h1, z.keeps kp⟩
  · have e : cenv.cells.lookup y = some c := e
    rcases mem e with ⟨h1, _⟩ | ⟨_, z⟩
    · obtain ⟨w, z⟩ := I.cell y c h1
      exact ⟨w, z.keeps kp⟩
    · exact ⟨_, z⟩
  · show H cenv.locals = none
    rw [hL]; exact I.hok.fresh (Nat.le_refl _)
  · have e : cenv.cells.lookup y = some c := e
    rcases mem e with ⟨h1, _⟩ | ⟨h1, _⟩
    · exact I.freeC y c h1
    · exact I.hok.fresh (Nat.le_of_succ_le h1)
  · obtain ⟨h1, h2, h3⟩ := hpin p hp
    obtain ⟨y1, y2⟩ := young p.1 (by omega)
    refine ⟨h1, y1, ?_, y2, h3⟩
    show p.1 ≠ cenv.locals
    rw [hL]
    exact fun e => by have h2' : h'.objs.size ≤ s.heap.objs.size := by rw [← e]; exact h2
                      omega
end

section
variable {X : Cx} {C : Con} {a : Addr} {gn : Nat} {A : Around} {elt tg iter : Expr} {ifs : List Expr} {scope : Scope} {pos : Pos} {it : Addr} {fp : List Addr} {tn : Nat → Heap → Prop} {J : It} {g : TG} {tt : TT} {te : TE} {vs : List Nat} {σw : L2.St}
theorem seg_first (hc : X.calm = true) (T : Turn X.prog X.w X.K tg J fp it tn) (pg : PG X tg g) (pt : PTs X ifs tt) (pe : PE X elt te) (hco : X.env.scope.isCoroutine = false)
    (hxe : X.xe = fun _ _ => False) (hex : X.ex = fp) (hA : A.deeper X.env = X.A) (hag : ∃ go, (a, go) ∈ X.pn ∧ (∀ h : Heap, h.get? a = some go → h.IsGen a gn))
    (hSa : ∀ b ∈ C.Sa, Apart X b ∧ (∀ p ∈ X.pn, p.1 ≠ b) ∧ b ∉ fp) (hpf : ∀ p ∈ X.pn, p.1 ∉ fp) {W : Nat → Nat → List V → Hp → Prop} (turn : tGenL C J g tt te vs σw W) (hvs : wipe σw vs = σw)
    {m : Nat} {s : Shared} {H : Hp} {pl : List (Addr × Obj)} (hw : W 0 m [] H) (hown : C.Own [] pl) (hpl : pl.map (·.1) = C.Sa) (I : Inv X pl σw H s) (st : tn 0 s.heap) (hfp : ∀ b ∈ fp, H b = none) :
      Seg (model X.prog X.w) A (CR X C) (CY X C a gn) sizeLine s (.compStart (.GeneratorExp elt [⟨tg, iter, ifs, 0⟩] scope pos) 0 (.ref it) .none X.env)
        ((model X.prog X.w).den (.compStart (.GeneratorExp elt [⟨tg, iter, ifs, 0⟩] scope pos) 0 (.ref it) .none X.env)) [] s := by
  have loop := seg_loop (pos := pos) (scope := scope) (iter := iter) hc T pg pt pe hco hxe hex hA hag hSa hpf turn hvs m 0 sizeLine [] s s H pl (Nat.add_zero _) hw (fun p hp => (I.pin p (List.mem_append_right _ hp)).1) hown hpl I st hfp
  show Seg _ A _ _ _ s _ ((compStart (.GeneratorExp elt [⟨tg, iter, ifs, 0⟩] scope pos) 0 (.ref it) .none X.env).onRaise (leaving X.env)) [] s
  unfold compStart
  rw [Sem.onRaise_eq_wrap]
  show Seg _ A _ _ _ s _ ((ask >>= _).wrap _ _ _ _) [] s
  refine seg_bind_wrap (wpAny_askSetting ?_)
  split
  · exact seg_again rfl loop
  · first
      | exact seg_bind_wrap (wpAny_rule (seg_bind_wrap (wpAny_standAt (seg_bind_wrap (T.self _ 0 s _ _ st (seg_again rfl loop))))))
      | (refine seg_bind_wrap (wpAny_rule ?_); show Seg _ A _ _ _ s _ ((standAt iter.pos >>= _).wrap _ _ _ _) [] s; exact seg_bind_wrap (wpAny_standAt (seg_bind_wrap (T.self _ 0 s _ _ st (seg_again rfl loop)))))
end
end GX
end

section
set_option Elab.async false
set_option linter.all false
set_option maxRecDepth 100000
set_option maxHeartbeats 4000000
namespace GX
open PySem PySem.Spec PyProof.Rows L2 GenW

/-- a code object whose table of inner codes is at P -/
def CodeObj (o : Obj) (P : Addr) : Prop :=
  ∃ vs file tf flags tg inF text tt, o.cls = .type "code" ∧ o.data = .fields vs ∧ vs[11]? = some (.ref P) ∧ vs.getD 11 .none = .ref P ∧ vs.getD 18 .none = .str file tf ∧
    vs.getD 7 .none = .int flags tg ∧ vs.getD 9 .none = .bool inF ∧ vs.getD 10 .none = .int text tt
/-- the code that runs: the module's own, or one that was made by the run -/
def CodeAt (base : Heap) (H : Hp) (cv : Value) : Prop :=
  ∃ c P, cv = .ref c ∧ c ≠ P ∧ (∃ ps, H P = some (.tbl ps)) ∧ (PySem.W.CodeHd base c P ∨ ∃ o, H c = some (.ext fun h => h.get? c = some o) ∧ CodeObj o P)
/-- every table that is tracked is a good one -/
def TabAll (H : Hp) : Prop := ∀ P ps, H P = some (.tbl ps) → TriplesOk ps.toList ∧ ∀ pos cv, codeAmong pos ps.toList = some cv →
  ∃ c P' o, cv = .ref c ∧ c ≠ P' ∧ H c = some (.ext fun h => h.get? c = some o) ∧ CodeObj o P' ∧ ∃ ps', H P' = some (.tbl ps')
/-- what was tracked stays, but what stands at al, and tables that grow -/
def Grow (al : List Addr) (H H' : Hp) : Prop := ∀ b o, H b = some o → b ∈ al ∨ H' b = some o ∨ ((∃ ps, o = .tbl ps) ∧ ∃ ps', H' b = some (.tbl ps'))
theorem Grow.refl {al : List Addr} (H : Hp) : Grow al H H := fun _ _ e => .inr (.inl e)
theorem Grow.trans {al : List Addr} {H H1 H2 : Hp} (a : Grow al H H1) (b : Grow al H1 H2) : Grow al H H2 := fun c o e => by
  rcases a c o e with h | h | ⟨h, ps', h'⟩
  · exact .inl h
  · exact b c o h
  · rcases b c _ h' with h2 | h2 | ⟨_, h2⟩
    · exact .inl h2
    · exact .inr (.inr ⟨h, ps', h2⟩)
    · exact .inr (.inr ⟨h, h2⟩)
theorem Grow.mono {al al' : List Addr} {H H1 : Hp} (a : Grow al H H1) (h : ∀ b ∈ al, b ∈ al') : Grow al' H H1 := fun c o e => by
  rcases a c o e with h1 | h1 | h1
  · exact .inl (h _ h1)
  · exact .inr (.inl h1)
  · exact .inr (.inr h1)
theorem CodeAt.grow {base : Heap} {H H' : Hp} {cv : Value} {al : List Addr} (x : CodeAt base H cv) (g : Grow al H H') (na : ∀ b ∈ al, ∃ xs, H b = some (.lst xs)) : CodeAt base H' cv := by
  obtain ⟨c, P, e, hne, ⟨ps, hP⟩, h⟩ := x
  have key : ∀ b o, H b = some o → (∀ xs, o ≠ .lst xs) → H' b = some o ∨ ((∃ ps, o = .tbl ps) ∧ ∃ ps', H' b = some (.tbl ps')) := fun b o hb hn => by
    rcases g b o hb with h1 | h1 | h1
    · obtain ⟨xs, h2⟩ := na b h1
      rw [hb] at h2; cases h2
      exact absurd rfl (hn xs)
    · exact .inl h1
    · exact .inr h1
  refine ⟨c, P, e, hne, ?_, ?_⟩
  · rcases key P _ hP (fun xs z => by cases z) with h1 | ⟨_, h1⟩
    · exact ⟨ps, h1⟩
    · exact h1
  · rcases h with h | ⟨o, ho, hc⟩
    · exact .inl h
    · rcases key c _ ho (fun xs z => by cases z) with h1 | ⟨⟨ps', h1⟩, _⟩
      · exact .inr ⟨o, h1, hc⟩
      · cases h1

/-- the module's builtins -/
def BmAt (base : Heap) (mg : Str → Option Value) : Prop := ∃ (bm : Addr) (ob : Obj), mg "__builtins__" = some (.ref bm) ∧ bm ≠ builtinsNs ∧ base.get? bm = some ob ∧ ob.cls = .type "module" ∧ ob.dict = some builtinsNs ∧ ob.data = .plain

section
variable {X : Cx} {pins : List (Addr × Obj)} {σ : L2.St} {H : Hp} {s : Shared}
theorem CodeAt.hd {cv : Value} {H : Hp} (x : CodeAt X.base H cv) (I : Inv X pins σ H s) : ∃ c P ps, cv = .ref c ∧ H P = some (.tbl ps) ∧ PySem.W.CodeHd s.heap c P := by
  obtain ⟨c, P, e, hne, ⟨ps, hP⟩, h⟩ := x
  refine ⟨c, P, ps, e, hP, ?_⟩
  rcases h with h | ⟨o, ho, vs, file, tf, flags, tg, inF, text, tt, h1, h2, h3, h4, h5, h6, h7, h8⟩
  · exact h.keeps I.bk
  · have q := (I.hok c _ ho).1
    exact ⟨o, vs, file, tf, flags, tg, inF, text, tt, q, h1, h2, h3, h4, h5, h6, h7, h8, hne⟩

/-- a new code has come into the table at P -/
theorem Inv.coded {P c' P' : Addr} {ps : Array Value} {l col : Value} {o' : Obj} {h' : Heap} {tk : Nat} (I : Inv X pins σ H s) (hP : H P = some (.tbl ps)) (hx : Heap.ExtBut P s.heap h')
    (hc : s.heap.objs.size ≤ c') (hP' : s.heap.objs.size ≤ P') (hne : c' ≠ P') (ho : h'.get? c' = some o') (ht : h'.get? P' = some { cls := .none, data := .fields #[] })
    (hT : h'.get? P = some { cls := .none, data := .fields (ps ++ #[l, col, .ref c']) }) :
    Inv X pins σ (upd (upd (upd H P (.tbl (ps ++ #[l, col, .ref c']))) c' (.ext fun h => h.get? c' = some o')) P' (.tbl #[])) { s with heap := h', toks := tk } := by
  have lt : ∀ b u, H b = some u → b < s.heap.objs.size := fun b u e => I.hok.lt e
  have hPlt := lt P _ hP
  have n1 : ∀ {b : Addr}, b < s.heap.objs.size → b ≠ c' := fun h => Nat.ne_of_lt (Nat.lt_of_lt_of_le h hc)
  have n2 : ∀ {b : Addr}, b < s.heap.objs.size → b ≠ P' := fun h => Nat.ne_of_lt (Nat.lt_of_lt_of_le h hP')
  have old : ∀ {b : Addr}, b < s.heap.objs.size → b ≠ P → upd (upd (upd H P (.tbl (ps ++ #[l, col, .ref c']))) c' (.ext fun h => h.get? c' = some o')) P' (.tbl #[]) b = H b := fun hb hn => by
    rw [upd_ne (n2 hb), upd_ne (n1 hb), upd_ne hn]
  have nP : ∀ {b u}, H b = some u → (∀ q, u ≠ .tbl q) → b ≠ P := fun e q z => by
    rw [z, hP] at e; exact q _ (Option.some.inj e).symm
  have nN : ∀ {b}, H b = none → b ≠ P := fun e z => by rw [z, hP] at e; cases e
  refine I.un (t' := tk) ⟨fun b o e n _ _ => hx b o (nN n) e, fun b o e n _ _ => ⟨o.slots, hx b o (nN n) e⟩, fun b o e n _ => by rw [old (Heap.lt_size e) (nN n)]; exact n, fun b o e _ => ?_,
    fun b xs e => by rw [old (lt b _ e) (nP e fun q z => by cases z)]; exact e, fun b o u e => by rw [old (lt b _ e) (nP e fun q z => by cases z)]; exact e, fun b qs e => ?_⟩ (fun b u e => ?_)
  · by_cases hb : b = P
    · rw [hb]; exact ⟨_, hT⟩
    · exact ⟨o, hx b o hb e⟩
  · by_cases hb : b = P
    · rw [hb, hP] at e; cases e
      rw [hb, upd_ne (n2 hPlt), upd_ne (n1 hPlt), upd_same]
      exact ⟨_, rfl⟩
    · rw [old (lt b _ e) hb, e]
      exact ⟨#[], by simp⟩
  · by_cases h1 : b = P'
    · subst h1
      rw [upd_same] at e; cases e
      exact ht
    · rw [upd_ne h1] at e
      by_cases h2 : b = c'
      · subst h2
        rw [upd_same] at e; cases e
        exact ⟨ho, ⟨_, ho⟩, fun h1 h2 q k => k _ q⟩
      · rw [upd_ne h2] at e
        by_cases h3 : b = P
        · subst h3
          rw [upd_same] at e; cases e
          exact hT
        · rw [upd_ne h3] at e
          refine (I.hok b u e).stay (fun d v hd q => hx d v ?_ q) (fun d q => by rw [old (lt d _ q) (nP q fun q z => by cases z)]; exact q) fun d xs q => by rw [old (lt d _ q) (nP q fun q z => by cases z)]; exact q
          rcases hd with z | z
          · rw [z]; exact h3
          · exact nP z fun q z => by cases z

/-- the generator stands, not begun -/
structure MadeAt (X : Cx) (pins : List (Addr × Obj)) (σ : L2.St) (H : Hp) (J : It) (elt tg iter : Expr) (ifs : List Expr) (scope : Scope) (own : List (Str × Nat)) (pos : Pos) (a : Addr) (gn : Nat) (s5 : Shared) : Prop where
  inv : Inv X pins σ H s5
  isgen : s5.heap.IsGen a gn
  lt : a < s5.heap.objs.size
  run : ∃ (s4 : Shared) (cl : List (Str × Addr)) (L : Addr) (cv : Value) (it : Addr) (fp : List Addr) (tn : Nat → Heap → Prop) (go : Obj),
    s5.gens[gn]? = some (.fresh (.compStart (.GeneratorExp elt [⟨tg, iter, ifs, 0⟩] scope pos) 0 (.ref it) .none (gEnv scope cl L cv builtinsNs X.env))) ∧ CodeAt X.base H cv ∧
    ∀ (C : Con) (Ac : Around) (s6 : Shared) (pl : List (Addr × Obj)) (g : TG) (tt : TT) (te : TE) (W : Nat → Nat → List V → Hp → Prop) (m : Nat), Ac.handled = none → Ac.frames = some X.stack →
      (∀ b o, s5.heap.get? b = some o → s6.heap.get? b = some o) → s6.os = s5.os → AllBare s6.gens → C.Own [] pl → pl.map (·.1) = C.Sa →
      (∀ p ∈ pl, s6.heap.get? p.1 = some p.2 ∧ s5.heap.objs.size ≤ p.1 ∧ ∀ v, p.2.data ≠ .cell v) →
      PG (Cxg X Ac s4 H scope (gEnv scope cl L cv builtinsNs X.env) fp [(a, go)]) tg g → PTs (Cxg X Ac s4 H scope (gEnv scope cl L cv builtinsNs X.env) fp [(a, go)]) ifs tt → PE (Cxg X Ac s4 H scope (gEnv scope cl L cv builtinsNs X.env) fp [(a, go)]) elt te →
      tGenL C J g tt te (own.map (·.2)) (wipe σ (own.map (·.2))) W → W 0 m [] H →
      Seg (model X.prog X.w) Ac (CR (Cxg X Ac s4 H scope (gEnv scope cl L cv builtinsNs X.env) fp [(a, go)]) C) (CY (Cxg X Ac s4 H scope (gEnv scope cl L cv builtinsNs X.env) fp [(a, go)]) C a gn) sizeLine s6
        (.compStart (.GeneratorExp elt [⟨tg, iter, ifs, 0⟩] scope pos) 0 (.ref it) .none (gEnv scope cl L cv builtinsNs X.env))
        ((model X.prog X.w).den (.compStart (.GeneratorExp elt [⟨tg, iter, ifs, 0⟩] scope pos) 0 (.ref it) .none (gEnv scope cl L cv builtinsNs X.env))) [] s6 ∧
      ∀ {pl' : List (Addr × Obj)} {σ' : L2.St} {H' : Hp} {s' : Shared}, Inv (Cxg X Ac s4 H scope (gEnv scope cl L cv builtinsNs X.env) fp [(a, go)]) pl' σ' H' s' → Inv X pins σ H' s'

theorem wipe_wipe (σ : L2.St) (vs : List Nat) : wipe (wipe σ vs) vs = wipe σ vs := by
  have key : ∀ (ws : List Nat), (∀ v ∈ ws, v ∈ vs) → wipe (wipe σ vs) ws = wipe σ vs := by
    intro ws
    induction ws with
    | nil => intro _; rfl
    | cons v r ih =>
      intro h
      show (wipe (wipe σ vs) r).set v none = wipe σ vs
      rw [ih fun x hx => h x (List.mem_cons_of_mem _ hx)]
      refine List.ext_getElem? fun i => ?_
      by_cases hi : v = i
      · subst hi
        by_cases hv : v < (wipe σ vs).length
        · rw [List.getElem?_set_self hv]
          cases e : (wipe σ vs)[v]? with
          | none => rw [List.getElem?_eq_none_iff] at e; omega
          | some q =>
            cases q with
            | none => rfl
            | some q => exact absurd (h v List.mem_cons_self) (wipe_some e).2
        · rw [List.getElem?_eq_none (by simpa using hv), List.getElem?_eq_none (Nat.le_of_not_lt hv)]
      · rw [List.getElem?_set_ne hi]
  exact key vs fun _ h => h
end
end GX
end

section
set_option Elab.async false
set_option linter.all false
set_option maxRecDepth 100000
set_option maxHeartbeats 4000000
namespace GX
open PySem PySem.Spec PyProof.Rows L2 GenW

section
variable {X : Cx} {pins : List (Addr × Obj)} {σ : L2.St} {H : Hp} {s : Shared}
theorem gen_made {k : Nat} {elt tg iter : Expr} {ifs : List Expr} {scope : Scope} {own : List (Str × Nat)} {pos : Pos} {wi : TI} {R : It → Hp → Prop} {Q' : Value → Shared → Prop}
    (hN : X.N.Nodup) (hr : Room k X.A) (bm : BmAt X.base X.mg) (ok : GenOk X.N X.env.scope scope own) (hcalm : X.calm = true) (hi : PI X tg iter wi) (hs : ∀ x, genFold iter X.env x = pure x)
    (I : Inv X pins σ H s) (h : wi σ H fun J H1 => CodeAt X.base H1 X.env.code ∧ TabAll H1 ∧ R J H1)
    (hQ : ∀ J H1 H2 a gn s5, R J H1 → Grow [] H1 H2 → TabAll H2 → MadeAt X pins σ H2 J elt tg iter ifs scope own pos a gn s5 → Q' (.ref a) s5) :
    wpAny (model X.prog X.w) X.A (eval (.GeneratorExp elt [⟨tg, iter, ifs, 0⟩] scope pos) X.env) Q' X.xe s := by
  have hfree : ∀ y ∈ scope.names, y.2 = .free → ∃ c, X.env.cells.lookup y.1 = some c := fun y hy e => by
    rcases ok.blk.free y hy e with k | k
    · exact I.ok.has _ (.inl k)
    · exact I.ok.has _ (.inr k)
  rw [eval_GeneratorExp1 _ _ _ _ _ _ _ ok.co, closure_ok hfree]
  refine wpAny_bind (thn (hi.run pins s σ H _ I h) fun xv s1 hx => ?_)
  refine wpAny_bind (wpAny_standAt ?_)
  refine wpAny_bind (wpAny_of_eq (hs xv) ?_)
  refine wpAny_bind (wpAny_holding (thn hx fun itv s2 h2 => ?_))
  obtain ⟨it, fp, tn, J, H1, e, I2, T, st2, f2, hcode, htab, hR⟩ := h2
  subst e
  refine wpAny_bind (wpAny_enterFrame I2.nolimit hr.depth ?_)
  refine wpAny_bind (wpAny_pure ?_)
  have sz : ∀ b ∈ fp, b < s2.heap.objs.size := fun b hb => by
    obtain ⟨o, e, _⟩ := T.obj _ _ st2 b hb
    exact Heap.lt_size e
  have key : ∀ (cv : Value) (s3 : Shared) (H2 : Hp), Inv X pins σ H2 s3 → Grow [] H1 H2 → TabAll H2 → CodeAt X.base H2 cv → tn 0 s3.heap → (∀ b ∈ fp, FpOk X pins H2 b ∧ b < s3.heap.objs.size) →
      wpAny (model X.prog X.w) X.A (builtinsFor X.env.globals X.env.builtins >>= fun bi => newFunctionEnv scope X.env.globals (cloFrom X.env.cells scope.names []) [(".0", .ref it)] (X.env.qual ++ "<genexpr>.") none cv none bi >>= fun cenv =>
        newGenerator (.compStart (.GeneratorExp elt [⟨tg, iter, ifs, 0⟩] scope pos) 0 (.ref it) .none cenv) "<genexpr>" (X.env.qual ++ "<genexpr>")) Q' X.xe s3 := by
    intro cv s3 H2 I3 hg ht hcv st3 f3
    obtain ⟨bmA, ob, e1, e2, e3, e4, e5, e6⟩ := bm
    refine wpAny_bind (wpAny_builtinsFor (m := X.mg) (by rw [I3.ok.glob]; exact I3.mod.glob.keeps I3.bk) e1 e2 (I3.bk _ _ e3) e4 e5 e6 ?_)
    refine wpAny_bind (newEnv_gen ok.blk.kind ok.dot fun h' tk hns hsb => ?_)
    simp only [newGenerator, newFields]
    refine wpAny_bind (wpAny_newGen (wpAny_bind (wpAny_mkText (wpAny_bind (wpAny_mkText (wpAny_newObj_type ?_ (by size_fits)))))))
    have szle : (pushCells (s3.heap.push { cls := .type "frame", data := .dict #[] }) scope.names).objs.size = h'.objs.size := hsb.1.symm
    have szs : s3.heap.objs.size + 1 ≤ h'.objs.size := by
      rw [← szle, ← Heap.size_push s3.heap { cls := .type "frame", data := .dict #[] }]
      exact pushCells_size _ _
    have kp1 : ∀ b o, s3.heap.get? b = some o → h'.get? b = some o := fun b o e => (hsb.2 b (Nat.ne_of_lt (Heap.lt_size e))).trans (pushCells_keeps _ _ _ _ (Heap.get?_push_of_some _ e))
    generalize hgo : ({ cls := .type "generator", data := .fields _ } : Obj) = go
    have hgen : ∀ hh : Heap, hh.get? h'.objs.size = some go → hh.IsGen h'.objs.size s3.gens.size := fun hh e => ⟨go, _, _, e, by rw [← hgo], by rw [← hgo]; rfl, by rw [← hgo]⟩
    have hgc : ∀ v, go.data ≠ .cell v := fun v q => by rw [← hgo] at q; cases q
    have hpush : (h'.push go).get? h'.objs.size = some go := Heap.get?_push_size _ (by rw [← hgo]; rfl)
    have kp2 : ∀ b o, s3.heap.get? b = some o → (h'.push go).get? b = some o := fun b o e => Heap.get?_push_of_some _ (kp1 b o e)
    refine hQ J H1 H2 h'.objs.size s3.gens.size _ hR hg ht ⟨?_, hgen _ hpush, by show h'.objs.size < (h'.push go).objs.size; rw [Heap.size_push]; exact Nat.lt_succ_self _, ?_⟩
    · exact I3.call' (ch := []) rfl (Un.kept kp2) (I3.hok.kept kp2) (AllBare.push I3.bare rfl) fun b z => by simp at z
    · refine ⟨s3, _, _, cv, it, fp, tn, go, Array.getElem?_push_size .., hcv, fun C Ac s6 pl g tt te W m hh hfr k6 os6 b6 hown hpl hp pg pt pe turn hw => ?_⟩
      have I6 := gen_start (A := Ac) (fp := fp) (code := cv) (bi := builtinsNs) (pn := [(h'.objs.size, go)]) (pl := pl) (s6 := s6) I3 ok hN f3 hfr hh rfl hns hsb (fun b o e => k6 b o (Heap.get?_push_of_some _ e)) os6 b6 (fun p hpm => by
        rcases List.mem_append.mp hpm with z | z
        · rw [List.mem_singleton.mp z]
          exact ⟨k6 _ _ hpush, Nat.le_refl _, hgc⟩
        · obtain ⟨z1, z2, z3⟩ := hp p z
          have z2' : (h'.push go).objs.size ≤ p.1 := z2
          rw [Heap.size_push] at z2'
          exact ⟨z1, Nat.le_of_succ_le z2', z3⟩)
      have szb : ∀ b ∈ C.Sa, h'.objs.size + 1 ≤ b ∧ ∃ o, s6.heap.get? b = some o ∧ ∀ v, o.data ≠ .cell v := fun b hb => by
        rw [← hpl] at hb
        obtain ⟨p, hpm, e⟩ := List.mem_map.mp hb
        obtain ⟨z1, z2, z3⟩ := hp p hpm
        have z2' : (h'.push go).objs.size ≤ p.1 := z2
        rw [Heap.size_push] at z2'
        rw [← e]
        exact ⟨z2', p.2, z1, z3⟩
      refine ⟨seg_first (X := Cxg X Ac s3 H2 scope (gEnv scope (cellsFrom (s3.heap.objs.size + 1) scope.names (cloFrom X.env.cells scope.names [])) s3.heap.objs.size cv builtinsNs X.env) fp [(h'.objs.size, go)]) hcalm T pg pt pe ok.co rfl rfl rfl ⟨go, List.mem_singleton.mpr rfl, fun hh e => hgen hh e⟩ (fun b hb => ?_) (fun p hpm hf => ?_) turn (wipe_wipe _ _) hw hown hpl I6 (T.keep _ _ _ st3 fun b _ o e => k6 b o (kp2 b o e)) fun b hb => (f3 b hb).1.1, fun {pl' σ' H' s'} I' => ?_⟩
      · obtain ⟨z1, o, z2, z3⟩ := szb b hb
        refine ⟨⟨Nat.le_of_succ_le (Nat.le_trans szs (Nat.le_of_succ_le z1)), ?_, fun x c e q => ?_⟩, fun p hpm => ?_, fun hf => ?_⟩
        · exact Nat.ne_of_gt (Nat.lt_of_succ_le (Nat.le_trans szs (Nat.le_of_succ_le z1)))
        · obtain ⟨v, oc, e1, e2⟩ := I6.cell x c e
          rw [q, z2] at e1; cases e1
          exact z3 _ e2
        · rw [List.mem_singleton.mp hpm]
          exact Nat.ne_of_lt (Nat.lt_of_succ_le z1)
        · exact absurd (Nat.lt_of_lt_of_le (f3 b hf).2 (Nat.le_of_succ_le (Nat.le_trans szs (Nat.le_of_succ_le z1)))) (Nat.lt_irrefl _)
      · rw [List.mem_singleton.mp hpm] at hf
        exact absurd (Nat.lt_of_lt_of_le (f3 _ hf).2 (Nat.le_of_succ_le szs)) (Nat.lt_irrefl _)
      · exact I3.call' (ch := fp) I'.os I'.base I'.hok I'.bare fun b hb => ⟨(f3 b hb).1.2.2.2.1, (f3 b hb).1.2.1, (f3 b hb).1.2.2.2.2.1, (f3 b hb).1.2.2.2.2.2⟩
  obtain ⟨c, P, ps, hcv, hP, hd⟩ := hcode.hd I2
  have hPs : s2.heap.get? P = some { cls := .none, data := .fields ps } := I2.hok P _ hP
  obtain ⟨ht1, ht2⟩ := htab P ps hP
  cases hf : codeAmong pos ps.toList with
  | some cv =>
    refine wpAny_bind (wpAny_genexprCode_hit hcv (hd.code hPs ht1) hf ?_)
    obtain ⟨c', P', o', q1, q2, q3, q4, q5⟩ := ht2 pos cv hf
    exact key cv s2 H1 I2 (.refl _) htab ⟨c', P', q1, q2, q5, .inr ⟨o', q3, q4⟩⟩ st2 fun b hb => ⟨f2 b hb, sz b hb⟩
  | none =>
    refine wpAny_bind (wpAny_genexprCodeX hcv (hd.code hPs ht1) (hd.tab hPs) hf fun c' h' tk hx hge hlt hco' _ htab' hnew => ?_)
    obtain ⟨P', hP', hc1, ht1'⟩ := hnew
    obtain ⟨o', vs, file, tf, flags, tg', inF, text, tt, z1, z2, z3, z4, z5, z6, z7, z8, z9, zne⟩ := PySem.W.CodeHd.of hc1 ht1'
    have htr : TriplesOk (ps ++ #[rawInt pos.line, rawInt pos.col, .ref c']).toList := by
      obtain ⟨_, _, _, _, _, _, _, _, _, _, _, _, _, _, _, _, _, _, _, htr, _⟩ := hco'
      exact htr
    have I3 := Inv.coded (tk := tk) I2 hP hx hge hP' zne z1 ht1'.2 htab'.2
    have lt : ∀ b u, H1 b = some u → b < s2.heap.objs.size := fun b u e => I2.hok.lt e
    have n1 : ∀ {b : Addr}, b < s2.heap.objs.size → b ≠ c' := fun h => Nat.ne_of_lt (Nat.lt_of_lt_of_le h hge)
    have n2 : ∀ {b : Addr}, b < s2.heap.objs.size → b ≠ P' := fun h => Nat.ne_of_lt (Nat.lt_of_lt_of_le h hP')
    have hPlt := lt P _ hP
    generalize hH2 : upd (upd (upd H1 P (.tbl (ps ++ #[rawInt pos.line, rawInt pos.col, .ref c']))) c' (.ext fun h => h.get? c' = some o')) P' (.tbl #[]) = H2 at I3
    have old : ∀ {b : Addr}, b < s2.heap.objs.size → b ≠ P → H2 b = H1 b := fun hb hn => by
      rw [← hH2, upd_ne (n2 hb), upd_ne (n1 hb), upd_ne hn]
    have atP : H2 P = some (.tbl (ps ++ #[rawInt pos.line, rawInt pos.col, .ref c'])) := by rw [← hH2, upd_ne (n2 hPlt), upd_ne (n1 hPlt), upd_same]
    have atP' : H2 P' = some (.tbl #[]) := by rw [← hH2, upd_same]
    have atc : H2 c' = some (.ext fun h => h.get? c' = some o') := by rw [← hH2, upd_ne zne, upd_same]
    have grow : Grow [] H1 H2 := fun b o e => by
      by_cases hb : b = P
      · rw [hb, hP] at e; cases e
        exact .inr (.inr ⟨⟨ps, rfl⟩, _, by rw [hb]; exact atP⟩)
      · exact .inr (.inl (by rw [old (lt b _ e) hb]; exact e))
    have cobj : CodeObj o' P' := ⟨vs, file, tf, flags, tg', inF, text, tt, z2, z3, z4, z5, z6, z7, z8, z9⟩
    have tabs : TabAll H2 := fun Pa qs e => by
      by_cases h1 : Pa = P'
      · rw [h1, atP'] at e; cases e
        exact ⟨trivial, fun pos cv z => by cases z⟩
      · by_cases h2 : Pa = P
        · rw [h2, atP] at e; cases e
          refine ⟨htr, fun pos' cv z => ?_⟩
          have hl : (ps ++ #[rawInt pos.line, rawInt pos.col, Value.ref c']).toList = ps.toList ++ [rawInt pos.line, rawInt pos.col, .ref c'] := by simp
          rw [hl] at z
          have split : ∀ (l : List Value), TriplesOk l → codeAmong pos' (l ++ [rawInt pos.line, rawInt pos.col, .ref c']) = some cv → codeAmong pos' l = some cv ∨ cv = .ref c' := by
            intro l
            fun_induction TriplesOk l with
            | case1 =>
              intro _ z
              simp only [List.nil_append, codeAmong, rawInt] at z
              split at z
              · cases z; exact .inr rfl
              · cases z
            | case2 a t b u x rest ih =>
              intro hl z
              simp only [List.cons_append, codeAmong] at z ⊢
              split at z
              · rename_i hc; rw [if_pos hc]; exact .inl z
              · rename_i hc; rw [if_neg hc]; exact ih hl z
            | case3 l h1 h2 => intro hl; exact hl.elim
          rcases split _ ht1 z with z | z
          · obtain ⟨c2, P2, o2, q1, q2, q3, q4, ps2, q5⟩ := ht2 pos' cv z
            refine ⟨c2, P2, o2, q1, q2, ?_, q4, ?_⟩
            · rw [old (lt c2 _ q3) (fun z => by rw [z, hP] at q3; cases q3)]; exact q3
            · by_cases hb : P2 = P
              · exact ⟨_, by rw [hb]; exact atP⟩
              · exact ⟨ps2, by rw [old (lt P2 _ q5) hb]; exact q5⟩
          · exact ⟨c', P', o', z, zne, atc, cobj, _, atP'⟩
        · have hPa : Pa ≠ c' := fun z => by rw [z, atc] at e; cases e
          have e' : H1 Pa = some (.tbl qs) := by
            rw [← hH2, upd_ne h1, upd_ne hPa, upd_ne h2] at e; exact e
          obtain ⟨k1, k2⟩ := htab Pa qs e'
          refine ⟨k1, fun pos' cv z => ?_⟩
          obtain ⟨c2, P2, o2, q1, q2, q3, q4, ps2, q5⟩ := k2 pos' cv z
          refine ⟨c2, P2, o2, q1, q2, ?_, q4, ?_⟩
          · rw [old (lt c2 _ q3) (fun z => by rw [z, hP] at q3; cases q3)]; exact q3
          · by_cases hb : P2 = P
            · exact ⟨_, by rw [hb]; exact atP⟩
            · exact ⟨ps2, by rw [old (lt P2 _ q5) hb]; exact q5⟩
    refine key (.ref c') { s2 with heap := h', toks := tk } H2 I3 grow tabs ⟨c', P', rfl, zne, ⟨_, atP'⟩, .inr ⟨o', atc, cobj⟩⟩ (T.keep _ _ _ st2 fun b hb o e => hx b o (fun z => ?_) e) fun b hb => ⟨⟨?_, (f2 b hb).2⟩, ?_⟩
    · have := (f2 b hb).1
      rw [z, hP] at this; cases this
    · rw [old (sz b hb) (fun z => by have := (f2 b hb).1; rw [z, hP] at this; cases this)]
      exact (f2 b hb).1
    · obtain ⟨o, e, _⟩ := T.obj _ _ st2 b hb
      exact Heap.lt_size (hx b o (fun z => by have := (f2 b hb).1; rw [z, hP] at this; cases this) e)
end
end GX
end

section
set_option Elab.async false
set_option linter.all false
set_option maxRecDepth 100000
set_option maxHeartbeats 4000000
namespace GX
open PySem PySem.Spec PyProof.Rows L2 GenW

/-- the generator a sleeps (or has not begun), n more items at most -/
def GAt (X : Cx) (C : Con) (a : Addr) (gn : Nat) (Ac : Around) (n : Nat) (s : Shared) : Prop :=
  s.heap.IsGen a gn ∧ s.heap.NoLimit ∧ ∃ gs, s.gens[gn]? = some gs ∧ gs.Goes (model X.prog X.w) Ac (CR X C) (CY X C a gn) n (.send .none) (s.setGen gn .running)

def NextQ (X : Cx) (C : Con) (a : Addr) (gn : Nat) (Ac : Around) (n : Nat) (s : Shared) (r : Option Value) (s' : Shared) : Prop :=
  (r = none ∧ ∃ ys pl σ H, n + ys.length = sizeLine ∧ (∀ p ∈ pl, s.heap.get? p.1 = some p.2) ∧ C.Own ys pl ∧ pl.map (·.1) = C.Sa ∧ Inv X pl σ H s' ∧ C.Dn ys H) ∨
  ∃ v m ys x pl σ H, r = some v ∧ n = m + 1 ∧ 1 ≤ m ∧ m + 1 + ys.length = sizeLine ∧ RelV x v ∧ (∀ p ∈ pl, s.heap.get? p.1 = some p.2) ∧ C.Own ys pl ∧ pl.map (·.1) = C.Sa ∧ Inv X pl σ H s' ∧ C.Yl (ys ++ [x]) H ∧
    (C.Go (ys ++ [x]) → ∀ s'', Slp C.Own C.Sa (ys ++ [x]) s' s'' → s''.gens = s'.gens → GAt X C a gn Ac m s'')

theorem Inv.regen {X : Cx} {pl : List (Addr × Obj)} {σ : L2.St} {H : Hp} {s : Shared} {g : Nat} {gs : GenState} {h' : Heap} (I : Inv X pl σ H s) (hb : gs.bare = true) (k : ∀ b o, s.heap.get? b = some o → h'.get? b = some o) : Inv X pl σ H { s.setGen g gs with heap := h' } :=
  I.call' (ch := []) rfl (Un.kept k) (I.hok.kept k) (allBare_setGen I.bare hb) fun b z => by simp at z

theorem next_step {X : Cx} {C : Con} {a : Addr} {gn : Nat} {A : Around} {n : Nat} {s : Shared} {E : Value → Shared → Prop} (hh : A.handled = none) (hd : A.depth < recursionLimit) (haS : a ∉ C.Sa) (hcS : cStatics ∉ C.Sa)
    (h : GAt X C a gn A.in1 n s) : wpAny (model X.prog X.w) A (pyNext (.ref a)) (NextQ X C a gn A.in1 n s) E s := by
  obtain ⟨hg, hl, gs, hgs, hgo⟩ := h
  have hgl : gn < s.gens.size := (Array.getElem?_eq_some_iff.mp hgs).1
  refine wpAny_gsz (n := gn + 1) hgl (next_genG (F := CF X C) (Er := fun _ _ => False) hh hl hd hg hgs hgo (fun v s₁ gs' hb hv => ?_) (fun s₁ hp h' hk => ?_) fun e s₁ he => he.elim)
  · intro hsz
    obtain ⟨ys, x, pl, σ, H, h1, h2, h3, h0, h4, h5, h6, h7, h8, h9⟩ := hv
    obtain ⟨m, rfl⟩ : ∃ m, n = m + 1 := ⟨n - 1, by omega⟩
    have hsz1 : gn < s₁.gens.size := by
      have q : (s₁.setGen gn gs').gens.size = s₁.gens.size := setGen_size _ _ _
      have hsz' : gn + 1 ≤ (s₁.setGen gn gs').gens.size := hsz
      omega
    refine .inr ⟨v, m, ys, x, pl, σ, H, rfl, rfl, h1, h2, h3, h0, h4, h5, Inv.regen (h' := s₁.heap) h6 hb fun _ _ e => e, h8, fun go s'' z hge => ?_⟩
    obtain ⟨z1, z2, z3, z4⟩ := z
    refine ⟨?_, ?_, gs', by rw [hge]; exact setGen_at hsz1, h9 go _ ⟨z1, allBare_setGen z2 rfl, z3, z4⟩⟩
    · obtain ⟨o, nm, qn, ho, r⟩ := h7
      exact ⟨o, nm, qn, z3 a o haS ho, r⟩
    · obtain ⟨mc, hns, hnn⟩ := h6.nolimit
      exact ⟨mc, hns.at' fun o e => z3 _ o hcS e, hnn⟩
  · intro _
    obtain ⟨ys, pl, σ, H, h1, h0, h2, h3, h4, h5⟩ := hp
    exact .inl ⟨rfl, ys, pl, σ, H, h1, h0, h2, h3, Inv.regen h4 rfl hk, h5⟩

/-- truth, in any around: nothing but the tokens moves -/
theorem truthy_at {X : Cx} {pins : List (Addr × Obj)} {σ : L2.St} {H : Hp} {s : Shared} {A : Around} {E : Value → Shared → Prop} {x : V} {v : Value} {k : Bool} {Q : Bool → Shared → Prop} (I : Inv X pins σ H s) (rx : RelV x v) (e : TruV X.K x H k)
    (h : ∀ tk, Q k { s with toks := tk }) : wpAny (model X.prog X.w) A (truthy v) Q E s := by
  have hl := line63
  have hs : sizeLine = 16777216 := sizeLine_eq
  cases x with
  | non =>
    cases rx
    obtain rfl : k = false := e
    exact truthy_none (h s.toks)
  | bl b =>
    cases rx
    obtain rfl : k = b := e
    exact wpAny_truthy_bool (h s.toks)
  | int i =>
    obtain ⟨t, rfl⟩ := rx
    obtain rfl : k = (i != 0) := e
    exact PySem.P.truthy_int (h s.toks)
  | str y =>
    obtain ⟨t, rfl⟩ := rx
    obtain ⟨hy, rfl⟩ : y.length ≤ sizeLine ∧ k = ((y.length : Int) != 0) := e
    exact PySem.P.truthy_str (by omega) (h _)
  | byt y =>
    obtain ⟨t, rfl⟩ := rx
    obtain ⟨hy, rfl⟩ : y.size ≤ sizeLine ∧ k = ((y.size : Int) != 0) := e
    exact PySem.W.truthy_bytes (by omega) (h _)
  | ref p =>
    cases rx
    have e' : (∃ xs, SqL X.K H p xs ∧ k = !xs.isEmpty) ∨ (∃ xs, SqT X.K H p xs ∧ k = !xs.isEmpty) ∨ ∃ kvs, H p = some (.dK kvs) ∧ k = !kvs.isEmpty := e
    rcases e' with ⟨xs, hx, rfl⟩ | ⟨xs, hx, rfl⟩ | ⟨kvs, hx, rfl⟩
    · obtain ⟨its, r, pl, hz⟩ := I.list hx
      have hlen := r.length
      exact wpAny_truthy_list pl.isList (by simp only [List.size_toArray]; omega) (by rw [isEmpty_of r]; exact h _)
    · obtain ⟨its, r, pl, hz⟩ := I.tuple hx
      have hlen := r.length
      exact truthy_tuple pl (by simp only [List.size_toArray]; omega) (by rw [isEmpty_of r]; exact h _)
    · obtain ⟨hz, hS, vs, r, m⟩ : kvs.length ≤ sizeLine ∧ (p == sysModules) = false ∧ ∃ vs, KV kvs vs ∧ s.heap.DictOf (mixKind X.prog X.w) p vs := I.hok p _ hx
      have hlen : kvs.length = vs.length := Paired.length r
      exact wpAny_truthy_dict hS m (by omega) (by rw [isEmpty_kv r]; exact h _)
  | _ => exact (show False from e).elim

/-! ### all, any -/
/-- st: the truth that ends it -/
def cTest (K : PySem.W.Frag) (st : Bool) (Go : List V → Prop) (Qf : Bool → Hp → Prop) : Con where
  Sa := []
  Own := fun _ pl => pl = []
  Yl := fun zs H => ∃ x b, zs.getLast? = some x ∧ TruV K x H b ∧ ((b = (!st) ∧ Go zs) ∨ (b = st ∧ Qf st H))
  Go := Go
  Dn := fun _ H => Qf (!st) H

section
variable {X : Cx} {a : Addr} {gn : Nat} {A : Around} {Go : List V → Prop} {Qf : Bool → Hp → Prop} {R : Result → Shared → Prop}
theorem all_loop (hh : A.handled = none) (hd : A.depth < recursionLimit) (hR : ∀ b pl σ H s', Inv X pl σ H s' → Qf b H → R (.ok (.ret (.bool b))) s') :
    ∀ (n : Nat) (s : Shared), GAt X (cTest X.K false Go Qf) a gn A.in1.in1 n s → codeAny (model X.prog X.w) A (.builtin "all.loop" ⟨[.ref a], []⟩) R s := by
  intro n
  induction n using Nat.strongRecOn with
  | ind n ih =>
    intro s hg
    refine codeAny_builtin F.entry_all_loop ?_
    rw [Around.under_plainId F.plain_all_loop _]
    show wpAny _ A.in1 (pyNext (.ref a) >>= _) _ _ s
    refine wpAny_bind (wpAny_mono (next_step (A := A.in1) hh hd (by simp [cTest]) (by simp [cTest]) hg (E := fun _ _ => False)) (fun r s' h => ?_) fun _ _ z => z.elim)
    rcases h with ⟨rfl, ys, pl, σ, H, h1, _, h2, h3, h4, h5⟩ | ⟨v, m, ys, x, pl, σ, H, rfl, rfl, h1, h2, h3, _, h4, h5, h6, ⟨y, b, e1, e2, e3⟩, h8⟩
    · exact wpAny_bind (wpAny_rule (wpAny_pure (hR true pl σ H s' h4 h5)))
    · have ey : y = x := by
        rw [List.getLast?_append] at e1
        simpa using e1.symm
      subst ey
      refine wpAny_bind (wpAny_holding (truthy_at h6 h3 e2 fun tk => ?_))
      refine wpAny_bind (wpAny_letGo ?_)
      rcases e3 with ⟨rfl, go⟩ | ⟨rfl, q⟩
      · simp only [Bool.not_false, if_true]
        exact wpAny_pure ⟨plainId_quiet F.plain_all_loop _, ih m (Nat.lt_succ_self _) _ (h8 go _ ⟨rfl, h6.bare, fun b o _ e => e, [], rfl, rfl, fun p hp => absurd hp (by simp)⟩ rfl)⟩
      · simp only [Bool.false_eq_true, if_false]
        exact wpAny_bind (wpAny_rule (wpAny_pure (hR false pl σ H _ (h6.tok tk) q)))
theorem any_loop (hh : A.handled = none) (hd : A.depth < recursionLimit) (hR : ∀ b pl σ H s', Inv X pl σ H s' → Qf b H → R (.ok (.ret (.bool b))) s') :
    ∀ (n : Nat) (s : Shared), GAt X (cTest X.K true Go Qf) a gn A.in1.in1 n s → codeAny (model X.prog X.w) A (.builtin "any.loop" ⟨[.ref a], []⟩) R s := by
  intro n
  induction n using Nat.strongRecOn with
  | ind n ih =>
    intro s hg
    refine codeAny_builtin F.entry_any_loop ?_
    rw [Around.under_plainId F.plain_any_loop _]
    show wpAny _ A.in1 (pyNext (.ref a) >>= _) _ _ s
    refine wpAny_bind (wpAny_mono (next_step (A := A.in1) hh hd (by simp [cTest]) (by simp [cTest]) hg (E := fun _ _ => False)) (fun r s' h => ?_) fun _ _ z => z.elim)
    rcases h with ⟨rfl, ys, pl, σ, H, h1, _, h2, h3, h4, h5⟩ | ⟨v, m, ys, x, pl, σ, H, rfl, rfl, h1, h2, h3, _, h4, h5, h6, ⟨y, b, e1, e2, e3⟩, h8⟩
    · exact wpAny_bind (wpAny_rule (wpAny_pure (hR false pl σ H s' h4 h5)))
    · have ey : y = x := by
        rw [List.getLast?_append] at e1
        simpa using e1.symm
      subst ey
      refine wpAny_bind (wpAny_holding (truthy_at h6 h3 e2 fun tk => ?_))
      refine wpAny_bind (wpAny_letGo ?_)
      rcases e3 with ⟨rfl, go⟩ | ⟨rfl, q⟩
      · simp only [Bool.not_true, Bool.false_eq_true, if_false]
        exact wpAny_pure ⟨plainId_quiet F.plain_any_loop _, ih m (Nat.lt_succ_self _) _ (h8 go _ ⟨rfl, h6.bare, fun b o _ e => e, [], rfl, rfl, fun p hp => absurd hp (by simp)⟩ rfl)⟩
      · simp only [if_true]
        exact wpAny_bind (wpAny_rule (wpAny_pure (hR true pl σ H _ (h6.tok tk) q)))
end

/-! ### tuple -/
def cTup (S : Addr) (Qt : List V → Hp → Prop) : Con where
  Sa := [S]
  Own := fun ys pl => ∃ (acc : Array Value) (c : Nat), pl = [(S, lstObj acc c)] ∧ Vals ys acc.toList
  Yl := fun _ _ => True
  Go := fun _ => True
  Dn := Qt

section
variable {X : Cx} {a : Addr} {gn : Nat} {A : Around} {S : Addr} {Qt : List V → Hp → Prop} {R : Result → Shared → Prop} {res : Value}
theorem extend_loop (hh : A.handled = none) (hd : A.depth < recursionLimit) (hSa : a ≠ S) (hSc : cStatics ≠ S)
    (hR : ∀ ys acc c pl σ H s', Inv X pl σ H s' → s'.heap.get? S = some (lstObj acc c) → Vals ys acc.toList → ys.length ≤ sizeLine → Qt ys H → H S = none → R (.ok (.ret res)) s') :
    ∀ (n : Nat) (s : Shared), GAt X (cTup S Qt) a gn A.in1.in1 n s → codeAny (model X.prog X.w) A (.builtin "list.extend.loop" ⟨[.ref S, .ref a, res], []⟩) R s := by
  intro n
  induction n using Nat.strongRecOn with
  | ind n ih =>
    intro s hg
    refine codeAny_builtin F.entry_extend_loop ?_
    rw [Around.under_plainId F.plain_extend_loop _]
    show wpAny _ A.in1 (pyNext (.ref a) >>= _) _ _ s
    refine wpAny_bind (wpAny_mono (next_step (A := A.in1) hh hd (by simpa [cTup] using hSa) (by simpa [cTup] using hSc) hg (E := fun _ _ => False)) (fun r s' h => ?_) fun _ _ z => z.elim)
    rcases h with ⟨rfl, ys, pl, σ, H, h1, _, ⟨acc, c, rfl, hv⟩, h3, h4, h5⟩ | ⟨v, m, ys, x, pl, σ, H, rfl, rfl, h1, h2, h3, _, ⟨acc, c, rfl, hv⟩, h5, h6, _, h8⟩
    · have hp := h4.pin (S, lstObj acc c) (List.mem_append_right _ List.mem_cons_self)
      exact wpAny_pure (hR ys acc c _ σ H s' h4 hp.1 hv (by omega) h5 hp.2.1)
    · have hp := h6.pin (S, lstObj acc c) (List.mem_append_right _ List.mem_cons_self)
      have hasz : acc.size = ys.length := by
        have e1 := hv.length
        have e2 : acc.toList.length = acc.size := by simp
        omega
      show wpAny _ A.in1 (updateSeq S (·.push v) >>= _) _ _ _
      refine wpAny_bind ?_
      refine wpAny_updateSeq hp.1 rfl (wpAny_pure ⟨plainId_quiet F.plain_extend_loop _, ?_⟩) (by omega) (by show (acc.push v).size ≤ sizeLine + 1; rw [Array.size_push]; omega)
      refine ih m (Nat.lt_succ_self _) _ (h8 trivial _ ⟨rfl, h6.bare, fun b o hb e => (Heap.get?_update_other _ _ (fun z => hb (by rw [← z]; exact List.mem_cons_self))).trans e, ?_⟩ rfl)
      obtain ⟨c', hS2⟩ : ∃ c', (s'.heap.update S (Obj.mapSeq (·.push v))).get? S = some (lstObj (acc.push v) c') := ⟨_, Heap.get?_update_self _ hp.1 rfl⟩
      refine ⟨[(S, lstObj (acc.push v) c')], ⟨acc.push v, c', rfl, ?_⟩, rfl, fun p hpm => ?_⟩
      · rw [Array.toList_push]
        exact hv.append (.cons h3 .nil)
      · rw [List.mem_singleton.mp hpm]
        exact ⟨hS2, fun v q => by cases q⟩
end
end GX
end

section
set_option Elab.async false
set_option linter.all false
set_option maxRecDepth 100000
set_option maxHeartbeats 4000000
namespace GX
open PySem PySem.Spec PyProof.Rows L2 GenW

/-! ### sum -/
def vint : V → Int
  | .int i => i
  | _ => 0
def isum (ys : List V) : Int := (ys.map vint).sum
theorem isum_snoc (ys : List V) (i : Int) : isum (ys ++ [.int i]) = isum ys + i := by
  simp [isum, vint]
abbrev sumObj (z : Int) (t : Tok) (c : Nat) : Obj := { cls := .type "list", dict := none, data := .seq #[.int z t] c, slots := #[] }
def cSum (S : Addr) (Qs : Int → Hp → Prop) : Con where
  Sa := [S]
  Own := fun ys pl => ∃ (t : Tok) (c : Nat), pl = [(S, sumObj (isum ys) t c)]
  Yl := fun zs _ => ∃ i, zs.getLast? = some (.int i)
  Go := fun _ => True
  Dn := fun ys H => Qs (isum ys) H

section
variable {X : Cx} {a : Addr} {gn : Nat} {A : Around} {S : Addr} {Qs : Int → Hp → Prop} {R : Result → Shared → Prop}
theorem sum_loop (hh : A.handled = none) (hd : A.depth < recursionLimit) (hSa : a ≠ S) (hSc : cStatics ≠ S)
    (hR : ∀ z t pl σ H s', Inv X pl σ H s' → Qs z H → R (.ok (.ret (.int z t))) s') :
    ∀ (n : Nat) (s : Shared) (z : Int) (t : Tok) (c : Nat) (st : Int), (st = 0 ∨ st = 2) → s.heap.get? S = some (sumObj z t c) → GAt X (cSum S Qs) a gn A.in1.in1 n s → codeAny (model X.prog X.w) A (.builtin "sum.loop" ⟨[.ref a, .ref S, rawInt st, rawInt 0], []⟩) R s := by
  intro n
  induction n using Nat.strongRecOn with
  | ind n ih =>
    intro s z t c st hst hS hg
    refine codeAny_builtin F.entry_sum_loop ?_
    rw [Around.under_plainId F.plain_sum_loop _]
    show wpAny _ A.in1 (seqItems? (.ref S) >>= _) _ _ s
    refine wpAny_bind (wpAny_seqItems hS rfl ?_)
    show wpAny _ A.in1 (tryCatch (pyNext (.ref a)) _ >>= _) _ _ s
    refine wpAny_bind (wpAny_tryCatch (wpAny_mono (next_step (A := A.in1) hh hd (by simpa [cSum] using hSa) (by simpa [cSum] using hSc) hg) (fun r s' h => ?_) fun _ _ z => z))
    rcases h with ⟨rfl, ys, pl, σ, H, h1, h0, ⟨t', c', rfl⟩, h3, h4, h5⟩ | ⟨v, m, ys, x, pl, σ, H, rfl, rfl, h1, h2, h3, h0, ⟨t', c', rfl⟩, h5, h6, ⟨i, e1⟩, h8⟩
    · have e0 := h0 (S, sumObj (isum ys) t' c') List.mem_cons_self
      rw [show s.heap.get? (S, sumObj (isum ys) t' c').1 = some (sumObj z t c) from hS] at e0
      cases e0
      exact wpAny_pure (hR _ t _ σ H s' h4 h5)
    · have e0 := h0 (S, sumObj (isum ys) t' c') List.mem_cons_self
      rw [show s.heap.get? (S, sumObj (isum ys) t' c').1 = some (sumObj z t c) from hS] at e0
      cases e0
      have ex : x = .int i := by
        rw [List.getLast?_append] at e1
        simpa using e1
      subst ex
      obtain ⟨ti, rfl⟩ := h3
      have hp := h6.pin (S, sumObj (isum ys) t c) (List.mem_append_right _ List.mem_cons_self)
      have hS' : s'.heap.get? S = some (sumObj (isum ys) t c) := hp.1
      have fin : ∀ (h' : Heap) (tk : Nat) (t'' : Tok) (c'' : Nat), (∀ b o, b ≠ S → s'.heap.get? b = some o → h'.get? b = some o) → h'.get? S = some (sumObj (isum ys + i) t'' c'') →
          GAt X (cSum S Qs) a gn A.in1.in1 m { s' with heap := h', toks := tk } := fun h' tk t'' c'' k e => by
        refine h8 trivial _ ⟨rfl, h6.bare, fun b o hb q => k b o (fun z => hb (by rw [z]; exact List.mem_cons_self)) q, [(S, sumObj (isum ys + i) t'' c'')], ⟨t'', c'', by rw [isum_snoc]⟩, rfl, fun p hpm => ?_⟩ rfl
        rw [List.mem_singleton.mp hpm]
        exact ⟨e, fun v q => by cases q⟩
      have up : ∀ (h : Heap) (f : Obj → Obj) (b : Addr) (o : Obj), b ≠ S → h.get? b = some o → (h.update S f).get? b = some o := fun h f b o hb e => (Heap.get?_update_other _ _ (Ne.symm hb)).trans e
      -- the long road: a sum of any size
      have far : ∀ st', (st' = 2) → wpAny (model X.prog X.w) A.in1 (updateSeq S (fun _ => #[Value.int (isum ys + i) s'.toks]) >>= fun _ => letGo [Value.int (isum ys) t, Value.int i ti] >>= fun _ => updateSeq S (fun _ => #[Value.int (isum ys + i) s'.toks]) >>= fun _ =>
          again (.builtin "sum.loop" ⟨[.ref a, .ref S, rawInt st', rawInt 0], []⟩)) (fun x s'' => match x with
            | .done f => R (.ok f) s''
            | .again c => c.quiet = true ∧ codeAny (model X.prog X.w) A c R s'') (fun e s'' => R (.error e) s'') { s' with toks := s'.toks + 1 } := by
        rintro st' rfl
        refine wpAny_bind (wpAny_updateSeq hS' rfl ?_)
        have hS₂ := Heap.get?_update_self (Obj.mapSeq fun _ => #[Value.int (isum ys + i) s'.toks]) hS' rfl
        refine wpAny_bind (wpAny_letGo ?_)
        refine wpAny_bind (wpAny_updateSeq hS₂ rfl (wpAny_pure ⟨plainId_quiet F.plain_sum_loop _, ?_⟩))
        have hS₃ := Heap.get?_update_self (Obj.mapSeq fun _ => #[Value.int (isum ys + i) s'.toks]) hS₂ rfl
        exact ih m (Nat.lt_succ_self _) _ _ _ _ 2 (.inr rfl) hS₃ (fin _ _ _ _ (fun b o hb e => up _ _ b o hb (up _ _ b o hb e)) hS₃)
      rcases hst with rfl | rfl
      · show wpAny _ A.in1 (if (_ : Bool) = true then (mkInt (isum ys + i) >>= _) else _) _ _ _
        split
        · refine wpAny_bind (wpAny_mkInt ?_)
          show wpAny _ A.in1 (updateSeq S (fun _ => #[.int (isum ys + i) s'.toks]) >>= _) _ _ _
          refine wpAny_bind (wpAny_updateSeq hS' rfl (wpAny_pure ⟨plainId_quiet F.plain_sum_loop _, ?_⟩))
          have hS₂ := Heap.get?_update_self (Obj.mapSeq fun _ => #[Value.int (isum ys + i) s'.toks]) hS' rfl
          exact ih m (Nat.lt_succ_self _) _ _ _ _ 0 (.inl rfl) hS₂ (fin _ _ _ _ (fun b o hb e => up _ _ b o hb e) hS₂)
        · refine wpAny_bind (wpAny_rule ?_)
          refine wpAny_bind (wpAny_attempt (wpAny_holding (wpAny_add_int ?_)))
          exact far 2 rfl
      · show wpAny _ A.in1 ((holding [Value.int i ti] (binaryOp .Add (.int (isum ys) t) (.int i ti))).attempt >>= _) _ _ _
        refine wpAny_bind (wpAny_attempt (wpAny_holding (wpAny_add_int ?_)))
        exact far 2 rfl
end
end GX
end

section
set_option Elab.async false
set_option linter.all false
set_option maxRecDepth 100000
set_option maxHeartbeats 4000000
namespace GX
open PySem PySem.Spec PyProof.Rows L2 GenW

/-- Xg is the context of a generator's frame that X has made, woken within Ac -/
def IsG (X Xg : Cx) (Ac : Around) (H : Hp) (scope : Scope) : Prop :=
  ∃ s4 cl L cv fp pn, Xg = Cxg X Ac s4 H scope (gEnv scope cl L cv builtinsNs X.env) fp pn ∧ CodeAt X.base H cv
/-- how the generator's turns are read by the consumer -/
def Reads (X : Cx) (C : Con) (Ac : Around) (H : Hp) (J : It) (elt tg : Expr) (ifs : List Expr) (scope : Scope) (own : List (Str × Nat)) (σ : L2.St) : Prop :=
  ∀ Xg, IsG X Xg Ac H scope → ∃ g tt te W m, PG Xg tg g ∧ PTs Xg ifs tt ∧ PE Xg elt te ∧ tGenL C J g tt te (own.map (·.2)) (wipe σ (own.map (·.2))) W ∧ W 0 m [] H

section
variable {X : Cx} {pins : List (Addr × Obj)} {σ : L2.St} {H : Hp} {J : It} {elt tg iter : Expr} {ifs : List Expr} {scope : Scope} {own : List (Str × Nat)} {pos : Pos} {a : Addr} {gn : Nat} {s5 s6 : Shared} {C : Con} {Ac : Around}
theorem MadeAt.gat (M : MadeAt X pins σ H J elt tg iter ifs scope own pos a gn s5) (hh : Ac.handled = none) (hf : Ac.frames = some X.stack) (k6 : ∀ b o, s5.heap.get? b = some o → s6.heap.get? b = some o) (os6 : s6.os = s5.os) (g6 : s6.gens = s5.gens)
    {pl : List (Addr × Obj)} (hown : C.Own [] pl) (hpl : pl.map (·.1) = C.Sa) (hp : ∀ p ∈ pl, s6.heap.get? p.1 = some p.2 ∧ s5.heap.objs.size ≤ p.1 ∧ ∀ v, p.2.data ≠ .cell v)
    (rd : Reads X C Ac H J elt tg ifs scope own σ) :
    ∃ Xg, IsG X Xg Ac H scope ∧ GAt Xg C a gn Ac sizeLine s6 ∧ ∀ {pl' : List (Addr × Obj)} {σ' : L2.St} {H' : Hp} {s' : Shared}, Inv Xg pl' σ' H' s' → Inv X pins σ H' s' := by
  obtain ⟨hI, hgen, _, s4, cl, L, cv, it, fp, tn, go, e1, e2, run⟩ := M
  have hisg : IsG X (Cxg X Ac s4 H scope (gEnv scope cl L cv builtinsNs X.env) fp [(a, go)]) Ac H scope := ⟨s4, cl, L, cv, fp, _, rfl, e2⟩
  obtain ⟨g, tt, te, W, m, q1, q2, q3, q4, q5⟩ := rd _ hisg
  have b5 : AllBare s6.gens := by rw [g6]; exact hI.bare
  obtain ⟨r1, r2⟩ := run C Ac (s6.setGen gn .running) pl g tt te W m hh hf k6 os6 (allBare_setGen b5 rfl) hown hpl hp q1 q2 q3 q4 q5
  have e1' := e1
  rw [← g6] at e1'
  exact ⟨_, hisg, ⟨hgen.keeps k6, hI.nolimit.keeps k6, _, e1', rfl, r1⟩, r2⟩
theorem MadeAt.anew (M : MadeAt X pins σ H J elt tg iter ifs scope own pos a gn s5) : a < s5.heap.objs.size := M.lt

theorem call_all_g {E : Value → Shared → Prop} {Q : VK} {Go : List V → Prop} {k : Nat} (hr : Room k X.A) (M : MadeAt X pins σ H J elt tg iter ifs scope own pos a gn s5)
    (rd : Reads X (cTest X.K false Go fun b H' => Q (.bl b) H') X.A.in1.in1 H J elt tg ifs scope own σ) : wpAny (model X.prog X.w) X.A (call (.builtin "all") [.ref a]) (EP X pins σ Q) E s5 := by
  refine call_function_tree F.kind_all F.plain_all F.entry_all (F.args_all1 _) ?_
  unfold Builtin.«all»
  refine wpAny_bind (m := oneArg "all" _) (wpAny_pure ?_)
  refine wpAny_bind (wpAny_pyIter_gen M.isgen ?_)
  obtain ⟨Xg, hg, hat, back⟩ := M.gat (s6 := s5) (Ac := X.A.in1.in1) hr.hd M.inv.ok.frames (fun _ _ e => e) rfl rfl (pl := []) rfl rfl (fun p hp => absurd hp (by simp)) rd
  obtain ⟨s4, cl, L, cv, fp, pn, rfl, hcv⟩ := hg
  exact wpAny_pure ⟨plainId_quiet F.plain_all_loop _, all_loop (X := Cxg X X.A.in1.in1 s4 H scope (gEnv scope cl L cv builtinsNs X.env) fp pn) (A := X.A) hr.hd hr.depth (fun b pl σ' H' s' I' q => ⟨.bl b, H', back I', rfl, q⟩) sizeLine s5 hat⟩
theorem call_any_g {E : Value → Shared → Prop} {Q : VK} {Go : List V → Prop} {k : Nat} (hr : Room k X.A) (M : MadeAt X pins σ H J elt tg iter ifs scope own pos a gn s5)
    (rd : Reads X (cTest X.K true Go fun b H' => Q (.bl b) H') X.A.in1.in1 H J elt tg ifs scope own σ) : wpAny (model X.prog X.w) X.A (call (.builtin "any") [.ref a]) (EP X pins σ Q) E s5 := by
  refine call_function_tree F.kind_any F.plain_any F.entry_any (F.args_any1 _) ?_
  unfold Builtin.«any»
  refine wpAny_bind (m := oneArg "any" _) (wpAny_pure ?_)
  refine wpAny_bind (wpAny_pyIter_gen M.isgen ?_)
  obtain ⟨Xg, hg, hat, back⟩ := M.gat (s6 := s5) (Ac := X.A.in1.in1) hr.hd M.inv.ok.frames (fun _ _ e => e) rfl rfl (pl := []) rfl rfl (fun p hp => absurd hp (by simp)) rd
  obtain ⟨s4, cl, L, cv, fp, pn, rfl, hcv⟩ := hg
  exact wpAny_pure ⟨plainId_quiet F.plain_any_loop _, any_loop (X := Cxg X X.A.in1.in1 s4 H scope (gEnv scope cl L cv builtinsNs X.env) fp pn) (A := X.A) hr.hd hr.depth (fun b pl σ' H' s' I' q => ⟨.bl b, H', back I', rfl, q⟩) sizeLine s5 hat⟩

theorem call_sum_g {E : Value → Shared → Prop} {Q : VK} {k : Nat} (hr : Room k X.A) (M : MadeAt X pins σ H J elt tg iter ifs scope own pos a gn s5)
    (rd : ∀ S, Reads X (cSum S fun z H' => Q (.int z) H') X.A.in1.in1 H J elt tg ifs scope own σ) : wpAny (model X.prog X.w) X.A (call (.builtin "sum") [.ref a]) (EP X pins σ Q) E s5 := by
  refine call_function_tree F.kind_sum F.plain_sum F.entry_sum (F.args_sum1 _) ?_
  unfold Builtin.«sum»
  simp only [List.length_cons, List.length_nil]
  rw [if_neg (by decide)]
  refine wpAny_bind (wpAny_of_eq (show Builtin.Builtins.bindParams "sum" ["start"] 0 { } = pure [none] from rfl) ?_)
  refine wpAny_bind (wpAny_pyIter_gen M.isgen ?_)
  refine wpAny_bind (wpAny_mkInt ?_)
  refine wpAny_bind (wpAny_pure ?_)
  simp only [List.forIn_cons, List.forIn_nil]
  refine wpAny_bind (wpAny_bind (wpAny_bind (wpAny_isInstance (T := "int") (b := false) (typeIs_int _ _ _) F.sub_int_str ?_)))
  simp only [Bool.false_eq_true, if_false]
  refine wpAny_pure (wpAny_bind (wpAny_bind (wpAny_isInstance (T := "int") (b := false) (typeIs_int _ _ _) F.sub_int_bytes ?_)))
  simp only [Bool.false_eq_true, if_false]
  refine wpAny_pure (wpAny_bind (wpAny_bind (wpAny_isInstance (T := "int") (b := false) (typeIs_int _ _ _) F.sub_int_bytearray ?_)))
  simp only [Bool.false_eq_true, if_false]
  refine wpAny_pure (wpAny_pure ?_)
  refine wpAny_bind (wpAny_newObj_type ?_)
  have hcl : cStatics < s5.heap.objs.size := let ⟨_, hn, _⟩ := M.inv.nolimit; hn.lt
  generalize hs6 : ({ s5 with heap := s5.heap.push { cls := .type "list", data := .seq [Value.int 0 s5.toks].toArray }, toks := s5.toks + 1 } : Shared) = s6
  have hS : s6.heap.get? s5.heap.objs.size = some (sumObj 0 s5.toks 0) := by rw [← hs6]; exact Heap.get?_push_size _ rfl
  obtain ⟨Xg, hg, hat, back⟩ := M.gat (s6 := s6) (Ac := X.A.in1.in1) hr.hd M.inv.ok.frames (fun b o e => by rw [← hs6]; exact Heap.get?_push_of_some _ e) (by rw [← hs6]) (by rw [← hs6]) (C := cSum s5.heap.objs.size fun z H' => Q (.int z) H') (pl := [(s5.heap.objs.size, sumObj 0 s5.toks 0)]) ⟨s5.toks, 0, rfl⟩ rfl (fun p hp => by
    rw [List.mem_singleton.mp hp]
    exact ⟨hS, Nat.le_refl _, fun v q => by cases q⟩) (rd s5.heap.objs.size)
  obtain ⟨s4, cl, L, cv, fp, pn, rfl, hcv⟩ := hg
  refine wpAny_pure ⟨plainId_quiet F.plain_sum_loop _, ?_⟩
  exact sum_loop (X := Cxg X X.A.in1.in1 s4 H scope (gEnv scope cl L cv builtinsNs X.env) fp pn) (A := X.A) hr.hd hr.depth (Nat.ne_of_lt M.lt) (Nat.ne_of_lt hcl) (fun z t pl σ' H' s' I' q => ⟨.int z, H', back I', ⟨t, rfl⟩, q⟩) sizeLine s6 0 s5.toks 0 0 (.inl rfl) hS hat

/-- collect(g), the way of tuple(g): A is that of the collecting -/
theorem collect_g {A : Around} {E : Value → Shared → Prop} {Q : List Value → Shared → Prop} {Qt : List V → Hp → Prop} (hh : A.handled = none) (hd : A.depth < recursionLimit) (hf : A.frames = some X.stack) (M : MadeAt X pins σ H J elt tg iter ifs scope own pos a gn s5)
    (rd : ∀ S, Reads X (cTup S Qt) A.in1.in1 H J elt tg ifs scope own σ) (hQ : ∀ acc ys H' s', Inv X pins σ H' s' → Vals ys acc → ys.length ≤ sizeLine → Qt ys H' → Q acc s') :
    wpAny (model X.prog X.w) A (collect (.ref a)) Q E s5 := by
  have hSI : s5.heap.objs.size ≠ a := Nat.ne_of_gt M.lt
  have hcl : cStatics < s5.heap.objs.size := let ⟨_, hn, _⟩ := M.inv.nolimit; hn.lt
  unfold collect
  refine wpAny_bind (wpAny_runValue (codeAny_builtin F.entry_proto_collect ?_))
  rw [Around.under_plainId F.plain_proto_collect _]
  show wpAny _ A.in1 (newList [] >>= fun l => again (.builtin "list.__iadd__" ⟨[l, .ref a], []⟩)) _ _ s5
  refine wpAny_bind (wpAny_newObj_type ?_)
  refine wpAny_pure ⟨plainId_quiet F.plain_list_iadd _, codeAny_builtin F.entry_list_iadd ?_⟩
  rw [Around.under_plainId F.plain_list_iadd _]
  generalize hs6 : ({ s5 with heap := s5.heap.push { cls := .type "list", data := .seq ([] : List Value).toArray } } : Shared) = s6
  have k6 : ∀ b o, s5.heap.get? b = some o → s6.heap.get? b = some o := fun b o e => by rw [← hs6]; exact Heap.get?_push_of_some _ e
  show wpAny _ A.in1 (Builtin.List.listExtendWith (.ref s5.heap.objs.size) (.ref a) (.ref s5.heap.objs.size)) _ _ _
  unfold Builtin.List.listExtendWith
  refine wpAny_bind (wpAny_typeOf (Heap.IsGen.typeIs (M.isgen.keeps k6)) ?_)
  have h1 : Builtin.List.listSameRef (.ref s5.heap.objs.size) (.ref a) = false := by simp [Builtin.List.listSameRef, hSI]
  have h2 : (Value.type "generator" == Value.type "list") = false := by decide
  have h3 : (Value.type "generator" == Value.type "tuple") = false := by decide
  simp only [h1, h2, h3, Bool.or_false, Bool.false_eq_true, if_false]
  refine wpAny_bind (wpAny_pyIter_gen (M.isgen.keeps k6) ?_)
  refine wpAny_bind (wpAny_holding ?_)
  unfold Builtin.List.listLengthHint
  refine wpAny_bind (wpAny_specialOf (Heap.IsGen.typeIs (M.isgen.keeps k6)) F.gen_no_len ?_)
  show wpAny _ A.in1 (specialOf (Value.ref a) (Str.ofString "__length_hint__") >>= _) _ _ _
  refine wpAny_bind (wpAny_specialOf (Heap.IsGen.typeIs (M.isgen.keeps k6)) F.gen_no_hint ?_)
  refine wpAny_pure ?_
  show wpAny _ A.in1 (rule "list.extend.makes-room" >>= fun _ => Builtin.List.listTouch (.ref s5.heap.objs.size) >>= fun _ =>
    again (.builtin "list.extend.loop" ⟨[.ref s5.heap.objs.size, .ref a, .ref s5.heap.objs.size], []⟩)) _ _ _
  refine wpAny_bind (wpAny_rule ?_)
  have hS₁ : s6.heap.get? s5.heap.objs.size = some { cls := .type "list", data := .seq ([] : List Value).toArray } := by rw [← hs6]; exact Heap.get?_push_size _ rfl
  refine wpAny_bind ?_
  show wpAny _ A.in1 (updateSeq s5.heap.objs.size (·.push .none) >>= fun _ => updateSeq s5.heap.objs.size (·.pop)) _ _ _
  refine wpAny_bind (wpAny_updateSeq hS₁ rfl ?_)
  have hS₂ := Heap.get?_update_self (Obj.mapSeq (·.push Value.none)) hS₁ rfl
  refine wpAny_updateSeq hS₂ rfl ?_
  have hS₃ := Heap.get?_update_self (Obj.mapSeq (·.pop)) hS₂ rfl
  generalize hs7 : ({ s6 with heap := (s6.heap.update s5.heap.objs.size (Obj.mapSeq (·.push Value.none))).update s5.heap.objs.size (Obj.mapSeq (·.pop)) } : Shared) = s7
  obtain ⟨c7, hS7⟩ : ∃ c, s7.heap.get? s5.heap.objs.size = some (lstObj #[] c) := ⟨_, by rw [← hs7]; exact hS₃⟩
  have k7 : ∀ b o, s5.heap.get? b = some o → s7.heap.get? b = some o := fun b o e => by
    have hb := Ne.symm (Nat.ne_of_lt (Heap.lt_size e))
    rw [← hs7]
    exact (Heap.get?_update_other _ _ hb).trans ((Heap.get?_update_other _ _ hb).trans (k6 b o e))
  obtain ⟨Xg, hg, hat, back⟩ := M.gat (s6 := s7) (Ac := A.in1.in1) hh hf k7 (by rw [← hs7, ← hs6]) (by rw [← hs7, ← hs6]) (C := cTup s5.heap.objs.size Qt) (pl := [(s5.heap.objs.size, lstObj #[] c7)]) ⟨#[], c7, rfl, .nil⟩ rfl (fun p hp => by
    rw [List.mem_singleton.mp hp]
    exact ⟨hS7, Nat.le_refl _, fun v q => by cases q⟩) (rd s5.heap.objs.size)
  obtain ⟨s4, cl, L, cv, fp, pn, rfl, hcv⟩ := hg
  refine wpAny_pure ⟨plainId_quiet F.plain_extend_loop _, ?_⟩
  refine extend_loop (X := Cxg X A.in1.in1 s4 H scope (gEnv scope cl L cv builtinsNs X.env) fp pn) (A := A) hh hd (Nat.ne_of_lt M.lt) (Nat.ne_of_lt hcl) (fun ys acc c pl σ' H' s' I' e' rv hz q _ => ?_) sizeLine s7 hat
  show wpAny _ A (load s5.heap.objs.size >>= _) _ _ s'
  refine wpAny_bind (wpAny_load e' ?_)
  exact wpAny_pure (hQ acc.toList ys H' s' (back I') rv hz q)

theorem call_tuple_g {E : Value → Shared → Prop} {Q : VK} {k : Nat} (hr : Room k X.A) (M : MadeAt X pins σ H J elt tg iter ifs scope own pos a gn s5)
    (rd : ∀ S, Reads X (cTup S fun ys H' => ∀ p, H' p = none → Q (.ref p) (upd H' p (.tup ys))) X.A.in4 H J elt tg ifs scope own σ) :
    wpAny (model X.prog X.w) X.A (call (.type "tuple") [.ref a]) (EP X pins σ Q) E s5 := by
  refine callType_codes (Q₁ := fun obj s₁ => s₁.TypeIs obj "tuple" ∧ EP X pins σ Q obj s₁) F.called_tuple (F.typeCall_tuple_1 _) F.entry_object_init ?_ fun obj s₁ h₁ => ?_
  · refine codeAny_of_tree ?_
    show wpAny _ X.A.in1.in1 (do checkBuiltinCall "tuple.__new__" ⟨[.type "tuple", .ref a], []⟩; again (.builtin "tuple.__new__" ⟨[.type "tuple", .ref a], []⟩)) _ _ s5
    refine wpAny_bind (wpAny_of_eq (F.newCall_tuple_1 _) (wpAny_pure ⟨plainId_quiet F.plain_tuple_new _, codeAny_builtin F.entry_tuple_new ?_⟩))
    rw [Around.under_plainId F.plain_tuple_new _]
    have hsub := sub_tuple_self
    have hinit := init_tuple_lookup
    have hmh := madeHere_tuple
    have hTI := Heap.IsGen.typeIs M.isgen
    wp_walk using wpAny_typeOf hTI, collect_g (A := X.A.in1.in1) (Qt := fun ys H' => ∀ p, H' p = none → Q (.ref p) (upd H' p (.tup ys))) hr.hd hr.depth M.inv.ok.frames M rd
    intro acc ys H' s' I' rv hz q
    show wpAny _ _ (Builtin.Tuple.tupleExact acc.toArray >>= fun v => ret v) _ _ _
    unfold Builtin.Tuple.tupleExact
    have hl := rv.length
    refine wpAny_bind (wpAny_newObj_type ?_ (by show acc.toArray.size ≤ sizeLine; rw [List.size_toArray]; omega))
    refine wpAny_pure ⟨⟨_, Heap.get?_push_size _ rfl, rfl⟩, ?_⟩
    have hn : H' s'.heap.objs.size = none := I'.hok.fresh (Nat.le_refl _)
    exact ⟨.ref s'.heap.objs.size, upd H' s'.heap.objs.size (.tup ys), I'.laid (t' := s'.toks) (fun b o e => Heap.get?_push_of_some _ e) (Nat.le_refl _) ⟨hz, acc, rv, ⟨_, Heap.get?_push_size _ rfl, rfl, _, rfl⟩⟩, rfl, q _ hn⟩
  · exact ⟨h₁.1, F.args_object_init_2 obj _, object_init_meets F.called_tuple.init.lookup F.called_tuple.made (by decide) X.prog X.w X.A.in1 _ s₁ ⟨h₁.1, rfl, h₁.2⟩⟩
end
end GX
end

section
set_option Elab.async false
set_option linter.all false
set_option maxRecDepth 100000
set_option maxHeartbeats 4000000
/-! A generator expression with two clauses, collected into a tuple. -/
namespace GX
open PySem PySem.Spec PyProof.Rows L2 GenW

theorem compTurn_g20 (elt tg iter tg1 iter1 : Expr) (ifs ifs1 : List Expr) (scope : Scope) (pos : Pos) (it acc : Value) (env : Env) :
    compTurn (.GeneratorExp elt [⟨tg, iter, ifs, 0⟩, ⟨tg1, iter1, ifs1, 0⟩] scope pos) 0 it acc env = (do
      standAt iter.pos
      match ← pyNext it with
      | none => pure (.done .next)
      | some v =>
        letOwnedTupleGo tg it v
        assign tg env v
        let mut ok := true
        for c in ifs do
          if ok then ok ← isTrue c env (eval c env)
        if ok then
          let x ← eval iter1 env
          standAt iter1.pos
          let x ← foldedSetIterable iter1 env x
          let _ ← runOwn (.compStart (.GeneratorExp elt [⟨tg, iter, ifs, 0⟩, ⟨tg1, iter1, ifs1, 0⟩] scope pos) 1 (← holding [x] (pyIter x)) acc env) env
        again (.compLoop (.GeneratorExp elt [⟨tg, iter, ifs, 0⟩, ⟨tg1, iter1, ifs1, 0⟩] scope pos) 0 it acc env)) := by rfl
theorem compTurn_g21 (elt tg iter tg1 iter1 : Expr) (ifs ifs1 : List Expr) (scope : Scope) (pos : Pos) (it acc : Value) (env : Env) :
    compTurn (.GeneratorExp elt [⟨tg, iter, ifs, 0⟩, ⟨tg1, iter1, ifs1, 0⟩] scope pos) 1 it acc env = (do
      standAt iter1.pos
      match ← pyNext it with
      | none => pure (.done .next)
      | some v =>
        letOwnedTupleGo tg1 it v
        assign tg1 env v
        let mut ok := true
        for c in ifs1 do
          if ok then ok ← isTrue c env (eval c env)
        if ok then
          (do let v ← eval elt env; standAt elt.pos; let _ ← yieldOut env v)
        again (.compLoop (.GeneratorExp elt [⟨tg, iter, ifs, 0⟩, ⟨tg1, iter1, ifs1, 0⟩] scope pos) 1 it acc env)) := by rfl

theorem eval_GeneratorExp2 (elt target iter tg1 iter1 : Expr) (ifs ifs1 : List Expr) (scope : Scope) (pos : Pos) (env : Env) (hco : scope.isCoroutine = false) :
    eval (.GeneratorExp elt [⟨target, iter, ifs, 0⟩, ⟨tg1, iter1, ifs1, 0⟩] scope pos) env = (do
      let x ← eval iter env
      standAt iter.pos
      let x ← genFold iter env x
      let it ← holding [x] (pyIter x)
      enterFrame
      let cl ← closureFor scope env
      let code ← genexprCode env pos (env.qual ++ "<genexpr>") scope
      let bi ← builtinsFor env.globals env.builtins
      let cenv ← newFunctionEnv scope env.globals cl [(".0", it)] (env.qual ++ "<genexpr>.") none code none bi
      newGenerator (.compStart (.GeneratorExp elt [⟨target, iter, ifs, 0⟩, ⟨tg1, iter1, ifs1, 0⟩] scope pos) 0 it .none cenv) "<genexpr>" (env.qual ++ "<genexpr>")) := by
  rw [arm_eval_GeneratorExp]
  simp only [hco, Bool.false_eq_true, if_false]
  cases iter <;> rfl
/-- the reading of the turns of two clauses -/
def tGenL2 (C : Con) (J : It) (g : TG) (tt : TT) (wi1 : TI) (g1 : TG) (tt1 : TT) (te : TE) (vs vs1 : List Nat) (σw : L2.St) (W : Nat → Nat → List V → Hp → Prop) : Prop :=
  ∀ i m ys H, W i m ys H → (J.stop i H ∧ C.Dn ys H) ∨ (J.go i H ∧ ∃ Nx : List V → Hp → Prop, (∀ ys' H', Nx ys' H' → ∃ m', m' < m ∧ W (i + 1) m' ys' H') ∧
    ∀ x H', J.yld i H x H' → g x σw H' fun σ2 H2 => wipe σ2 vs = σw ∧ tt σ2 H2 fun b H3 =>
      if b = true then wi1 σ2 H3 fun J1 H4 => ∃ W1 : Nat → Nat → List V → Hp → Prop, (∃ k, W1 0 k ys H4) ∧ ∀ j k ys H, W1 j k ys H →
        (J1.stop j H ∧ Nx ys H) ∨ (J1.go j H ∧ ∃ Nx1 : List V → Hp → Prop, (∀ ys' H', Nx1 ys' H' → ∃ k', k' < k ∧ W1 (j + 1) k' ys' H') ∧
          ∀ x H', J1.yld j H x H' → g1 x (wipe σ2 vs1) H' fun σ3 H5 => wipe σ3 vs1 = wipe σ2 vs1 ∧ tt1 σ3 H5 fun b H6 =>
            if b = true then te σ3 H6 fun y H7 => ys.length + 1 < sizeLine ∧ C.Yl (ys ++ [y]) H7 ∧ (C.Go (ys ++ [y]) → Nx1 (ys ++ [y]) H7) else Nx1 ys H6)
      else Nx ys H3)

theorem gen2_over {A : Around} {elt tg iter tg1 iter1 : Expr} {ifs ifs1 : List Expr} {scope : Scope} {pos : Pos} {it acc : Value} {env : Env} :
    A.over (.compLoop (.GeneratorExp elt [⟨tg, iter, ifs, 0⟩, ⟨tg1, iter1, ifs1, 0⟩] scope pos) 0 it acc env) [] = A.deeper env := by
  first
    | rfl
    | (obtain ⟨hd, d, fr, gs, u⟩ := A; simp [Around.over, Around.deeper, marksOver, frameCount, unitsOf, envsOf, guardsOf, pushEnvs, pushGuards, Code.envs, Code.env?, Code.isFrame, Code.guards, Code.isGuard, Code.weight, Code.frames, Code.isCreation, Code.isCaller, Code.cUnits])
theorem gen2_over1 {A : Around} {elt tg iter tg1 iter1 : Expr} {ifs ifs1 : List Expr} {scope : Scope} {pos : Pos} {it acc it1 acc1 : Value} {env : Env} {k : Result → Sem Fin} {g : Bool} {l : List Value} {p : Pos} {kp : List Value} :
    A.over (.compLoop (.GeneratorExp elt [⟨tg, iter, ifs, 0⟩, ⟨tg1, iter1, ifs1, 0⟩] scope pos) 1 it1 acc1 env) [.ret k none g l (.compLoop (.GeneratorExp elt [⟨tg, iter, ifs, 0⟩, ⟨tg1, iter1, ifs1, 0⟩] scope pos) 0 it acc env) p kp] = A.deeper env := by
  first
    | rfl
    | (obtain ⟨hd, d, fr, gs, u⟩ := A; simp [Around.over, Around.deeper, marksOver, frameCount, unitsOf, envsOf, guardsOf, pushEnvs, pushGuards, Code.envs, Code.env?, Code.isFrame, Code.guards, Code.isGuard, Code.weight, Code.frames, Code.isCreation, Code.isCaller, Code.cUnits, Frame.where_])

/-- what stays of FpOk -/
def FpS (X : Cx) (b : Addr) : Prop := b ≠ X.env.locals ∧ b ∉ X.fs ∧ (b ∈ X.ex ∨ X.s_0.heap.objs.size ≤ b) ∧ (∀ x c, X.env.cells.lookup x = some c → c ≠ b) ∧ ∀ p ∈ X.pn, p.1 ≠ b
theorem FpS.ok {X : Cx} {b : Addr} {H : Hp} {pl : List (Addr × Obj)} (h : FpS X b) (hn : H b = none) (hp : ∀ p ∈ pl, p.1 ≠ b) : FpOk X pl H b :=
  ⟨hn, h.1, h.2.1, h.2.2.1, h.2.2.2.1, fun p hm => (List.mem_append.mp hm).elim (h.2.2.2.2 p) (hp p)⟩
theorem FpS.of {X : Cx} {b : Addr} {H : Hp} {pl : List (Addr × Obj)} (h : FpOk X pl H b) : FpS X b :=
  ⟨h.2.1, h.2.2.1, h.2.2.2.1, h.2.2.2.2.1, fun p hm => h.2.2.2.2.2 p (List.mem_append_left _ hm)⟩

section
variable {X : Cx} {C : Con} {a : Addr} {gn : Nat} {A : Around} {elt tg iter tg1 iter1 : Expr} {ifs ifs1 : List Expr} {scope : Scope} {pos : Pos} {it it1 : Addr} {fp fp1 : List Addr} {tn tn1 : Nat → Heap → Prop} {J J1 : It} {g g1 : TG} {tt tt1 : TT} {te : TE} {vs vs1 : List Nat} {σw : L2.St} {wi1 : TI}
abbrev eG2 (elt tg iter tg1 iter1 : Expr) (ifs ifs1 : List Expr) (scope : Scope) (pos : Pos) : Expr := .GeneratorExp elt [⟨tg, iter, ifs, 0⟩, ⟨tg1, iter1, ifs1, 0⟩] scope pos

theorem seg_in (hc : X.calm = true) (T : Turn X.prog X.w X.K tg J fp it tn) (T1 : Turn X.prog X.w X.K tg1 J1 fp1 it1 tn1) (pg1 : PG X tg1 g1) (pt1 : PTs X ifs1 tt1) (pe : PE X elt te) (hco : X.env.scope.isCoroutine = false)
    (hxe : X.xe = fun _ _ => False) {fs : List Frame} (hfs : splitAtGen fs = none) (hfg : fs.any Frame.guarded = false)
    (hA : A.over (.compLoop (eG2 elt tg iter tg1 iter1 ifs ifs1 scope pos) 1 (.ref it1) .none X.env) fs = X.A) (hag : ∃ go, (a, go) ∈ X.pn ∧ (∀ h : Heap, h.get? a = some go → h.IsGen a gn))
    (hSa : ∀ b ∈ C.Sa, Apart X b ∧ (∀ p ∈ X.pn, p.1 ≠ b) ∧ b ∉ fp) (hf0 : ∀ b ∈ fp, FpS X b) (hf1 : ∀ b ∈ fp1, FpS X b ∧ b ∉ C.Sa ∧ b ∉ fp) {σ1 : L2.St} (hvs1 : wipe σ1 vs1 = σ1) {W1 : Nat → Nat → List V → Hp → Prop} {Nx : List V → Hp → Prop}
    (turn : ∀ j k ys H, W1 j k ys H → (J1.stop j H ∧ Nx ys H) ∨ (J1.go j H ∧ ∃ Nx1 : List V → Hp → Prop, (∀ ys' H', Nx1 ys' H' → ∃ k', k' < k ∧ W1 (j + 1) k' ys' H') ∧
      ∀ x H', J1.yld j H x H' → g1 x σ1 H' fun σ3 H5 => wipe σ3 vs1 = σ1 ∧ tt1 σ3 H5 fun b H6 =>
        if b = true then te σ3 H6 fun y H7 => ys.length + 1 < sizeLine ∧ C.Yl (ys ++ [y]) H7 ∧ (C.Go (ys ++ [y]) → Nx1 (ys ++ [y]) H7) else Nx1 ys H6)) {o : Nat}
    (Kend : ∀ (n : Nat) (ys : List V) (s₀ s : Shared) (H : Hp) (pl : List (Addr × Obj)), n + ys.length = sizeLine → Nx ys H → (∀ p ∈ pl, s₀.heap.get? p.1 = some p.2) → C.Own ys pl → pl.map (·.1) = C.Sa → Inv X pl σ1 H s → tn o s.heap → (∀ b ∈ fp, H b = none) →
      Seg (model X.prog X.w) A (CR X C) (CY X C a gn) n s₀ (.compLoop (eG2 elt tg iter tg1 iter1 ifs ifs1 scope pos) 1 (.ref it1) .none X.env) (leafOf (.ok .next)) fs s) :
    ∀ (k j n : Nat) (ys : List V) (s₀ s : Shared) (H : Hp) (pl : List (Addr × Obj)), n + ys.length = sizeLine → W1 j k ys H → (∀ p ∈ pl, s₀.heap.get? p.1 = some p.2) → C.Own ys pl → pl.map (·.1) = C.Sa → Inv X pl σ1 H s → tn o s.heap → tn1 j s.heap → (∀ b ∈ fp, H b = none) → (∀ b ∈ fp1, H b = none) →
      Seg (model X.prog X.w) A (CR X C) (CY X C a gn) n s₀ (.compLoop (eG2 elt tg iter tg1 iter1 ifs ifs1 scope pos) 1 (.ref it1) .none X.env)
        ((model X.prog X.w).den (.compLoop (eG2 elt tg iter tg1 iter1 ifs ifs1 scope pos) 1 (.ref it1) .none X.env)) fs s := by
  have npl : ∀ {pl : List (Addr × Obj)} {b : Addr}, pl.map (·.1) = C.Sa → b ∉ C.Sa → ∀ p ∈ pl, p.1 ≠ b := fun {pl b} hpl hb p hp e => hb (by rw [← hpl, ← e]; exact List.mem_map.mpr ⟨p, hp, rfl⟩)
  have stat : ∀ {pl : List (Addr × Obj)} {H' : Hp}, pl.map (·.1) = C.Sa → (∀ b ∈ fp, H' b = none) → ∀ b ∈ fp, FpOk X pl H' b := fun hpl hn b hb => (hf0 b hb).ok (hn b hb) (npl hpl fun z => (hSa b z).2.2 hb)
  have stat1 : ∀ {pl : List (Addr × Obj)} {H' : Hp} {h : Heap}, pl.map (·.1) = C.Sa → (∀ b ∈ fp1, H' b = none) → ∀ b ∈ fp1, FpOk X (pl ++ pinsAt fp h) H' b := fun hpl hn b hb => (hf1 b hb).1.ok (hn b hb) fun p hp e => by
    rcases List.mem_append.mp hp with hp | hp
    · exact npl hpl (hf1 b hb).2.1 p hp e
    · exact (hf1 b hb).2.2 (by rw [← e]; exact (of_pinsAt hp).1)
  intro k
  induction k using Nat.strongRecOn with
  | ind k ih =>
    intro j n ys s₀ s H pl hn hw h0 hown hpl I st st1 hfp hfp1
    show Seg _ A _ _ _ s₀ _ ((compTurn (eG2 elt tg iter tg1 iter1 ifs ifs1 scope pos) 1 (.ref it1) .none X.env).onRaise (fun x => do noteFrame x X.env; theTreesLotGoes x)) fs s
    rw [compTurn_g21, Sem.onRaise_eq_wrap]
    refine seg_bind_wrap (wpAny_standAt ?_)
    have I' := I.pinned (stat hpl hfp) (T.obj _ _ st)
    rcases turn j k ys H hw with ⟨stop, dn⟩ | ⟨go, Nx1, hNx, step⟩
    · have td := T1.done X rfl rfl rfl hc j _ s σ1 H (fun _ _ => False) I' (stat1 hpl hfp1) st1 stop
      refine seg_bind_wrap ?_
      rw [hA]
      refine thnF td fun r s1 ⟨hr, I1⟩ => ?_
      subst hr
      exact Kend n ys s₀ s1 H pl hn dn h0 hown hpl I1.unpinned (T.keep _ _ _ st fun b hb o e => (I1.pin (b, o) (List.mem_append_right _ (List.mem_append_right _ (mem_pinsAt hb e)))).1) hfp
    · have ti := T1.item X rfl rfl rfl hc j _ s σ1 H (fun _ _ => False) I' (stat1 hpl hfp1) st1 go
      refine seg_bind_wrap ?_
      rw [hA]
      refine thnF ti fun r s1 ⟨u, hr, h1⟩ => ?_
      subst hr
      refine seg_bind_wrap ?_
      rw [hA]
      refine thnF h1 fun _ s2 ⟨x, H2, I2, r2, y2, st2, n2⟩ => ?_
      have I2' := I2.pinned (stat1 hpl n2) (T1.obj _ _ st2)
      refine seg_bind_wrap ?_
      rw [hA]
      have hrun := pg1.run _ s2 _ H2 x u _ I2' r2 (step x H2 y2)
      rw [hxe] at hrun
      refine thnF hrun fun _ s3 ⟨σ3, H3, I3, hw3, q3⟩ => ?_
      refine seg_bind_wrap ?_
      rw [hA]
      have hrun2 := pt1.run _ s3 σ3 H3 _ I3 q3
      rw [hxe] at hrun2
      refine thnF hrun2 fun b s4 ⟨H4, I4, q4⟩ => ?_
      have hl3 : σ1.length = σ3.length := by rw [← hw3, wipe_length]
      have back : ∀ {pl' : List (Addr × Obj)} {s' : Shared} {H' : Hp}, Inv X pl' σ3 H' s' → Inv X pl' σ1 H' s' := fun {pl' s' H'} I' => I'.weak hl3 fun j v e => by
        rw [← hw3] at e
        exact (wipe_some e).1
      have pinO : ∀ {s' : Shared} {H' : Hp}, Inv X (pl ++ pinsAt fp s.heap ++ pinsAt fp1 s2.heap) σ3 H' s' → ∀ b ∈ fp, ∀ o, s.heap.get? b = some o → s'.heap.get? b = some o ∧ H' b = none := fun {s' H'} I' b hb o e =>
        let z := I'.pin (b, o) (List.mem_append_right _ (List.mem_append_left _ (List.mem_append_right _ (mem_pinsAt hb e))))
        ⟨z.1, z.2.1⟩
      have pin1 : ∀ {s' : Shared} {H' : Hp}, Inv X (pl ++ pinsAt fp s.heap ++ pinsAt fp1 s2.heap) σ3 H' s' → ∀ b ∈ fp1, ∀ o, s2.heap.get? b = some o → s'.heap.get? b = some o ∧ H' b = none := fun {s' H'} I' b hb o e =>
        let z := I'.pin (b, o) (List.mem_append_right _ (List.mem_append_right _ (mem_pinsAt hb e)))
        ⟨z.1, z.2.1⟩
      have fpn : ∀ {s' : Shared} {H' : Hp}, Inv X (pl ++ pinsAt fp s.heap ++ pinsAt fp1 s2.heap) σ3 H' s' → ∀ b ∈ fp, H' b = none := fun {s' H'} I' b hb => by
        obtain ⟨o, e, _⟩ := T.obj _ _ st b hb
        exact (pinO I' b hb o e).2
      have fpn1 : ∀ {s' : Shared} {H' : Hp}, Inv X (pl ++ pinsAt fp s.heap ++ pinsAt fp1 s2.heap) σ3 H' s' → ∀ b ∈ fp1, H' b = none := fun {s' H'} I' b hb => by
        obtain ⟨o, e, _⟩ := T1.obj _ _ st2 b hb
        exact (pin1 I' b hb o e).2
      cases b with
      | false =>
        simp only [Bool.false_eq_true, if_false] at q4 ⊢
        obtain ⟨k', hk, w'⟩ := hNx ys H4 q4
        exact seg_again rfl (ih k' hk (j + 1) n ys s₀ s4 H4 pl hn w' h0 hown hpl (back I4).unpinned.unpinned (T.keep _ _ _ st fun b hb o e => (pinO I4 b hb o e).1) (T1.keep _ _ _ st2 fun b hb o e => (pin1 I4 b hb o e).1) (fpn I4) (fpn1 I4))
      | true =>
        simp only [if_true] at q4 ⊢
        have hy : ∀ v, yieldOut X.env v = yieldValue v := fun v => by simp only [yieldOut, hco, Bool.false_eq_true, if_false]
        simp only [hy]
        rw [Sem.bind_eq_wrap', Sem.bind_eq_wrap', Sem.wrap_wrap, Sem.wrap_wrap]
        refine seg_wrap ?_
        rw [hA]
        have hrun3 := pe.run _ s4 σ3 H4 _ I4 q4
        rw [hxe] at hrun3
        refine thnF hrun3 fun v s5 ⟨y, H5, I5, r5, hlt, yl, cont⟩ => ?_
        obtain ⟨n, rfl⟩ : ∃ k, n = k + 1 := ⟨n - 1, by omega⟩
        have hgen : s5.heap.IsGen a gn := by
          obtain ⟨go, hm, hg⟩ := hag
          exact hg _ (I5.pin (a, go) (List.mem_append_left _ hm)).1
        have I5' := I5.unpinned.unpinned
        refine seg_at (seg_yield hfs rfl hfg ⟨ys, y, pl, σ3, H5, by omega, hn, r5, h0, hown, hpl, I5', hgen, yl, fun hgo s6 z => ?_⟩)
        obtain ⟨pl', o6, e6, I6⟩ := woken (fun b hb => (hSa b hb).2.1) (fun b hb => (hSa b hb).1) hpl I5' z
        obtain ⟨k', hk, w'⟩ := hNx (ys ++ [y]) H5 (cont hgo)
        refine seg_again rfl (ih k' hk (j + 1) n (ys ++ [y]) s6 s6 H5 pl' ?_ w' (fun p hp => (I6.pin p (List.mem_append_right _ hp)).1) o6 e6 (back I6) (T.keep _ _ _ st fun b hb o e => z.keep b o (fun hz => (hSa b hz).2.2 hb) (pinO I5 b hb o e).1) (T1.keep _ _ _ st2 fun b hb o e => z.keep b o (fun hz => (hf1 b hb).2.1 hz) (pin1 I5 b hb o e).1) (fpn I5) (fpn1 I5))
        rw [List.length_append, List.length_singleton]; omega

theorem seg_start1 {fs : List Frame} {n j : Nat} {s₀ s : Shared} (T1 : Turn X.prog X.w X.K tg1 J1 fp1 it1 tn1) (st1 : tn1 j s.heap)
    (loop : Seg (model X.prog X.w) A (CR X C) (CY X C a gn) n s₀ (.compLoop (eG2 elt tg iter tg1 iter1 ifs ifs1 scope pos) 1 (.ref it1) .none X.env)
        ((model X.prog X.w).den (.compLoop (eG2 elt tg iter tg1 iter1 ifs ifs1 scope pos) 1 (.ref it1) .none X.env)) fs s) :
    Seg (model X.prog X.w) A (CR X C) (CY X C a gn) n s₀ (.compStart (eG2 elt tg iter tg1 iter1 ifs ifs1 scope pos) 1 (.ref it1) .none X.env)
        ((model X.prog X.w).den (.compStart (eG2 elt tg iter tg1 iter1 ifs ifs1 scope pos) 1 (.ref it1) .none X.env)) fs s := by
  show Seg _ A _ _ _ s₀ _ ((compStart (eG2 elt tg iter tg1 iter1 ifs ifs1 scope pos) 1 (.ref it1) .none X.env).onRaise (fun x => do noteFrame x X.env; standAt theWindowsPlace)) fs s
  unfold compStart
  rw [Sem.onRaise_eq_wrap]
  show Seg _ A _ _ _ s₀ _ ((ask >>= _).wrap _ _ _ _) fs s
  refine seg_bind_wrap (wpAny_askSetting ?_)
  split
  · exact seg_again rfl loop
  · first
      | exact seg_bind_wrap (wpAny_rule (seg_bind_wrap (wpAny_standAt (seg_bind_wrap (T1.self _ j s _ _ st1 (seg_again rfl loop))))))
      | (refine seg_bind_wrap (wpAny_rule ?_); show Seg _ A _ _ _ s₀ _ ((standAt iter1.pos >>= _).wrap _ _ _ _) fs s; exact seg_bind_wrap (wpAny_standAt (seg_bind_wrap (T1.self _ j s _ _ st1 (seg_again rfl loop)))))
theorem seg_loop2 (hc : X.calm = true) (T : Turn X.prog X.w X.K tg J fp it tn) (pg : PG X tg g) (pt : PTs X ifs tt) (pi1 : PI X tg1 iter1 wi1) (hs1 : ∀ x, foldedSetIterable iter1 X.env x = pure x) (pg1 : PG X tg1 g1) (pt1 : PTs X ifs1 tt1) (pe : PE X elt te) (hco : X.env.scope.isCoroutine = false)
    (hxe : X.xe = fun _ _ => False) (hex : X.ex = fp) (hA : A.deeper X.env = X.A) (hag : ∃ go, (a, go) ∈ X.pn ∧ (∀ h : Heap, h.get? a = some go → h.IsGen a gn))
    (hSa : ∀ b ∈ C.Sa, Apart X b ∧ (∀ p ∈ X.pn, p.1 ≠ b) ∧ b ∉ fp) (hf0 : ∀ b ∈ fp, FpS X b) (hv1 : ∀ i ∈ vs1, i ∈ vs) {W : Nat → Nat → List V → Hp → Prop} (turn : tGenL2 C J g tt wi1 g1 tt1 te vs vs1 σw W) (hvs : wipe σw vs = σw) :
    ∀ (m i n : Nat) (ys : List V) (s₀ s : Shared) (H : Hp) (pl : List (Addr × Obj)), n + ys.length = sizeLine → W i m ys H → (∀ p ∈ pl, s₀.heap.get? p.1 = some p.2) → C.Own ys pl → pl.map (·.1) = C.Sa → Inv X pl σw H s → tn i s.heap → (∀ b ∈ fp, H b = none) →
      Seg (model X.prog X.w) A (CR X C) (CY X C a gn) n s₀ (.compLoop (eG2 elt tg iter tg1 iter1 ifs ifs1 scope pos) 0 (.ref it) .none X.env)
        ((model X.prog X.w).den (.compLoop (eG2 elt tg iter tg1 iter1 ifs ifs1 scope pos) 0 (.ref it) .none X.env)) [] s := by
  have npl : ∀ {pl : List (Addr × Obj)} {b : Addr}, pl.map (·.1) = C.Sa → b ∉ C.Sa → ∀ p ∈ pl, p.1 ≠ b := fun {pl b} hpl hb p hp e => hb (by rw [← hpl, ← e]; exact List.mem_map.mpr ⟨p, hp, rfl⟩)
  have stat : ∀ {pl : List (Addr × Obj)} {H' : Hp}, pl.map (·.1) = C.Sa → (∀ b ∈ fp, H' b = none) → ∀ b ∈ fp, FpOk X pl H' b := fun hpl hn b hb => (hf0 b hb).ok (hn b hb) (npl hpl fun z => (hSa b z).2.2 hb)
  have ww : ∀ (τ : L2.St), wipe (wipe τ vs1) vs = wipe τ vs := fun τ => by
    refine List.ext_getElem? fun i => ?_
    by_cases hi : i ∈ vs
    · by_cases hl : i < τ.length
      · have h1 : ∀ (ρ : L2.St), i < ρ.length → (wipe ρ vs)[i]? = some none := fun ρ hρ => by
          cases e : (wipe ρ vs)[i]? with
          | none => rw [List.getElem?_eq_none_iff, wipe_length] at e; omega
          | some q =>
            cases q with
            | none => rfl
            | some q => exact absurd hi (wipe_some e).2
        rw [h1 _ (by rw [wipe_length]; exact hl), h1 _ hl]
      · rw [List.getElem?_eq_none (by rw [wipe_length, wipe_length]; omega), List.getElem?_eq_none (by rw [wipe_length]; omega)]
    · rw [wipe_out hi, wipe_out hi, wipe_out fun z => hi (hv1 i z)]
  intro m
  induction m using Nat.strongRecOn with
  | ind m ih =>
    intro i n ys s₀ s H pl hn hw h0 hown hpl I st hfp
    show Seg _ A _ _ _ s₀ _ ((compTurn (eG2 elt tg iter tg1 iter1 ifs ifs1 scope pos) 0 (.ref it) .none X.env).onRaise (leaving X.env)) [] s
    rw [compTurn_g20, Sem.onRaise_eq_wrap]
    refine seg_bind_wrap (wpAny_standAt ?_)
    rcases turn i m ys H hw with ⟨stop, dn⟩ | ⟨go, Nx, hNx, step⟩
    · have td := T.done X rfl rfl rfl hc i pl s σw H (fun _ _ => False) I (stat hpl hfp) st stop
      refine seg_bind_wrap ?_
      rw [gen2_over, hA]
      refine thnF td fun r s1 ⟨hr, I1⟩ => ?_
      subst hr
      exact seg_end (.ok .next) (.inl ⟨.inr rfl, ys, pl, σw, H, hn, h0, hown, hpl, I1, dn⟩)
    · have ti := T.item X rfl rfl rfl hc i pl s σw H (fun _ _ => False) I (stat hpl hfp) st go
      refine seg_bind_wrap ?_
      rw [gen2_over, hA]
      refine thnF ti fun r s1 ⟨u, hr, h1⟩ => ?_
      subst hr
      refine seg_bind_wrap ?_
      rw [gen2_over, hA]
      refine thnF h1 fun _ s2 ⟨x, H2, I2, r2, y2, st2, n2⟩ => ?_
      have I2' := I2.pinned (stat hpl n2) (T.obj _ _ st2)
      refine seg_bind_wrap ?_
      rw [gen2_over, hA]
      have hrun := pg.run _ s2 _ H2 x u _ I2' r2 (step x H2 y2)
      rw [hxe] at hrun
      refine thnF hrun fun _ s3 ⟨σ3, H3, I3, hw3, q3⟩ => ?_
      refine seg_bind_wrap ?_
      rw [gen2_over, hA]
      have hrun2 := pt.run _ s3 σ3 H3 _ I3 q3
      rw [hxe] at hrun2
      refine thnF hrun2 fun b s4 ⟨H4, I4, q4⟩ => ?_
      have hl3 : σw.length = σ3.length := by rw [← hw3, wipe_length]
      have back : ∀ {pl' : List (Addr × Obj)} {s' : Shared} {H' : Hp}, Inv X pl' σ3 H' s' → Inv X pl' σw H' s' := fun {pl' s' H'} I' => I'.weak hl3 fun j v e => by
        rw [← hw3] at e
        exact (wipe_some e).1
      have back1 : ∀ {pl' : List (Addr × Obj)} {s' : Shared} {H' : Hp}, Inv X pl' (wipe σ3 vs1) H' s' → Inv X pl' σw H' s' := fun {pl' s' H'} I' => I'.weak (by rw [hl3, wipe_length]) fun j v e => by
        rw [← hw3, ← ww σ3] at e
        exact (wipe_some e).1
      have into : ∀ {pl' : List (Addr × Obj)} {s' : Shared} {H' : Hp}, Inv X pl' σ3 H' s' → Inv X pl' (wipe σ3 vs1) H' s' := fun {pl' s' H'} I' => I'.weak (wipe_length _ _) fun j v e => (wipe_some e).1
      have pin' : ∀ {s' : Shared} {H' : Hp}, Inv X (pl ++ pinsAt fp s2.heap) σ3 H' s' → ∀ b ∈ fp, ∀ o, s2.heap.get? b = some o → s'.heap.get? b = some o ∧ H' b = none := fun {s' H'} I' b hb o e =>
        let z := I'.pin (b, o) (List.mem_append_right _ (List.mem_append_right _ (mem_pinsAt hb e)))
        ⟨z.1, z.2.1⟩
      have fpn : ∀ {s' : Shared} {H' : Hp}, Inv X (pl ++ pinsAt fp s2.heap) σ3 H' s' → ∀ b ∈ fp, H' b = none := fun {s' H'} I' b hb => by
        obtain ⟨o, e, _⟩ := T.obj _ _ st2 b hb
        exact (pin' I' b hb o e).2
      cases b with
      | false =>
        simp only [Bool.false_eq_true, if_false] at q4 ⊢
        obtain ⟨m', hm, w'⟩ := hNx ys H4 q4
        exact seg_again rfl (ih m' hm (i + 1) n ys s₀ s4 H4 pl hn w' h0 hown hpl (back I4).unpinned (T.keep _ _ _ st2 fun b hb o e => (pin' I4 b hb o e).1) (fpn I4))
      | true =>
        simp only [if_true] at q4 ⊢
        have hrun3 := pi1.run _ s4 σ3 H4 _ I4 q4
        rw [hxe] at hrun3
        refine seg_bind_wrap ?_
        rw [gen2_over, hA]
        refine thnF hrun3 fun v s5 h5 => ?_
        refine seg_bind_wrap (wpAny_standAt ?_)
        refine seg_bind_wrap (wpAny_of_eq (hs1 v) ?_)
        refine seg_bind_wrap ?_
        rw [gen2_over, hA]
        refine wpAny_holding (thnF h5 fun itv s6 h6 => ?_)
        obtain ⟨it1, fp1, tn1, J1, H6, e6, I6, T1, st6, f6, W1, ⟨k0, w0⟩, turn1⟩ := h6
        subst e6
        have hf1 : ∀ b ∈ fp1, FpS X b ∧ b ∉ C.Sa ∧ b ∉ fp := fun b hb => by
          refine ⟨FpS.of (f6 b hb), fun hz => ?_, fun hz => ?_⟩
          · rw [← hpl] at hz
            obtain ⟨p, hp, e⟩ := List.mem_map.mp hz
            exact (f6 b hb).2.2.2.2.2 p (List.mem_append_right _ (List.mem_append_left _ hp)) e
          · obtain ⟨o, e, _⟩ := T.obj _ _ st2 b hz
            exact (f6 b hb).2.2.2.2.2 (b, o) (List.mem_append_right _ (List.mem_append_right _ (mem_pinsAt hz e))) rfl
        refine seg_call fun p => ?_
        refine seg_start1 T1 st6 ?_
        refine seg_in hc T T1 pg1 pt1 pe hco hxe rfl rfl (by rw [gen2_over1]; exact hA) hag hSa hf0 hf1 (wipe_wipe σ3 vs1) (W1 := W1) (Nx := Nx) turn1 (o := i + 1) ?_ k0 0 n ys s₀ s6 H6 pl hn w0 h0 hown hpl (into I6).unpinned (T.keep _ _ _ st2 fun b hb o e => (pin' I6 b hb o e).1) st6 (fpn I6) (fun b hb => (f6 b hb).1)
        intro n' ys' s0' s' H' pl' q1 q2 q3 q4 q5 q6 q7 q8
        obtain ⟨m', hm, w'⟩ := hNx ys' H' q2
        exact seg_leaf (.ok .next) (seg_again rfl (ih m' hm (i + 1) n' ys' s0' s' H' pl' q1 w' q3 q4 q5 (back1 q6) q7 q8))
theorem seg_first2 (hc : X.calm = true) (T : Turn X.prog X.w X.K tg J fp it tn) (pg : PG X tg g) (pt : PTs X ifs tt) (pi1 : PI X tg1 iter1 wi1) (hs1 : ∀ x, foldedSetIterable iter1 X.env x = pure x) (pg1 : PG X tg1 g1) (pt1 : PTs X ifs1 tt1) (pe : PE X elt te) (hco : X.env.scope.isCoroutine = false)
    (hxe : X.xe = fun _ _ => False) (hex : X.ex = fp) (hA : A.deeper X.env = X.A) (hag : ∃ go, (a, go) ∈ X.pn ∧ (∀ h : Heap, h.get? a = some go → h.IsGen a gn))
    (hSa : ∀ b ∈ C.Sa, Apart X b ∧ (∀ p ∈ X.pn, p.1 ≠ b) ∧ b ∉ fp) (hpf : ∀ p ∈ X.pn, p.1 ∉ fp) (hv1 : ∀ i ∈ vs1, i ∈ vs) {W : Nat → Nat → List V → Hp → Prop} (turn : tGenL2 C J g tt wi1 g1 tt1 te vs vs1 σw W) (hvs : wipe σw vs = σw)
    {m : Nat} {s : Shared} {H : Hp} {pl : List (Addr × Obj)} (hw : W 0 m [] H) (hown : C.Own [] pl) (hpl : pl.map (·.1) = C.Sa) (I : Inv X pl σw H s) (st : tn 0 s.heap) (hfp : ∀ b ∈ fp, H b = none) :
      Seg (model X.prog X.w) A (CR X C) (CY X C a gn) sizeLine s (.compStart (.GeneratorExp elt [⟨tg, iter, ifs, 0⟩, ⟨tg1, iter1, ifs1, 0⟩] scope pos) 0 (.ref it) .none X.env)
        ((model X.prog X.w).den (.compStart (.GeneratorExp elt [⟨tg, iter, ifs, 0⟩, ⟨tg1, iter1, ifs1, 0⟩] scope pos) 0 (.ref it) .none X.env)) [] s := by
  have loop := seg_loop2 (pos := pos) (scope := scope) (iter := iter) hc T pg pt pi1 hs1 pg1 pt1 pe hco hxe hex hA hag hSa (fun b hb => have hb' : b ∈ X.ex := by (rw [hex]; exact hb)
    ⟨(I.ok.exf b hb').1, I.ok.exfs b hb', .inl hb', fun x c e => (I.ok.exf b hb').2 x c e, fun p hp e => hpf p hp (by rw [e]; exact hb)⟩) hv1 turn hvs m 0 sizeLine [] s s H pl (Nat.add_zero _) hw (fun p hp => (I.pin p (List.mem_append_right _ hp)).1) hown hpl I st hfp
  show Seg _ A _ _ _ s _ ((compStart (.GeneratorExp elt [⟨tg, iter, ifs, 0⟩, ⟨tg1, iter1, ifs1, 0⟩] scope pos) 0 (.ref it) .none X.env).onRaise (leaving X.env)) [] s
  unfold compStart
  rw [Sem.onRaise_eq_wrap]
  show Seg _ A _ _ _ s _ ((ask >>= _).wrap _ _ _ _) [] s
  refine seg_bind_wrap (wpAny_askSetting ?_)
  split
  · exact seg_again rfl loop
  · first
      | exact seg_bind_wrap (wpAny_rule (seg_bind_wrap (wpAny_standAt (seg_bind_wrap (T.self _ 0 s _ _ st (seg_again rfl loop))))))
      | (refine seg_bind_wrap (wpAny_rule ?_); show Seg _ A _ _ _ s _ ((standAt iter.pos >>= _).wrap _ _ _ _) [] s; exact seg_bind_wrap (wpAny_standAt (seg_bind_wrap (T.self _ 0 s _ _ st (seg_again rfl loop)))))
end

/-- the generator stands, not begun -/
structure MadeAt2 (X : Cx) (pins : List (Addr × Obj)) (σ : L2.St) (H : Hp) (J : It) (elt tg iter tg1 iter1 : Expr) (ifs ifs1 : List Expr) (scope : Scope) (own : List (Str × Nat)) (vs1 : List Nat) (pos : Pos) (a : Addr) (gn : Nat) (s5 : Shared) : Prop where
  inv : Inv X pins σ H s5
  isgen : s5.heap.IsGen a gn
  lt : a < s5.heap.objs.size
  run : ∃ (s4 : Shared) (cl : List (Str × Addr)) (L : Addr) (cv : Value) (it : Addr) (fp : List Addr) (tn : Nat → Heap → Prop) (go : Obj),
    s5.gens[gn]? = some (.fresh (.compStart (.GeneratorExp elt [⟨tg, iter, ifs, 0⟩, ⟨tg1, iter1, ifs1, 0⟩] scope pos) 0 (.ref it) .none (gEnv scope cl L cv builtinsNs X.env))) ∧ CodeAt X.base H cv ∧
    ∀ (C : Con) (Ac : Around) (s6 : Shared) (pl : List (Addr × Obj)) (g : TG) (tt : TT) (wi1 : TI) (g1 : TG) (tt1 : TT) (te : TE) (W : Nat → Nat → List V → Hp → Prop) (m : Nat), Ac.handled = none → Ac.frames = some X.stack →
      (∀ b o, s5.heap.get? b = some o → s6.heap.get? b = some o) → s6.os = s5.os → AllBare s6.gens → C.Own [] pl → pl.map (·.1) = C.Sa →
      (∀ p ∈ pl, s6.heap.get? p.1 = some p.2 ∧ s5.heap.objs.size ≤ p.1 ∧ ∀ v, p.2.data ≠ .cell v) →
      PG (Cxg X Ac s4 H scope (gEnv scope cl L cv builtinsNs X.env) fp [(a, go)]) tg g → PTs (Cxg X Ac s4 H scope (gEnv scope cl L cv builtinsNs X.env) fp [(a, go)]) ifs tt → PI (Cxg X Ac s4 H scope (gEnv scope cl L cv builtinsNs X.env) fp [(a, go)]) tg1 iter1 wi1 → PG (Cxg X Ac s4 H scope (gEnv scope cl L cv builtinsNs X.env) fp [(a, go)]) tg1 g1 → PTs (Cxg X Ac s4 H scope (gEnv scope cl L cv builtinsNs X.env) fp [(a, go)]) ifs1 tt1 → PE (Cxg X Ac s4 H scope (gEnv scope cl L cv builtinsNs X.env) fp [(a, go)]) elt te →
      tGenL2 C J g tt wi1 g1 tt1 te (own.map (·.2)) vs1 (wipe σ (own.map (·.2))) W → W 0 m [] H →
      Seg (model X.prog X.w) Ac (CR (Cxg X Ac s4 H scope (gEnv scope cl L cv builtinsNs X.env) fp [(a, go)]) C) (CY (Cxg X Ac s4 H scope (gEnv scope cl L cv builtinsNs X.env) fp [(a, go)]) C a gn) sizeLine s6
        (.compStart (.GeneratorExp elt [⟨tg, iter, ifs, 0⟩, ⟨tg1, iter1, ifs1, 0⟩] scope pos) 0 (.ref it) .none (gEnv scope cl L cv builtinsNs X.env))
        ((model X.prog X.w).den (.compStart (.GeneratorExp elt [⟨tg, iter, ifs, 0⟩, ⟨tg1, iter1, ifs1, 0⟩] scope pos) 0 (.ref it) .none (gEnv scope cl L cv builtinsNs X.env))) [] s6 ∧
      ∀ {pl' : List (Addr × Obj)} {σ' : L2.St} {H' : Hp} {s' : Shared}, Inv (Cxg X Ac s4 H scope (gEnv scope cl L cv builtinsNs X.env) fp [(a, go)]) pl' σ' H' s' → Inv X pins σ H' s'

section
variable {X : Cx} {pins : List (Addr × Obj)} {σ : L2.St} {H : Hp} {s : Shared}
theorem gen_made2 {k : Nat} {elt tg iter tg1 iter1 : Expr} {ifs ifs1 : List Expr} {scope : Scope} {own : List (Str × Nat)} {pos : Pos} {wi : TI} {R : It → Hp → Prop} {Q' : Value → Shared → Prop}
    (hN : X.N.Nodup) (hr : Room k X.A) (bm : BmAt X.base X.mg) (ok : GenOk X.N X.env.scope scope own) (hcalm : X.calm = true) (hi : PI X tg iter wi) (hs : ∀ x, genFold iter X.env x = pure x) {vs1 : List Nat} (hs1 : ∀ env x, foldedSetIterable iter1 env x = pure x) (hv1 : ∀ i ∈ vs1, i ∈ own.map (·.2))
    (I : Inv X pins σ H s) (h : wi σ H fun J H1 => CodeAt X.base H1 X.env.code ∧ TabAll H1 ∧ R J H1)
    (hQ : ∀ J H1 H2 a gn s5, R J H1 → Grow [] H1 H2 → TabAll H2 → MadeAt2 X pins σ H2 J elt tg iter tg1 iter1 ifs ifs1 scope own vs1 pos a gn s5 → Q' (.ref a) s5) :
    wpAny (model X.prog X.w) X.A (eval (.GeneratorExp elt [⟨tg, iter, ifs, 0⟩, ⟨tg1, iter1, ifs1, 0⟩] scope pos) X.env) Q' X.xe s := by
  have hfree : ∀ y ∈ scope.names, y.2 = .free → ∃ c, X.env.cells.lookup y.1 = some c := fun y hy e => by
    rcases ok.blk.free y hy e with k | k
    · exact I.ok.has _ (.inl k)
    · exact I.ok.has _ (.inr k)
  rw [eval_GeneratorExp2 _ _ _ _ _ _ _ _ _ _ ok.co, closure_ok hfree]
  refine wpAny_bind (thn (hi.run pins s σ H _ I h) fun xv s1 hx => ?_)
  refine wpAny_bind (wpAny_standAt ?_)
  refine wpAny_bind (wpAny_of_eq (hs xv) ?_)
  refine wpAny_bind (wpAny_holding (thn hx fun itv s2 h2 => ?_))
  obtain ⟨it, fp, tn, J, H1, e, I2, T, st2, f2, hcode, htab, hR⟩ := h2
  subst e
  refine wpAny_bind (wpAny_enterFrame I2.nolimit hr.depth ?_)
  refine wpAny_bind (wpAny_pure ?_)
  have sz : ∀ b ∈ fp, b < s2.heap.objs.size := fun b hb => by
    obtain ⟨o, e, _⟩ := T.obj _ _ st2 b hb
    exact Heap.lt_size e
  have key : ∀ (cv : Value) (s3 : Shared) (H2 : Hp), Inv X pins σ H2 s3 → Grow [] H1 H2 → TabAll H2 → CodeAt X.base H2 cv → tn 0 s3.heap → (∀ b ∈ fp, FpOk X pins H2 b ∧ b < s3.heap.objs.size) →
      wpAny (model X.prog X.w) X.A (builtinsFor X.env.globals X.env.builtins >>= fun bi => newFunctionEnv scope X.env.globals (cloFrom X.env.cells scope.names []) [(".0", .ref it)] (X.env.qual ++ "<genexpr>.") none cv none bi >>= fun cenv =>
        newGenerator (.compStart (.GeneratorExp elt [⟨tg, iter, ifs, 0⟩, ⟨tg1, iter1, ifs1, 0⟩] scope pos) 0 (.ref it) .none cenv) "<genexpr>" (X.env.qual ++ "<genexpr>")) Q' X.xe s3 := by
    intro cv s3 H2 I3 hg ht hcv st3 f3
    obtain ⟨bmA, ob, e1, e2, e3, e4, e5, e6⟩ := bm
    refine wpAny_bind (wpAny_builtinsFor (m := X.mg) (by rw [I3.ok.glob]; exact I3.mod.glob.keeps I3.bk) e1 e2 (I3.bk _ _ e3) e4 e5 e6 ?_)
    refine wpAny_bind (newEnv_gen ok.blk.kind ok.dot fun h' tk hns hsb => ?_)
    simp only [newGenerator, newFields]
    refine wpAny_bind (wpAny_newGen (wpAny_bind (wpAny_mkText (wpAny_bind (wpAny_mkText (wpAny_newObj_type ?_ (by size_fits)))))))
    have szle : (pushCells (s3.heap.push { cls := .type "frame", data := .dict #[] }) scope.names).objs.size = h'.objs.size := hsb.1.symm
    have szs : s3.heap.objs.size + 1 ≤ h'.objs.size := by
      rw [← szle, ← Heap.size_push s3.heap { cls := .type "frame", data := .dict #[] }]
      exact pushCells_size _ _
    have kp1 : ∀ b o, s3.heap.get? b = some o → h'.get? b = some o := fun b o e => (hsb.2 b (Nat.ne_of_lt (Heap.lt_size e))).trans (pushCells_keeps _ _ _ _ (Heap.get?_push_of_some _ e))
    generalize hgo : ({ cls := .type "generator", data := .fields _ } : Obj) = go
    have hgen : ∀ hh : Heap, hh.get? h'.objs.size = some go → hh.IsGen h'.objs.size s3.gens.size := fun hh e => ⟨go, _, _, e, by rw [← hgo], by rw [← hgo]; rfl, by rw [← hgo]⟩
    have hgc : ∀ v, go.data ≠ .cell v := fun v q => by rw [← hgo] at q; cases q
    have hpush : (h'.push go).get? h'.objs.size = some go := Heap.get?_push_size _ (by rw [← hgo]; rfl)
    have kp2 : ∀ b o, s3.heap.get? b = some o → (h'.push go).get? b = some o := fun b o e => Heap.get?_push_of_some _ (kp1 b o e)
    refine hQ J H1 H2 h'.objs.size s3.gens.size _ hR hg ht ⟨?_, hgen _ hpush, by show h'.objs.size < (h'.push go).objs.size; rw [Heap.size_push]; exact Nat.lt_succ_self _, ?_⟩
    · exact I3.call' (ch := []) rfl (Un.kept kp2) (I3.hok.kept kp2) (AllBare.push I3.bare rfl) fun b z => by simp at z
    · refine ⟨s3, _, _, cv, it, fp, tn, go, Array.getElem?_push_size .., hcv, fun C Ac s6 pl g tt wi1 g1 tt1 te W m hh hfr k6 os6 b6 hown hpl hp pg pt pi1 pg1 pt1 pe turn hw => ?_⟩
      have I6 := gen_start (A := Ac) (fp := fp) (code := cv) (bi := builtinsNs) (pn := [(h'.objs.size, go)]) (pl := pl) (s6 := s6) I3 ok hN f3 hfr hh rfl hns hsb (fun b o e => k6 b o (Heap.get?_push_of_some _ e)) os6 b6 (fun p hpm => by
        rcases List.mem_append.mp hpm with z | z
        · rw [List.mem_singleton.mp z]
          exact ⟨k6 _ _ hpush, Nat.le_refl _, hgc⟩
        · obtain ⟨z1, z2, z3⟩ := hp p z
          have z2' : (h'.push go).objs.size ≤ p.1 := z2
          rw [Heap.size_push] at z2'
          exact ⟨z1, Nat.le_of_succ_le z2', z3⟩)
      have szb : ∀ b ∈ C.Sa, h'.objs.size + 1 ≤ b ∧ ∃ o, s6.heap.get? b = some o ∧ ∀ v, o.data ≠ .cell v := fun b hb => by
        rw [← hpl] at hb
        obtain ⟨p, hpm, e⟩ := List.mem_map.mp hb
        obtain ⟨z1, z2, z3⟩ := hp p hpm
        have z2' : (h'.push go).objs.size ≤ p.1 := z2
        rw [Heap.size_push] at z2'
        rw [← e]
        exact ⟨z2', p.2, z1, z3⟩
      refine ⟨seg_first2 (X := Cxg X Ac s3 H2 scope (gEnv scope (cellsFrom (s3.heap.objs.size + 1) scope.names (cloFrom X.env.cells scope.names [])) s3.heap.objs.size cv builtinsNs X.env) fp [(h'.objs.size, go)]) hcalm T pg pt pi1 (hs1 _) pg1 pt1 pe ok.co rfl rfl rfl ⟨go, List.mem_singleton.mpr rfl, fun hh e => hgen hh e⟩ (fun b hb => ?_) (fun p hpm hf => ?_) hv1 turn (wipe_wipe _ _) hw hown hpl I6 (T.keep _ _ _ st3 fun b _ o e => k6 b o (kp2 b o e)) fun b hb => (f3 b hb).1.1, fun {pl' σ' H' s'} I' => ?_⟩
      · obtain ⟨z1, o, z2, z3⟩ := szb b hb
        refine ⟨⟨Nat.le_of_succ_le (Nat.le_trans szs (Nat.le_of_succ_le z1)), ?_, fun x c e q => ?_⟩, fun p hpm => ?_, fun hf => ?_⟩
        · exact Nat.ne_of_gt (Nat.lt_of_succ_le (Nat.le_trans szs (Nat.le_of_succ_le z1)))
        · obtain ⟨v, oc, e1, e2⟩ := I6.cell x c e
          rw [q, z2] at e1; cases e1
          exact z3 _ e2
        · rw [List.mem_singleton.mp hpm]
          exact Nat.ne_of_lt (Nat.lt_of_succ_le z1)
        · exact absurd (Nat.lt_of_lt_of_le (f3 b hf).2 (Nat.le_of_succ_le (Nat.le_trans szs (Nat.le_of_succ_le z1)))) (Nat.lt_irrefl _)
      · rw [List.mem_singleton.mp hpm] at hf
        exact absurd (Nat.lt_of_lt_of_le (f3 _ hf).2 (Nat.le_of_succ_le szs)) (Nat.lt_irrefl _)
      · exact I3.call' (ch := fp) I'.os I'.base I'.hok I'.bare fun b hb => ⟨(f3 b hb).1.2.2.2.1, (f3 b hb).1.2.1, (f3 b hb).1.2.2.2.2.1, (f3 b hb).1.2.2.2.2.2⟩
  obtain ⟨c, P, ps, hcv, hP, hd⟩ := hcode.hd I2
  have hPs : s2.heap.get? P = some { cls := .none, data := .fields ps } := I2.hok P _ hP
  obtain ⟨ht1, ht2⟩ := htab P ps hP
  cases hf : codeAmong pos ps.toList with
  | some cv =>
    refine wpAny_bind (wpAny_genexprCode_hit hcv (hd.code hPs ht1) hf ?_)
    obtain ⟨c', P', o', q1, q2, q3, q4, q5⟩ := ht2 pos cv hf
    exact key cv s2 H1 I2 (.refl _) htab ⟨c', P', q1, q2, q5, .inr ⟨o', q3, q4⟩⟩ st2 fun b hb => ⟨f2 b hb, sz b hb⟩
  | none =>
    refine wpAny_bind (wpAny_genexprCodeX hcv (hd.code hPs ht1) (hd.tab hPs) hf fun c' h' tk hx hge hlt hco' _ htab' hnew => ?_)
    obtain ⟨P', hP', hc1, ht1'⟩ := hnew
    obtain ⟨o', vs, file, tf, flags, tg', inF, text, tt, z1, z2, z3, z4, z5, z6, z7, z8, z9, zne⟩ := PySem.W.CodeHd.of hc1 ht1'
    have htr : TriplesOk (ps ++ #[rawInt pos.line, rawInt pos.col, .ref c']).toList := by
      obtain ⟨_, _, _, _, _, _, _, _, _, _, _, _, _, _, _, _, _, _, _, htr, _⟩ := hco'
      exact htr
    have I3 := Inv.coded (tk := tk) I2 hP hx hge hP' zne z1 ht1'.2 htab'.2
    have lt : ∀ b u, H1 b = some u → b < s2.heap.objs.size := fun b u e => I2.hok.lt e
    have n1 : ∀ {b : Addr}, b < s2.heap.objs.size → b ≠ c' := fun h => Nat.ne_of_lt (Nat.lt_of_lt_of_le h hge)
    have n2 : ∀ {b : Addr}, b < s2.heap.objs.size → b ≠ P' := fun h => Nat.ne_of_lt (Nat.lt_of_lt_of_le h hP')
    have hPlt := lt P _ hP
    generalize hH2 : upd (upd (upd H1 P (.tbl (ps ++ #[rawInt pos.line, rawInt pos.col, .ref c']))) c' (.ext fun h => h.get? c' = some o')) P' (.tbl #[]) = H2 at I3
    have old : ∀ {b : Addr}, b < s2.heap.objs.size → b ≠ P → H2 b = H1 b := fun hb hn => by
      rw [← hH2, upd_ne (n2 hb), upd_ne (n1 hb), upd_ne hn]
    have atP : H2 P = some (.tbl (ps ++ #[rawInt pos.line, rawInt pos.col, .ref c'])) := by rw [← hH2, upd_ne (n2 hPlt), upd_ne (n1 hPlt), upd_same]
    have atP' : H2 P' = some (.tbl #[]) := by rw [← hH2, upd_same]
    have atc : H2 c' = some (.ext fun h => h.get? c' = some o') := by rw [← hH2, upd_ne zne, upd_same]
    have grow : Grow [] H1 H2 := fun b o e => by
      by_cases hb : b = P
      · rw [hb, hP] at e; cases e
        exact .inr (.inr ⟨⟨ps, rfl⟩, _, by rw [hb]; exact atP⟩)
      · exact .inr (.inl (by rw [old (lt b _ e) hb]; exact e))
    have cobj : CodeObj o' P' := ⟨vs, file, tf, flags, tg', inF, text, tt, z2, z3, z4, z5, z6, z7, z8, z9⟩
    have tabs : TabAll H2 := fun Pa qs e => by
      by_cases h1 : Pa = P'
      · rw [h1, atP'] at e; cases e
        exact ⟨trivial, fun pos cv z => by cases z⟩
      · by_cases h2 : Pa = P
        · rw [h2, atP] at e; cases e
          refine ⟨htr, fun pos' cv z => ?_⟩
          have hl : (ps ++ #[rawInt pos.line, rawInt pos.col, Value.ref c']).toList = ps.toList ++ [rawInt pos.line, rawInt pos.col, .ref c'] := by simp
          rw [hl] at z
          have split : ∀ (l : List Value), TriplesOk l → codeAmong pos' (l ++ [rawInt pos.line, rawInt pos.col, .ref c']) = some cv → codeAmong pos' l = some cv ∨ cv = .ref c' := by
            intro l
            fun_induction TriplesOk l with
            | case1 =>
              intro _ z
              simp only [List.nil_append, codeAmong, rawInt] at z
              split at z
              · cases z; exact .inr rfl
              · cases z
            | case2 a t b u x rest ih =>
              intro hl z
              simp only [List.cons_append, codeAmong] at z ⊢
              split at z
              · rename_i hc; rw [if_pos hc]; exact .inl z
              · rename_i hc; rw [if_neg hc]; exact ih hl z
            | case3 l h1 h2 => intro hl; exact hl.elim
          rcases split _ ht1 z with z | z
          · obtain ⟨c2, P2, o2, q1, q2, q3, q4, ps2, q5⟩ := ht2 pos' cv z
            refine ⟨c2, P2, o2, q1, q2, ?_, q4, ?_⟩
            · rw [old (lt c2 _ q3) (fun z => by rw [z, hP] at q3; cases q3)]; exact q3
            · by_cases hb : P2 = P
              · exact ⟨_, by rw [hb]; exact atP⟩
              · exact ⟨ps2, by rw [old (lt P2 _ q5) hb]; exact q5⟩
          · exact ⟨c', P', o', z, zne, atc, cobj, _, atP'⟩
        · have hPa : Pa ≠ c' := fun z => by rw [z, atc] at e; cases e
          have e' : H1 Pa = some (.tbl qs) := by
            rw [← hH2, upd_ne h1, upd_ne hPa, upd_ne h2] at e; exact e
          obtain ⟨k1, k2⟩ := htab Pa qs e'
          refine ⟨k1, fun pos' cv z => ?_⟩
          obtain ⟨c2, P2, o2, q1, q2, q3, q4, ps2, q5⟩ := k2 pos' cv z
          refine ⟨c2, P2, o2, q1, q2, ?_, q4, ?_⟩
          · rw [old (lt c2 _ q3) (fun z => by rw [z, hP] at q3; cases q3)]; exact q3
          · by_cases hb : P2 = P
            · exact ⟨_, by rw [hb]; exact atP⟩
            · exact ⟨ps2, by rw [old (lt P2 _ q5) hb]; exact q5⟩
    refine key (.ref c') { s2 with heap := h', toks := tk } H2 I3 grow tabs ⟨c', P', rfl, zne, ⟨_, atP'⟩, .inr ⟨o', atc, cobj⟩⟩ (T.keep _ _ _ st2 fun b hb o e => hx b o (fun z => ?_) e) fun b hb => ⟨⟨?_, (f2 b hb).2⟩, ?_⟩
    · have := (f2 b hb).1
      rw [z, hP] at this; cases this
    · rw [old (sz b hb) (fun z => by have := (f2 b hb).1; rw [z, hP] at this; cases this)]
      exact (f2 b hb).1
    · obtain ⟨o, e, _⟩ := T.obj _ _ st2 b hb
      exact Heap.lt_size (hx b o (fun z => by have := (f2 b hb).1; rw [z, hP] at this; cases this) e)
end

/-- how the generator's turns are read by the consumer -/
def Reads2 (X : Cx) (C : Con) (Ac : Around) (H : Hp) (J : It) (elt tg tg1 iter1 : Expr) (ifs ifs1 : List Expr) (scope : Scope) (own : List (Str × Nat)) (vs1 : List Nat) (σ : L2.St) : Prop :=
  ∀ Xg, IsG X Xg Ac H scope → ∃ g tt wi1 g1 tt1 te W m, PG Xg tg g ∧ PTs Xg ifs tt ∧ PI Xg tg1 iter1 wi1 ∧ PG Xg tg1 g1 ∧ PTs Xg ifs1 tt1 ∧ PE Xg elt te ∧ tGenL2 C J g tt wi1 g1 tt1 te (own.map (·.2)) vs1 (wipe σ (own.map (·.2))) W ∧ W 0 m [] H

section
variable {X : Cx} {pins : List (Addr × Obj)} {σ : L2.St} {H : Hp} {J : It} {elt tg iter tg1 iter1 : Expr} {ifs ifs1 : List Expr} {vs1 : List Nat} {scope : Scope} {own : List (Str × Nat)} {pos : Pos} {a : Addr} {gn : Nat} {s5 s6 : Shared} {C : Con} {Ac : Around}
theorem MadeAt2.gat (M : MadeAt2 X pins σ H J elt tg iter tg1 iter1 ifs ifs1 scope own vs1 pos a gn s5) (hh : Ac.handled = none) (hf : Ac.frames = some X.stack) (k6 : ∀ b o, s5.heap.get? b = some o → s6.heap.get? b = some o) (os6 : s6.os = s5.os) (g6 : s6.gens = s5.gens)
    {pl : List (Addr × Obj)} (hown : C.Own [] pl) (hpl : pl.map (·.1) = C.Sa) (hp : ∀ p ∈ pl, s6.heap.get? p.1 = some p.2 ∧ s5.heap.objs.size ≤ p.1 ∧ ∀ v, p.2.data ≠ .cell v)
    (rd : Reads2 X C Ac H J elt tg tg1 iter1 ifs ifs1 scope own vs1 σ) :
    ∃ Xg, IsG X Xg Ac H scope ∧ GAt Xg C a gn Ac sizeLine s6 ∧ ∀ {pl' : List (Addr × Obj)} {σ' : L2.St} {H' : Hp} {s' : Shared}, Inv Xg pl' σ' H' s' → Inv X pins σ H' s' := by
  obtain ⟨hI, hgen, _, s4, cl, L, cv, it, fp, tn, go, e1, e2, run⟩ := M
  have hisg : IsG X (Cxg X Ac s4 H scope (gEnv scope cl L cv builtinsNs X.env) fp [(a, go)]) Ac H scope := ⟨s4, cl, L, cv, fp, _, rfl, e2⟩
  obtain ⟨g, tt, wi1, g1, tt1, te, W, m, q1, q2, q3, q4, q5, q6, q7, q8⟩ := rd _ hisg
  have b5 : AllBare s6.gens := by rw [g6]; exact hI.bare
  obtain ⟨r1, r2⟩ := run C Ac (s6.setGen gn .running) pl g tt wi1 g1 tt1 te W m hh hf k6 os6 (allBare_setGen b5 rfl) hown hpl hp q1 q2 q3 q4 q5 q6 q7 q8
  have e1' := e1
  rw [← g6] at e1'
  exact ⟨_, hisg, ⟨hgen.keeps k6, hI.nolimit.keeps k6, _, e1', rfl, r1⟩, r2⟩
/-- collect(g), the way of tuple(g): A is that of the collecting -/
theorem collect_g2 {A : Around} {E : Value → Shared → Prop} {Q : List Value → Shared → Prop} {Qt : List V → Hp → Prop} (hh : A.handled = none) (hd : A.depth < recursionLimit) (hf : A.frames = some X.stack) (M : MadeAt2 X pins σ H J elt tg iter tg1 iter1 ifs ifs1 scope own vs1 pos a gn s5)
    (rd : ∀ S, Reads2 X (cTup S Qt) A.in1.in1 H J elt tg tg1 iter1 ifs ifs1 scope own vs1 σ) (hQ : ∀ acc ys H' s', Inv X pins σ H' s' → Vals ys acc → ys.length ≤ sizeLine → Qt ys H' → Q acc s') :
    wpAny (model X.prog X.w) A (collect (.ref a)) Q E s5 := by
  have hSI : s5.heap.objs.size ≠ a := Nat.ne_of_gt M.lt
  have hcl : cStatics < s5.heap.objs.size := let ⟨_, hn, _⟩ := M.inv.nolimit; hn.lt
  unfold collect
  refine wpAny_bind (wpAny_runValue (codeAny_builtin F.entry_proto_collect ?_))
  rw [Around.under_plainId F.plain_proto_collect _]
  show wpAny _ A.in1 (newList [] >>= fun l => again (.builtin "list.__iadd__" ⟨[l, .ref a], []⟩)) _ _ s5
  refine wpAny_bind (wpAny_newObj_type ?_)
  refine wpAny_pure ⟨plainId_quiet F.plain_list_iadd _, codeAny_builtin F.entry_list_iadd ?_⟩
  rw [Around.under_plainId F.plain_list_iadd _]
  generalize hs6 : ({ s5 with heap := s5.heap.push { cls := .type "list", data := .seq ([] : List Value).toArray } } : Shared) = s6
  have k6 : ∀ b o, s5.heap.get? b = some o → s6.heap.get? b = some o := fun b o e => by rw [← hs6]; exact Heap.get?_push_of_some _ e
  show wpAny _ A.in1 (Builtin.List.listExtendWith (.ref s5.heap.objs.size) (.ref a) (.ref s5.heap.objs.size)) _ _ _
  unfold Builtin.List.listExtendWith
  refine wpAny_bind (wpAny_typeOf (Heap.IsGen.typeIs (M.isgen.keeps k6)) ?_)
  have h1 : Builtin.List.listSameRef (.ref s5.heap.objs.size) (.ref a) = false := by simp [Builtin.List.listSameRef, hSI]
  have h2 : (Value.type "generator" == Value.type "list") = false := by decide
  have h3 : (Value.type "generator" == Value.type "tuple") = false := by decide
  simp only [h1, h2, h3, Bool.or_false, Bool.false_eq_true, if_false]
  refine wpAny_bind (wpAny_pyIter_gen (M.isgen.keeps k6) ?_)
  refine wpAny_bind (wpAny_holding ?_)
  unfold Builtin.List.listLengthHint
  refine wpAny_bind (wpAny_specialOf (Heap.IsGen.typeIs (M.isgen.keeps k6)) F.gen_no_len ?_)
  show wpAny _ A.in1 (specialOf (Value.ref a) (Str.ofString "__length_hint__") >>= _) _ _ _
  refine wpAny_bind (wpAny_specialOf (Heap.IsGen.typeIs (M.isgen.keeps k6)) F.gen_no_hint ?_)
  refine wpAny_pure ?_
  show wpAny _ A.in1 (rule "list.extend.makes-room" >>= fun _ => Builtin.List.listTouch (.ref s5.heap.objs.size) >>= fun _ =>
    again (.builtin "list.extend.loop" ⟨[.ref s5.heap.objs.size, .ref a, .ref s5.heap.objs.size], []⟩)) _ _ _
  refine wpAny_bind (wpAny_rule ?_)
  have hS₁ : s6.heap.get? s5.heap.objs.size = some { cls := .type "list", data := .seq ([] : List Value).toArray } := by rw [← hs6]; exact Heap.get?_push_size _ rfl
  refine wpAny_bind ?_
  show wpAny _ A.in1 (updateSeq s5.heap.objs.size (·.push .none) >>= fun _ => updateSeq s5.heap.objs.size (·.pop)) _ _ _
  refine wpAny_bind (wpAny_updateSeq hS₁ rfl ?_)
  have hS₂ := Heap.get?_update_self (Obj.mapSeq (·.push Value.none)) hS₁ rfl
  refine wpAny_updateSeq hS₂ rfl ?_
  have hS₃ := Heap.get?_update_self (Obj.mapSeq (·.pop)) hS₂ rfl
  generalize hs7 : ({ s6 with heap := (s6.heap.update s5.heap.objs.size (Obj.mapSeq (·.push Value.none))).update s5.heap.objs.size (Obj.mapSeq (·.pop)) } : Shared) = s7
  obtain ⟨c7, hS7⟩ : ∃ c, s7.heap.get? s5.heap.objs.size = some (lstObj #[] c) := ⟨_, by rw [← hs7]; exact hS₃⟩
  have k7 : ∀ b o, s5.heap.get? b = some o → s7.heap.get? b = some o := fun b o e => by
    have hb := Ne.symm (Nat.ne_of_lt (Heap.lt_size e))
    rw [← hs7]
    exact (Heap.get?_update_other _ _ hb).trans ((Heap.get?_update_other _ _ hb).trans (k6 b o e))
  obtain ⟨Xg, hg, hat, back⟩ := M.gat (s6 := s7) (Ac := A.in1.in1) hh hf k7 (by rw [← hs7, ← hs6]) (by rw [← hs7, ← hs6]) (C := cTup s5.heap.objs.size Qt) (pl := [(s5.heap.objs.size, lstObj #[] c7)]) ⟨#[], c7, rfl, .nil⟩ rfl (fun p hp => by
    rw [List.mem_singleton.mp hp]
    exact ⟨hS7, Nat.le_refl _, fun v q => by cases q⟩) (rd s5.heap.objs.size)
  obtain ⟨s4, cl, L, cv, fp, pn, rfl, hcv⟩ := hg
  refine wpAny_pure ⟨plainId_quiet F.plain_extend_loop _, ?_⟩
  refine extend_loop (X := Cxg X A.in1.in1 s4 H scope (gEnv scope cl L cv builtinsNs X.env) fp pn) (A := A) hh hd (Nat.ne_of_lt M.lt) (Nat.ne_of_lt hcl) (fun ys acc c pl σ' H' s' I' e' rv hz q _ => ?_) sizeLine s7 hat
  show wpAny _ A (load s5.heap.objs.size >>= _) _ _ s'
  refine wpAny_bind (wpAny_load e' ?_)
  exact wpAny_pure (hQ acc.toList ys H' s' (back I') rv hz q)

theorem call_tuple_g2 {E : Value → Shared → Prop} {Q : VK} {k : Nat} (hr : Room k X.A) (M : MadeAt2 X pins σ H J elt tg iter tg1 iter1 ifs ifs1 scope own vs1 pos a gn s5)
    (rd : ∀ S, Reads2 X (cTup S fun ys H' => ∀ p, H' p = none → Q (.ref p) (upd H' p (.tup ys))) X.A.in4 H J elt tg tg1 iter1 ifs ifs1 scope own vs1 σ) :
    wpAny (model X.prog X.w) X.A (call (.type "tuple") [.ref a]) (EP X pins σ Q) E s5 := by
  refine callType_codes (Q₁ := fun obj s₁ => s₁.TypeIs obj "tuple" ∧ EP X pins σ Q obj s₁) F.called_tuple (F.typeCall_tuple_1 _) F.entry_object_init ?_ fun obj s₁ h₁ => ?_
  · refine codeAny_of_tree ?_
    show wpAny _ X.A.in1.in1 (do checkBuiltinCall "tuple.__new__" ⟨[.type "tuple", .ref a], []⟩; again (.builtin "tuple.__new__" ⟨[.type "tuple", .ref a], []⟩)) _ _ s5
    refine wpAny_bind (wpAny_of_eq (F.newCall_tuple_1 _) (wpAny_pure ⟨plainId_quiet F.plain_tuple_new _, codeAny_builtin F.entry_tuple_new ?_⟩))
    rw [Around.under_plainId F.plain_tuple_new _]
    have hsub := sub_tuple_self
    have hinit := init_tuple_lookup
    have hmh := madeHere_tuple
    have hTI := Heap.IsGen.typeIs M.isgen
    wp_walk using wpAny_typeOf hTI, collect_g2 (A := X.A.in1.in1) (Qt := fun ys H' => ∀ p, H' p = none → Q (.ref p) (upd H' p (.tup ys))) hr.hd hr.depth M.inv.ok.frames M rd
    intro acc ys H' s' I' rv hz q
    show wpAny _ _ (Builtin.Tuple.tupleExact acc.toArray >>= fun v => ret v) _ _ _
    unfold Builtin.Tuple.tupleExact
    have hl := rv.length
    refine wpAny_bind (wpAny_newObj_type ?_ (by show acc.toArray.size ≤ sizeLine; rw [List.size_toArray]; omega))
    refine wpAny_pure ⟨⟨_, Heap.get?_push_size _ rfl, rfl⟩, ?_⟩
    have hn : H' s'.heap.objs.size = none := I'.hok.fresh (Nat.le_refl _)
    exact ⟨.ref s'.heap.objs.size, upd H' s'.heap.objs.size (.tup ys), I'.laid (t' := s'.toks) (fun b o e => Heap.get?_push_of_some _ e) (Nat.le_refl _) ⟨hz, acc, rv, ⟨_, Heap.get?_push_size _ rfl, rfl, _, rfl⟩⟩, rfl, q _ hn⟩
  · exact ⟨h₁.1, F.args_object_init_2 obj _, object_init_meets F.called_tuple.init.lookup F.called_tuple.made (by decide) X.prog X.w X.A.in1 _ s₁ ⟨h₁.1, rfl, h₁.2⟩⟩
end
end GX
end

section
set_option Elab.async false
set_option autoImplicit false
set_option linter.all false
set_option maxRecDepth 100000
set_option maxHeartbeats 4000000
/-! enumerate of a tuple; max and min of a tuple of ints. -/
namespace E1
open PySem PySem.Spec PyProof.Rows L2 GX PySem.W
theorem meets_enum_of {v : Value} {o : Obj} {Hh : Heap → Prop} (B : Begins v o Hh) :
    Meets (Builtin.«enumerate.__new__» ⟨[.type "enumerate", v], []⟩) (fun _ R s => Hh s.heap ∧
      R (.ok (.ret (.ref (s.heap.push o).objs.size))) { s with heap := (s.heap.push o).push { cls := .type "enumerate", data := .fields #[.none, .bool false, .ref s.heap.objs.size, rawInt 0, .none, .none] } }) :=
  .of_wp fun prog w A R s h => by
    obtain ⟨hp, g, d, tk, os⟩ := s
    obtain ⟨h1, h⟩ := h
    have hsub := sub_enumerate
    have it_ : ∀ {A' : Around} {E : Value → Shared → Prop} {Q : Value → Shared → Prop}, Q (.ref hp.objs.size) ⟨hp.push o, g, d, tk, os⟩ → wpAny (model prog w) A' (pyIter v) Q E ⟨hp, g, d, tk, os⟩ :=
      fun q => B.iter prog w _ _ ⟨hp, g, d, tk, os⟩ _ h1 q
    wp_walk using it_
    refine wpAny_stack_any fun st => wpAny_pure ?_
    split
    · rename_i c _ _ _ _ _
      cases (c == Value.type "enumerate") <;> (wp_walk using it_; exact ⟨_, rfl, h⟩)
    · wp_walk using it_
      exact ⟨_, rfl, h⟩
theorem call_enum_tup {prog : Program} {w : World} {A : Around} {E : Value → Shared → Prop} {s : Shared} {l : Addr} {items : Array Value} {Q : Value → Shared → Prop} (hL : s.heap.IsTuple l items)
    (h : ∀ h', IsEnum h' (s.heap.objs.size + 1) s.heap.objs.size 0 .none → h'.IsTupleIter s.heap.objs.size l 0 → (∀ b o, s.heap.get? b = some o → h'.get? b = some o) → Q (.ref (s.heap.objs.size + 1)) { s with heap := h' }) :
    wpAny (model prog w) A (call (.type "enumerate") [.ref l]) Q E s := by
  refine callType_new F.called_enumerate (by decide) (F.typeCall_enumerate_1 _) (F.newCall_enumerate_1 _) (fun obj => F.args_object_init_2 obj _) F.entry_enumerate_new
    (meets_enum_of (begins_tuple l items)) ⟨hL, ?_⟩
  generalize hob : ({ cls := .type "tuple_iterator", data := .fields #[.ref l, .int 0 0] } : Obj) = ob
  have hf : ob.isFreed = false := by rw [← hob]; rfl
  have hz : (s.heap.push ob).objs.size = s.heap.objs.size + 1 := Heap.size_push ..
  show _ ∧ _
  rw [hz]
  have he : IsEnum ((s.heap.push ob).push { cls := .type "enumerate", data := .fields #[.none, .bool false, .ref s.heap.objs.size, rawInt 0, .none, .none] }) (s.heap.objs.size + 1) s.heap.objs.size 0 .none := by
    have := Heap.get?_push_size (s.heap.push ob) (o := { cls := .type "enumerate", data := .fields #[.none, .bool false, .ref s.heap.objs.size, rawInt 0, .none, .none] }) rfl
    rw [hz] at this
    exact this
  refine ⟨⟨_, he, rfl⟩, h _ he ?_ fun b o x => Heap.get?_push_of_some _ (Heap.get?_push_of_some _ x)⟩
  subst hob
  exact ⟨_, Heap.get?_push_of_some _ (Heap.get?_push_size _ rfl), rfl, rfl⟩
/-- the tuple at a, each item in a new pair -/
def IteT (K : PySem.W.Frag) (a : Addr) : It :=
  ⟨fun i H => ∃ (xs : List V) (x : V), SqT K H a xs ∧ xs[i]? = some x, fun i H v H' => ∃ T x, v = .ref T ∧ H T = none ∧ H' = upd H T (.tup [.int (i : Nat), x]) ∧ ∀ xs, SqT K H a xs → xs[i]? = some x, fun i H => ∃ xs : List V, SqT K H a xs ∧ xs.length ≤ i⟩
theorem apart {h : Heap} {a e it : Addr} {c : Int} {old : Value} {i : Nat} {items : Array Value} (he : IsEnum h e it c old) (hi : h.IsTupleIter it a i) (ht : h.IsTuple a items) : e ≠ a ∧ it ≠ a := by
  obtain ⟨o, ho, hc, _⟩ := ht
  constructor
  · intro z
    rw [z] at he
    have he : h.get? a = some _ := he
    rw [ho] at he
    cases he
    exact absurd hc (by simp)
  · intro z
    obtain ⟨o2, h2, c2, _⟩ := hi
    rw [z, ho] at h2
    cases h2
    rw [hc] at c2
    exact absurd c2 (by simp)
theorem turn_enumT {P : Program} {w : World} {K : PySem.W.Frag} {elts : List Expr} {kk : Nat} {tpos : Pos} (a e it : Addr) :
    Turn P w K (.Tuple elts kk tpos) (IteT K a) [e, it] e (fun i h => (∃ old, IsEnum h e it ((i : Nat) : Int) old) ∧ h.IsTupleIter it a i ∧ e ≠ it) where
  mem := by simp
  obj := fun i h st b hb => by
    obtain ⟨⟨old, he⟩, ⟨o, ho, hc, hd⟩, _⟩ := st
    rcases (show b = e ∨ b = it by simpa using hb) with z | z
    · rw [z]; exact ⟨_, he, fun v q => nomatch q⟩
    · rw [z]; exact ⟨o, ho, fun v q => by rw [hd] at q; cases q⟩
  keep := fun i h h' st k => let ⟨⟨old, he⟩, hi, hne⟩ := st; ⟨⟨old, k e (by simp) _ he⟩, hi.at fun o q => k it (by simp) o q, hne⟩
  item := by
    intro X hP hw hK hc i pins s σ H E I hf st hg
    subst hP hw hK
    obtain ⟨⟨old, he⟩, hit, hne⟩ := st
    obtain ⟨xs, x, hq, hx⟩ := hg
    obtain ⟨its, rv, p, hz⟩ := I.tuple hq
    obtain ⟨u, hu, ru⟩ := rv.get hx
    have p' : s.heap.IsTuple a its.toArray := p
    obtain ⟨n1, n2⟩ := apart he hit p'
    have hel : e < s.heap.objs.size := Heap.lt_size he
    have hil : it < s.heap.objs.size := by obtain ⟨_, q, _⟩ := hit; exact Heap.lt_size q
    have hlt : i < its.toArray.size := by
      have := (List.getElem?_eq_some_iff.mp hu).1
      simpa using this
    refine wpAny_pyNext_enum_itemC (Draws.tuple (A := X.A.in1) (I.ok.hd hc) it a (Ne.symm n2) its.toArray) he ⟨hit, p'⟩ hlt hne (by simp [hne, n1]) fun x' h' tk hx' ho hst hT hsz hk => ?_
    have ex : x' = u := by
      have hx' : its.toArray[i]? = some x' := hx'
      have : its[i]? = some x' := by simpa using hx'
      rw [hu] at this; exact (Option.some.inj this).symm
    subst ex
    refine ⟨_, rfl, wpAny_letOwnedTupleGo_enum (s := { s with heap := h', toks := tk + 1 }) ho fun h'' he' sb => ?_⟩
    have hT2 : h''.get? s.heap.objs.size = some { cls := .type "tuple", data := .seq #[.int i tk, x'] } := (sb.2 _ (Nat.ne_of_gt hel)).trans hT
    have new : ObjOk X.prog X.w (upd H s.heap.objs.size (.tup [.int (i : Nat), x])) h'' s.heap.objs.size (.tup [.int (i : Nat), x]) :=
      ⟨by show 2 ≤ sizeLine; decide, [.int i tk, x'], .cons ⟨_, rfl⟩ (.cons ru .nil), ⟨_, hT2, rfl, _, rfl⟩⟩
    have I1 : Inv X pins σ (upd H s.heap.objs.size (.tup [.int (i : Nat), x])) { s with heap := h'', toks := tk + 1 } :=
      I.turnedNew (ch := [e, it]) (fun b ob hb q => (sb.2 b (fun z => hb (by simp [z]))).trans (hk b ob (fun z => hb (by simp [z])) (fun z => hb (by simp [z])) q)) hf (Nat.le_refl _) new
    refine ⟨.ref s.heap.objs.size, _, I1, rfl, ⟨_, x, rfl, I.hok.fresh (Nat.le_refl _), rfl, fun ys hy => ?_⟩, ⟨⟨x', ?_⟩, hst.1.at fun o q => (sb.2 it (Ne.symm hne)).trans q, hne⟩, fun b hb => ?_⟩
    · rw [I.tuple_inj hy hq]; exact hx
    · have e1 : ((i + 1 : Nat) : Int) = (i : Int) + 1 := by omega
      rw [e1]; exact he'
    · have hb' : b < s.heap.objs.size := by
        rcases (show b = e ∨ b = it by simpa using hb) with z | z
        · rw [z]; exact hel
        · rw [z]; exact hil
      rw [upd_ne (Nat.ne_of_lt hb')]
      exact (hf b hb).1
  done := by
    intro X hP hw hK hc i pins s σ H E I hf st hg
    subst hP hw hK
    obtain ⟨⟨old, he⟩, hit, hne⟩ := st
    obtain ⟨xs, hq, hx⟩ := hg
    obtain ⟨its, rv, p, hz⟩ := I.tuple hq
    have p' : s.heap.IsTuple a its.toArray := p
    obtain ⟨n1, n2⟩ := apart he hit p'
    obtain ⟨f0, f1, f2, f3, f4, f5⟩ := hf it (by simp)
    have hl := rv.length
    have hT : s.TypeIs (.ref e) "enumerate" := ⟨_, he, rfl⟩
    unfold pyNext
    refine wpAny_bind (wpAny_attempt (wpAny_callSpecial?_slot (name := Str.ofString "__next__") hT F.slot_enumerate_next
      (wpAny_call_entry F.slot_enumerate_next hT F.entry_enumerate_next ?_ (F.args_enumerate_next_1 _))))
    show wpAny _ _ (field (.ref e) 2 >>= _) _ _ _
    refine wpAny_bind (wpAny_field he rfl (x := .ref it) rfl ?_)
    refine wpAny_bind (wpAny_nextOf_tuple_end (I.ok.hd hc) hit p' (by simp; omega) fun h' x eb hx' => ?_)
    obtain ⟨o, ho, hoc⟩ := hx'
    refine wpAny_bind (wpAny_isInstance (T := "StopIteration") (b := true) ⟨o, ho, hoc⟩ isSubtype_stop ?_)
    exact wpAny_pure ⟨rfl, I.turned (t' := s.toks) (fun b o hb q => eb b o hb q) f0 f1 f3 f4 f5⟩
  self := fun A i s Q E st h => let ⟨⟨_, he⟩, _⟩ := st; wpAny_pyIter_enum he h
def iEnumT (K : PySem.W.Frag) (ta : TA) : TI := fun σ H R => ta σ H fun vs H1 => ∃ a xs, vs = [.ref a] ∧ SqT K H1 a xs ∧ R (IteT K a) H1
theorem pi_enumT {X : Cx} {e : Expr} {ta : TA} {p pos tpos : Pos} {elts : List Expr} {kk : Nat} (hg : Gl X "enumerate") (hm : X.mg "enumerate" = none) (ha : PA X [e] ta) (hs : starEach [e] X.env = [(false, eval e X.env)]) :
    PI X (.Tuple elts kk tpos) (.Call (.Name "enumerate" p) [e] [] pos) (iEnumT X.K ta) := by
  refine ⟨fun pins s σ H R I h => ?_⟩
  refine Call_ (ld_blt I hg hm boot_enumerate (PyProof.Rows.callWith_type1 (thn (ha.run pos pins s σ H _ I h) fun us s1 ⟨vs, H1, I1, r1, q1⟩ => ?_) hs rfl))
  obtain ⟨a, xs, ex, hq, q⟩ := q1
  subst ex
  cases r1 with
  | cons r rr =>
    cases rr
    cases r
    obtain ⟨its, rv, p', hz⟩ := I1.tuple hq
    refine call_enum_tup (items := its.toArray) p' fun h' he hit hk => wpAny_pyIter_enum he ?_
    have I2 : Inv X pins σ H1 { s1 with heap := h' } := I1.kept (t' := s1.toks) hk
    refine ⟨s1.heap.objs.size + 1, [s1.heap.objs.size + 1, s1.heap.objs.size], _, _, H1, rfl, I2, turn_enumT a (s1.heap.objs.size + 1) s1.heap.objs.size, ⟨⟨.none, he⟩, hit, Nat.succ_ne_self _⟩, fun b hb => ?_, q⟩
    have hle : s1.heap.objs.size ≤ b := by
      rcases (show b = s1.heap.objs.size + 1 ∨ b = s1.heap.objs.size by simpa using hb) with z | z
      · rw [z]; exact Nat.le_add_right _ _
      · rw [z]; exact Nat.le_refl _
    exact I1.fpOk hle (I1.hok.fresh hle)
/-! max, min of a tuple of ints -/
def rMaxT (K : PySem.W.Frag) : List V → Hp → VK → Prop := fun vs H Q => ∃ (a : Addr) (ns : List Int), vs = [V.ref a] ∧ SqT K H a (ns.map V.int) ∧ 0 < ns.length ∧ ∀ m, m ∈ ns → (∀ y, y ∈ ns → y ≤ m) → Q (.int m) H
theorem reads_ints {h : Heap} : ∀ {ns : List Int} {us : List Value}, IntsAre us ns → ∃ as, ReadsAll h us (ns.map PyData.int) as
  | [], _, .nil => ⟨_, .nil⟩
  | _ :: _, _, .cons n t r => let ⟨as, q⟩ := reads_ints r; ⟨_, .cons (.int n t) q⟩
theorem depth_ints : ∀ ns : List Int, PyData.depthAll (ns.map PyData.int) = 0
  | [] => rfl
  | n :: ns => by
    show max (PyData.depth (.int n)) (PyData.depthAll (ns.map PyData.int)) = 0
    rw [depth_ints ns]; rfl
theorem alike_ints (ns : List Int) : AlikeAll (ns.map PyData.int) := ⟨fun x hx y hy => by
  obtain ⟨i, _, rfl⟩ := List.mem_map.mp hx
  obtain ⟨j, _, rfl⟩ := List.mem_map.mp hy
  rfl, fun x hx => by
  obtain ⟨i, _, rfl⟩ := List.mem_map.mp hx
  exact fun z => by cases z⟩
theorem foldl_max : ∀ (ns : List Int) (n : Int), ns.foldl max n ∈ n :: ns ∧ ∀ y ∈ n :: ns, y ≤ ns.foldl max n
  | [], n => by simp
  | k :: ns, n => by
    obtain ⟨h1, h2⟩ := foldl_max ns (max n k)
    show ns.foldl max (max n k) ∈ _ ∧ ∀ y ∈ n :: k :: ns, y ≤ ns.foldl max (max n k)
    have h3 := h2 _ List.mem_cons_self
    refine ⟨?_, fun y hy => ?_⟩
    · rcases List.mem_cons.mp h1 with e | e
      · rw [e]
        rcases Int.le_total n k with z | z
        · rw [Int.max_eq_right z]; simp
        · rw [Int.max_eq_left z]; simp
      · exact List.mem_cons_of_mem _ (List.mem_cons_of_mem _ e)
    · rcases List.mem_cons.mp hy with e | hy
      · rw [e]; exact Int.le_trans (Int.le_max_left _ _) h3
      · rcases List.mem_cons.mp hy with e | hy
        · rw [e]; exact Int.le_trans (Int.le_max_right _ _) h3
        · exact h2 y (List.mem_cons_of_mem _ hy)
theorem cr_maxT {X : Cx} (hc : X.calm = true) (hu : X.A.units + 64 < cLine) : CallR X (.builtin "max") (rMaxT X.K) := by
  intro pins s σ H vs us Q I r h
  obtain ⟨a, ns, rfl, hs, hne, q⟩ := h
  obtain ⟨its, rv, hl, _⟩ := I.tuple hs
  rw [Vals.ref1 r]
  cases ns with
  | nil => cases hne
  | cons n ns =>
    obtain ⟨as, hr⟩ := reads_ints (h := s.heap) rv.ints
    refine max_tuple_data (vs := its.toArray) (I.ok.hd hc) hl (by simpa using hr) (alike_ints (n :: ns)) (by have := depth_ints (n :: ns); simp only [List.map_cons] at this; rw [this]; omega) fun i v h' tk bs hv hr' hk => ?_
    rw [maxD_ints] at hr'
    obtain ⟨h1, h2⟩ := foldl_max ns n
    cases hr' with
    | int _ t => exact ⟨.int _, H, I.kept hk, ⟨_, rfl⟩, q _ h1 h2⟩
def rMinT (K : PySem.W.Frag) : List V → Hp → VK → Prop := fun vs H Q => ∃ (a : Addr) (ns : List Int), vs = [V.ref a] ∧ SqT K H a (ns.map V.int) ∧ 0 < ns.length ∧ ∀ m, m ∈ ns → (∀ y, y ∈ ns → m ≤ y) → Q (.int m) H
theorem foldl_min : ∀ (ns : List Int) (n : Int), ns.foldl min n ∈ n :: ns ∧ ∀ y ∈ n :: ns, ns.foldl min n ≤ y
  | [], n => by simp
  | k :: ns, n => by
    obtain ⟨h1, h2⟩ := foldl_min ns (min n k)
    show ns.foldl min (min n k) ∈ _ ∧ ∀ y ∈ n :: k :: ns, ns.foldl min (min n k) ≤ y
    have h3 := h2 _ List.mem_cons_self
    refine ⟨?_, fun y hy => ?_⟩
    · rcases List.mem_cons.mp h1 with e | e
      · rw [e]
        rcases Int.le_total n k with z | z
        · rw [Int.min_eq_left z]; simp
        · rw [Int.min_eq_right z]; simp
      · exact List.mem_cons_of_mem _ (List.mem_cons_of_mem _ e)
    · rcases List.mem_cons.mp hy with e | hy
      · rw [e]; exact Int.le_trans h3 (Int.min_le_left _ _)
      · rcases List.mem_cons.mp hy with e | hy
        · rw [e]; exact Int.le_trans h3 (Int.min_le_right _ _)
        · exact h2 y (List.mem_cons_of_mem _ hy)
theorem cr_minT {X : Cx} (hc : X.calm = true) (hu : X.A.units + 64 < cLine) : CallR X (.builtin "min") (rMinT X.K) := by
  intro pins s σ H vs us Q I r h
  obtain ⟨a, ns, rfl, hs, hne, q⟩ := h
  obtain ⟨its, rv, hl, _⟩ := I.tuple hs
  rw [Vals.ref1 r]
  cases ns with
  | nil => cases hne
  | cons n ns =>
    obtain ⟨as, hr⟩ := reads_ints (h := s.heap) rv.ints
    refine min_tuple_data (vs := its.toArray) (I.ok.hd hc) hl (by simpa using hr) (alike_ints (n :: ns)) (by have := depth_ints (n :: ns); simp only [List.map_cons] at this; rw [this]; omega) fun i v h' tk bs hv hr' hk => ?_
    rw [minD_ints] at hr'
    obtain ⟨h1, h2⟩ := foldl_min ns n
    cases hr' with
    | int _ t => exact ⟨.int _, H, I.kept hk, ⟨_, rfl⟩, q _ h1 h2⟩
/-! sum of a tuple of ints -/
def rSumT (K : PySem.W.Frag) : List V → Hp → VK → Prop := fun vs H Q => ∃ (a : Addr) (ns : List Int), vs = [V.ref a] ∧ SqT K H a (ns.map V.int) ∧ Q (.int ns.sum) H
theorem cr_sumT {X : Cx} (hc : X.calm = true) : CallR X (.builtin "sum") (rSumT X.K) := by
  intro pins s σ H vs us Q I r h
  obtain ⟨a, ns, rfl, hs, q⟩ := h
  obtain ⟨its, rv, hl, _⟩ := I.tuple hs
  rw [Vals.ref1 r]
  have hi := rv.ints
  obtain ⟨xs, e⟩ := hi.allInts.items
  have hn : numsOf (intItems xs).toList = ns := by rw [← e]; exact hi.numsOf
  rw [nums_intItems] at hn
  rw [e] at hl
  refine PySem.W.ktm_sumG (I.ok.hd hc) hl fun h' tk t' hk => ⟨.int _, H, I.kept hk, ⟨t', ?_⟩, q⟩
  rw [preSum_eq, List.take_of_length_le (by simp), hn]
end E1
end

section
set_option Elab.async false
set_option autoImplicit false
set_option linter.all false
set_option maxRecDepth 100000
namespace E1
open PySem PySem.Spec PyProof.Rows L2
def rAllL (K : PySem.W.Frag) : List V → Hp → VK → Prop := fun vs H Q => ∃ (a : Addr) (bs : List Bool), vs = [V.ref a] ∧ SqL K H a (bs.map V.bl) ∧ Q (.bl (bs.all id)) H
theorem dpBls {K : PySem.W.Frag} {H : Hp} : ∀ bs : List Bool, DpAll K H (bs.map V.bl) (bs.map PyData.bool)
  | [] => .nil
  | b :: bs => .cons (.bl b) (dpBls bs)
theorem plBls : ∀ bs : List Bool, PyData.plainAll (bs.map PyData.bool) = true
  | [] => rfl
  | b :: bs => by
    have := plBls bs
    rw [List.map_cons]
    unfold PyData.plainAll
    rw [this]; rfl
theorem trBls : ∀ bs : List Bool, (bs.map PyData.bool).all PyData.truthy = bs.all id
  | [] => rfl
  | b :: bs => by
    rw [List.map_cons, List.all_cons, List.all_cons, trBls bs]; rfl
theorem cr_allL {X : Cx} (hc : X.calm = true) : CallR X (.builtin "all") (rAllL X.K) := by
  intro pins s σ H vs us Q I r h
  obtain ⟨a, bs, rfl, hs, q⟩ := h
  obtain ⟨its, rv, pl, hz⟩ := I.list hs
  rw [Vals.ref1 r]
  obtain ⟨as, h4⟩ := Dp.readsAll I (bs.map PyData.bool) _ its (dpBls bs) rv
  refine PySem.W.all_list_data (I.ok.hd hc) pl.isList (by simpa using h4) (plBls bs) (fun x hx => ?_) fun h' tk hk => ?_
  · obtain ⟨b, _, rfl⟩ := List.mem_map.mp hx
    simp [PyData.fits63]
  · rw [trBls]
    exact ⟨.bl _, H, I.kept hk, rfl, q⟩
end E1
end

section
set_option Elab.async false
set_option linter.all false
set_option maxRecDepth 100000
/-! list.remove over data of any depth. -/
namespace GX
open PySem PySem.Spec PyProof.Rows L2
section
variable {X : Cx}
def rRemD (K : PySem.W.Frag) : V → List V → Hp → VK → Prop := fun x xs H Q => ∃ (a : Addr) (y : V) (d : PyData) (vs : List V) (ds : List PyData) (j : Nat), x = V.ref a ∧ xs = [y] ∧ H a = some (.lst vs) ∧ DpAll K H vs ds ∧ Dp K H y d ∧
  SeqAt.shaped (.list ds) = true ∧ SeqAt.shaped d = true ∧ (ds.findIdx? fun z => PyData.eqv z d) = some j ∧ Q .non (upd H a (.lst (vs.eraseIdx j)))
theorem mt_removeD (hu : X.A.units + 65 < cLine) : MtR X "list.remove" (rRemD X.K) := by
  intro pins s σ H x xs v us Q I rx rxs h
  obtain ⟨a, y, d, vs, ds, j, rfl, rfl, hH, hl, hy, sl, sd, hj, q⟩ := h
  cases rx
  cases rxs with
  | cons ry rt =>
    rename_i uy ut
    cases rt
    obtain ⟨bs, r1⟩ := Dp.reads I d y uy hy ry
    have hxs : PyData.canLayAll0 ds = true := SeqAt.canLay_of_shaped sl
    have hroom : X.A.units + 1 + min (PyData.depthAll ds) d.depth < cLine := room_in_shaped sd hu
    obtain ⟨z, its, n, rv, hlen, e⟩ := I.lstM hH
    obtain ⟨as, h4⟩ := Dp.readsAll I ds _ its hl rv
    have hn : its.length = ds.length := SeqAt.ReadsAll.length ds its as h4
    have hmap : its.map (SeqAt.readOf s.heap) = ds := SeqAt.readsAll_map ds its as hxs h4
    have hvl := rv.length
    have hsl := sizeLine_eq
    rw [List.findIdx?_eq_some_iff_getElem] at hj
    obtain ⟨hjd, hjt, hno⟩ := hj
    have hjl : j < its.length := by omega
    have hj' : j < its.toArray.size := by simpa using hjl
    have at_ : ∀ (m : Nat) (hm : m < its.toArray.size) (z' : PyData), ds[m]? = some z' → SeqAt.readOf s.heap its.toArray[m] = z' := by
      intro m hm z' hz'
      have hml : m < its.length := by simpa using hm
      rw [← hmap, List.getElem?_map, List.getElem?_eq_getElem hml] at hz'
      have e1 : SeqAt.readOf s.heap its[m] = z' := Option.some.inj (show some (SeqAt.readOf s.heap its[m]) = some z' from hz')
      simpa using e1
    refine call_meets PySem.F.slot_list_remove ⟨_, e, rfl⟩ PySem.F.entry_list_remove (PySem.F.args_list_remove_2 _ _)
      (SeqAt.list_removeAt a its.toArray n _ _ uy (fun u => PyData.eqv (SeqAt.readOf s.heap u) d) j hj' ?_ ?_ (by rw [List.size_toArray]; omega)) ⟨e, SeqAt.items_eqAt (vs := its.toArray) (show ReadsAll s.heap its.toArray.toList ds as from h4) r1 hxs (SeqAt.canLay_of_shaped sd) hroom, ?_⟩
    · show PyData.eqv (SeqAt.readOf s.heap its.toArray[j]) d = true
      rw [at_ j hj' _ (List.getElem?_eq_getElem hjd)]
      exact hjt
    · intro m hm hmj
      have hmd : m < ds.length := by omega
      show PyData.eqv (SeqAt.readOf s.heap its.toArray[m]) d = false
      rw [at_ m hm _ (List.getElem?_eq_getElem hmd)]
      have := hno m hmj
      simpa using this
    · refine ⟨.non, _, I.lset (its' := its.eraseIdx j) hH e ?_ (rv.eraseIdx j) ?_, rfl, q⟩
      · show its.toArray.eraseIdxIfInBounds j = (its.eraseIdx j).toArray
        rw [List.eraseIdxIfInBounds_toArray]
      · have := len_erase vs j
        omega
end
end GX
end

section
set_option Elab.async false
set_option linter.all false
set_option maxRecDepth 100000
set_option maxHeartbeats 4000000
/-! tuple * int: once, never, of nothing. -/
namespace GX
open PySem PySem.Spec PyProof.Rows L2
theorem tuple_mul_same (l : Addr) (items : Array Value) (n : Nat) (dd : Option Addr) (sl : Array (Option Value)) (x : Int) (u : Tok) (c0 : (decide (x < -(2 ^ 63)) || decide (x ≥ 2 ^ 63)) = false) (c1 : (items.isEmpty || x == 1) = true) :
    Meets (Builtin.«tuple.__mul__» ⟨[.ref l, .int x u], []⟩) (fun _ R s => s.heap.get? l = some { cls := .type "tuple", dict := dd, data := .seq items n, slots := sl } ∧
      R (.ok (.ret (Value.ref l))) s) :=
  .of_wp fun prog w A R s h => by
    obtain ⟨hp, g, d, tk, os⟩ := s
    obtain ⟨hl, h⟩ := h
    have f1 := AutoSeq1.idx_int
    wp_walk using wpAny_loadPart' hl
    repeat (first
      | (refine wpAny_ite_false (decide_eq_false (by rw [c0]; exact Bool.false_ne_true)) ?_; wp_walk using wpAny_loadPart' hl)
      | (refine wpAny_ite_true (decide_eq_true (by rw [c1])) ?_; wp_walk using wpAny_loadPart' hl))
    exact ⟨_, rfl, h⟩
theorem tuple_mul_none (l : Addr) (items : Array Value) (n : Nat) (dd : Option Addr) (sl : Array (Option Value)) (x : Int) (u : Tok) (c0 : (decide (x < -(2 ^ 63)) || decide (x ≥ 2 ^ 63)) = false) (c1 : (items.isEmpty || x == 1) = false) (c2 : (decide (x ≤ 0) || items.isEmpty) = true) :
    Meets (Builtin.«tuple.__mul__» ⟨[.ref l, .int x u], []⟩) (fun _ R s => s.heap.get? l = some { cls := .type "tuple", dict := dd, data := .seq items n, slots := sl } ∧
      R (.ok (.ret (Value.ref s.heap.objs.size))) { s with heap := s.heap.push { cls := Value.type "tuple", data := Data.seq #[] }, toks := s.toks }) :=
  .of_wp fun prog w A R s h => by
    obtain ⟨hp, g, d, tk, os⟩ := s
    obtain ⟨hl, h⟩ := h
    have f1 := AutoSeq1.idx_int
    wp_walk using wpAny_loadPart' hl
    repeat (first
      | (refine wpAny_ite_false (decide_eq_false (by rw [c0]; exact Bool.false_ne_true)) ?_; wp_walk using wpAny_loadPart' hl)
      | (refine wpAny_ite_false (decide_eq_false (by rw [c1]; exact Bool.false_ne_true)) ?_; wp_walk using wpAny_loadPart' hl)
      | (refine wpAny_ite_true (decide_eq_true (by rw [c2])) ?_; wp_walk using wpAny_loadPart' hl))
    exact ⟨_, rfl, h⟩
section
variable {X : Cx}
def rRepS (K : PySem.W.Frag) : R2 := fun x y H Q => ∃ l k xs, x = .ref l ∧ y = .int k ∧ SqT K H l xs ∧ (xs = [] ∨ k = 1) ∧ -(2 ^ 63) ≤ k ∧ k < 2 ^ 63 ∧ Q (.ref l) H
theorem op_repS : OpR X (binaryOp .Mult) (rRepS X.K) := by
  intro pins s σ H x y v u Q I rx ry h
  obtain ⟨l, k, xs, rfl, rfl, hT, hne, h1, h2, q⟩ := h
  cases rx
  obtain ⟨t, rfl⟩ := ry
  obtain ⟨its, r, ⟨⟨cls, dd, data, sl⟩, ho, hc, n, hd⟩, hs⟩ := I.tuple hT
  simp only at hc hd
  subst hc hd
  have hle : its.length = xs.length := r.length.symm
  have c0 : (decide (k < -(2 ^ 63)) || decide (k ≥ 2 ^ 63)) = false := by
    rw [decide_eq_false (by omega), decide_eq_false (by omega)] <;> rfl
  have c1 : (its.toArray.isEmpty || k == 1) = true := by
    rcases hne with e | e
    · subst e
      have : its = [] := List.eq_nil_of_length_eq_zero (by simpa using hle)
      subst this; rfl
    · subst e; simp
  refine wpAny_binaryOp_repeat_ref (T := "tuple") (U := "int") (by decide) ⟨_, ho, rfl⟩ (fun s' => typeIs_int s' k t) noFill_tuple_mul F.fills_int_mul F.slot_int_rmul repeat_tuple F.slot_int_index.lookup
    (call_meets F.slot_int_rmul (typeIs_int s k t) F.entry_int_rmul (F.args_int_rmul_2 _ _) (int_rmul_tuple k t l its.toArray n dd sl)
      ⟨ho, rfl, ⟨_, ho, rfl⟩, call_meets F.slot_tuple_mul ⟨_, ho, rfl⟩ F.entry_tuple_mul (F.args_tuple_mul_2 _ _) (tuple_mul_same l its.toArray n dd sl k t c0 c1) ⟨ho, ?_⟩⟩)
  exact ⟨.ref l, H, I, rfl, q⟩
def rRep0 (K : PySem.W.Frag) : R2 := fun x y H Q => ∃ l k xs, x = .ref l ∧ y = .int k ∧ SqT K H l xs ∧ xs ≠ [] ∧ -(2 ^ 63) ≤ k ∧ k ≤ 0 ∧ ∀ p, H p = none → Q (.ref p) (upd H p (.tup []))
theorem op_rep0 : OpR X (binaryOp .Mult) (rRep0 X.K) := by
  intro pins s σ H x y v u Q I rx ry h
  obtain ⟨l, k, xs, rfl, rfl, hT, hne, h1, h2, q⟩ := h
  cases rx
  obtain ⟨t, rfl⟩ := ry
  obtain ⟨its, r, ⟨⟨cls, dd, data, sl⟩, ho, hc, n, hd⟩, hs⟩ := I.tuple hT
  simp only at hc hd
  subst hc hd
  have hle : its.length = xs.length := r.length.symm
  have hn : its ≠ [] := fun e => hne (by
    rw [e] at hle
    exact List.eq_nil_of_length_eq_zero hle.symm)
  have hi : its.toArray.isEmpty = false := by
    cases its with
    | nil => exact absurd rfl hn
    | cons a b => rfl
  have c0 : (decide (k < -(2 ^ 63)) || decide (k ≥ 2 ^ 63)) = false := by
    rw [decide_eq_false (by omega), decide_eq_false (by omega)] <;> rfl
  have c1 : (its.toArray.isEmpty || k == 1) = false := by
    rw [hi, Bool.false_or]
    exact beq_eq_false_iff_ne.mpr (by omega)
  have c2 : (decide (k ≤ 0) || its.toArray.isEmpty) = true := by
    rw [hi, Bool.or_false]
    exact decide_eq_true (by omega)
  refine wpAny_binaryOp_repeat_ref (T := "tuple") (U := "int") (by decide) ⟨_, ho, rfl⟩ (fun s' => typeIs_int s' k t) noFill_tuple_mul F.fills_int_mul F.slot_int_rmul repeat_tuple F.slot_int_index.lookup
    (call_meets F.slot_int_rmul (typeIs_int s k t) F.entry_int_rmul (F.args_int_rmul_2 _ _) (int_rmul_tuple k t l its.toArray n dd sl)
      ⟨ho, rfl, ⟨_, ho, rfl⟩, call_meets F.slot_tuple_mul ⟨_, ho, rfl⟩ F.entry_tuple_mul (F.args_tuple_mul_2 _ _) (tuple_mul_none l its.toArray n dd sl k t c0 c1 c2) ⟨ho, ?_⟩⟩)
  refine ⟨.ref s.heap.objs.size, _, I.laid (t' := s.toks) (o := .tup []) (fun b ob q => Heap.get?_push_of_some _ q) (Nat.le_refl _) ?_, rfl, q _ (I.hok.fresh (Nat.le_refl _))⟩
  exact ⟨Nat.zero_le _, _, .nil, IsTup.new _ _⟩
end
end GX
end

section
set_option linter.all false
set_option maxRecDepth 100000
/-! My own small language: values, statements, and what they do. -/
namespace IX
open PySem

/-- plain data -/
inductive P where
  | non | bl (b : Bool) | int (i : Int) | str (s : Str) | tup (l : List P) | ref (i : Nat)
  deriving Inhabited
mutual
def P.dec : (a b : P) → Decidable (a = b)
  | .non, .non => .isTrue rfl
  | .bl a, .bl b => if h : a = b then .isTrue (by rw [h]) else .isFalse fun e => h (P.bl.inj e)
  | .int a, .int b => if h : a = b then .isTrue (by rw [h]) else .isFalse fun e => h (P.int.inj e)
  | .str a, .str b => if h : a = b then .isTrue (by rw [h]) else .isFalse fun e => h (P.str.inj e)
  | .ref a, .ref b => if h : a = b then .isTrue (by rw [h]) else .isFalse fun e => h (P.ref.inj e)
  | .tup a, .tup b => match P.decs a b with
    | .isTrue h => .isTrue (by rw [h])
    | .isFalse h => .isFalse fun e => h (P.tup.inj e)
  | .non, .bl _ | .non, .int _ | .non, .str _ | .non, .tup _ | .non, .ref _ => .isFalse fun e => nomatch e
  | .bl _, .non | .bl _, .int _ | .bl _, .str _ | .bl _, .tup _ | .bl _, .ref _ => .isFalse fun e => nomatch e
  | .int _, .non | .int _, .bl _ | .int _, .str _ | .int _, .tup _ | .int _, .ref _ => .isFalse fun e => nomatch e
  | .str _, .non | .str _, .bl _ | .str _, .int _ | .str _, .tup _ | .str _, .ref _ => .isFalse fun e => nomatch e
  | .tup _, .non | .tup _, .bl _ | .tup _, .int _ | .tup _, .str _ | .tup _, .ref _ => .isFalse fun e => nomatch e
  | .ref _, .non | .ref _, .bl _ | .ref _, .int _ | .ref _, .str _ | .ref _, .tup _ => .isFalse fun e => nomatch e
def P.decs : (a b : List P) → Decidable (a = b)
  | [], [] => .isTrue rfl
  | x :: xs, y :: ys => match P.dec x y, P.decs xs ys with
    | .isTrue h, .isTrue h' => .isTrue (by rw [h, h'])
    | .isFalse h, _ => .isFalse fun e => h (List.cons.inj e).1
    | _, .isFalse h => .isFalse fun e => h (List.cons.inj e).2
  | [], _ :: _ => .isFalse fun e => nomatch e
  | _ :: _, [] => .isFalse fun e => nomatch e
end
instance : DecidableEq P := P.dec

mutual
def P.toD : P → PyData
  | .non => .none
  | .bl b => .bool b
  | .int i => .int i
  | .str s => .str s
  | .tup l => .tuple (P.toDs l)
  | .ref _ => .none
def P.toDs : List P → List PyData
  | [] => []
  | x :: xs => P.toD x :: P.toDs xs
end
/-- == of Python -/
def P.eqv (a b : P) : Bool := PyData.eqv a.toD b.toD
mutual
/-- the depth is small, texts are plain -/
def P.fit : Nat → P → Bool
  | _, .non | _, .bl _ | _, .int _ => true
  | _, .str x => PyData.strOk x
  | _, .ref _ => false
  | 0, .tup _ => false
  | k + 1, .tup l => P.fits k l
def P.fits : Nat → List P → Bool
  | _, [] => true
  | k, x :: xs => P.fit k x && P.fits k xs
end

/-- a value of a frame: data (with list numbers), the script -/
inductive D where
  | p (x : P) | scr (xs : List P)
  deriving Inhabited
abbrev Env := List (Option D)
/-- the lists -/
abbrev Mem := List (List P)

inductive BO | add | sub | mul | fdiv | mod | pow deriving DecidableEq, Repr
inductive CO | eq | ne | lt | le | gt | ge | is | isnot | isin | notin deriving DecidableEq, Repr
inductive BI | len | abs | int | isint | isbool | istup | isstr | islist | max | min | sum | tuple | list | all | any | bool | str | sorted | rv deriving DecidableEq, Repr
inductive IK | rng | seq | enm | zip deriving DecidableEq, Repr
inductive GK | tuple | sum | all | any deriving DecidableEq, Repr
inductive MT | append | pop | popi | insert | index | count | extend | reverse | remove deriving DecidableEq, Repr
inductive T | nm (i : Nat) | tp (l : List T)
  deriving Inhabited

inductive E where
  | v (i : Nat) | c (x : P) | g (n : Str)
  | bin (o : BO) (a b : E) | neg (a : E) | not (a : E)
  | cmp (o : CO) (a b : E) | cmp2 (o o' : CO) (a b c : E)
  | and (l : List E) | or (l : List E)
  | ife (t a b : E)
  | tup (l : List E) | lst (l : List E)
  | idx (a i : E) | slc (a : E) (lo hi : Option E)
  | call (f : Nat) (l : List E) (ix : List Nat)
  | bi (b : BI) (l : List E)
  | mt (m : MT) (o : E) (l : List E)
  | tru (a : E)
  | lc (vs : List Nat) (elt : E) (t : T) (k : IK) (src ifs : List E)
  | lc2 (vs : List Nat) (elt : E) (t : T) (k : IK) (src ifs : List E) (vs1 : List Nat) (t1 : T) (k1 : IK) (src1 ifs1 : List E)
  | gen (gk : GK) (vs : List Nat) (elt : E) (t : T) (k : IK) (src ifs : List E)
  | gen2 (vs : List Nat) (elt : E) (t : T) (k : IK) (src ifs : List E) (vs1 : List Nat) (t1 : T) (k1 : IK) (src1 ifs1 : List E)
  | rl (b : Bool) (l : List E)
  | dsub (a b : Int) (x y i : E)
  deriving Inhabited
/-- how a call that may raise stands -/
inductive XC where
  | ex | ret | retc (x : P)
  deriving Inhabited
/-- what a handler gives back: data, a field of the error -/
inductive HQ where
  | c (x : P) | f (k : Nat)
  deriving Inhabited
inductive HR where
  | one (h : HQ) | tup (l : List HQ)
  deriving Inhabited
def HQ.ev (xs : List P) : HQ → Option P
  | .c x => some x
  | .f k => xs[k]?
def HQ.evs (xs : List P) : List HQ → Option (List P)
  | [] => some []
  | h :: r => do
    let x ← h.ev xs
    let ys ← HQ.evs xs r
    some (x :: ys)
def HR.ev (xs : List P) : HR → Option P
  | .one h => h.ev xs
  | .tup l => do
    let ys ← HQ.evs xs l
    if ys.length ≤ sizeLine then some (.tup ys) else none
/-- at f + XO: what the def f gives, or raises -/
abbrev XO : Nat := 1000
inductive S where
  | raise (c : Str) (l : List E) | xcall (k : XC) (f : Nat) (l : List E) (ix : List Nat) | tryS (b : List S) (c : Str) (h : HR)
  | set (t : T) (e : E) | par (is : List Nat) (es : List E) | seti (o i e : E) | aug (i : Nat) (o : BO) (e : E) | augi (a i : E) (o : BO) (e : E)
  | ife (t : E) (a b : List S) | loop (t : T) (k : IK) (src : List E) (body : List S) | whl (t : E) (body : List S)
  | ret (e : E) | retn | ex (e : E) | brk | cnt | pas | stk
  deriving Inhabited
structure Fn where
  np : Nat
  ns : Nat
  body : List S

/-! ### what they do -/
def one (x : P) (M : Mem) : Option (D × Mem) := some (.p x, M)
def newl (xs : List P) (M : Mem) : Option (D × Mem) := if xs.length ≤ sizeLine then some (.p (.ref M.length), M ++ [xs]) else none
def mulOk (i j : Int) : Bool := decide (i.natAbs.log2 + j.natAbs.log2 < 1000000) || (decide (-(2 ^ 64) < i) && decide (i < 2 ^ 64)) || (decide (-(2 ^ 64) < j) && decide (j < 2 ^ 64))
def divOk (j : Int) : Bool := (decide (0 < j) && decide (j.natAbs.log2 < 9000)) || (decide (j ≠ 0) && decide (j.natAbs < 1073741824))
/-- what an exception may be made with -/
def smallP : P → Bool
  | .int i => decide (i.natAbs < 18446744073709551616)
  | .str s => decide (s.length ≤ 1000)
  | _ => false
def smallPs (l : List P) : Bool := l.all smallP
/-- all of them are data -/
def datas : List D → Option (List P)
  | [] => some []
  | .p x :: r => do
    let xs ← datas r
    some (x :: xs)
  | _ => none
/-- a list's items -/
def itemsL (M : Mem) : D → Option (List P)
  | .p (.ref i) => M[i]?
  | .scr xs => some xs
  | _ => none
/-- the items of a list or a tuple -/
def items (M : Mem) : D → Option (List P)
  | .p (.tup l) => some l
  | .p (.ref i) => M[i]?
  | .scr xs => some xs
  | _ => none
def binop : BO → D → D → Mem → Option (D × Mem)
  | .add, .p (.int a), .p (.int b), M => one (.int (a + b)) M
  | .add, .p (.tup a), .p (.tup b), M => if a.length + b.length ≤ sizeLine then one (.tup (a ++ b)) M else none
  | .add, .p (.ref i), .p (.ref j), M => do
    let a ← M[i]?
    let b ← M[j]?
    newl (a ++ b) M
  | .sub, .p (.int a), .p (.int b), M => one (.int (a - b)) M
  | .mul, .p (.int a), .p (.int b), M => if mulOk a b then one (.int (a * b)) M else none
  | .mul, .p (.tup a), .p (.int k), M => if decide (-(2 ^ 63) ≤ k) && decide (k ≤ 1000) && decide (a.length ≤ 1000) then one (.tup (List.replicate k.toNat a).flatten) M else none
  | .mul, .p (.ref i), .p (.int k), M => do
    let a ← M[i]?
    if a.length * k.toNat ≤ sizeLine && decide (-(2 ^ 63) ≤ k) && decide (k < 2 ^ 63) then newl (List.replicate k.toNat a).flatten M else none
  | .fdiv, .p (.int a), .p (.int b), M => if divOk b then one (.int (a.fdiv b)) M else none
  | .mod, .p (.int a), .p (.int b), M => if b ≠ 0 then one (.int (a.fmod b)) M else none
  | .pow, .p (.int a), .p (.int b), M => if decide (0 ≤ b) && decide (b ≤ 1000000) && decide (a.natAbs < 2 ^ 64) then one (.int (a ^ b.toNat)) M else none
  | _, _, _, _ => none
/-- data that == compares -/
def eqd (M : Mem) : D → D → Option Bool
  | .p (.ref i), .p (.ref j) => do
    let a ← M[i]?
    let b ← M[j]?
    if P.fits 63 a && P.fits 63 b then some ((P.tup a).eqv (.tup b)) else none
  | .p a, .p b => if a.fit 64 && b.fit 64 then some (a.eqv b) else none
  | _, _ => none
def flat : P → Bool
  | .tup _ => false
  | .ref _ => false
  | _ => true
def isLst : D → Bool
  | .p (.ref _) => true
  | _ => false
def cmpop : CO → D → D → Mem → Option Bool
  | .eq, a, b, M => eqd M a b
  | .ne, a, b, M => (eqd M a b).map (!·)
  | .lt, .p (.int a), .p (.int b), _ => some (decide (a < b))
  | .le, .p (.int a), .p (.int b), _ => some (decide (a ≤ b))
  | .gt, .p (.int a), .p (.int b), _ => some (decide (b < a))
  | .ge, .p (.int a), .p (.int b), _ => some (decide (b ≤ a))
  | .is, .p a, .p .non, _ => some (decide (a = .non))
  | .isnot, .p a, .p .non, _ => some (!decide (a = .non))
  | .is, .p (.bl a), .p (.bl b), _ => some (a == b)
  | .isnot, .p (.bl a), .p (.bl b), _ => some (!(a == b))
  | .isin, .p a, s, M => do
    let xs ← items M s
    if flat a && xs.all flat || isLst s && (a.fit 63 && P.fits 63 xs) then some (xs.any fun y => y.eqv a) else none
  | .notin, .p a, s, M => do
    let xs ← items M s
    if flat a && xs.all flat || isLst s && (a.fit 63 && P.fits 63 xs) then some (!xs.any fun y => y.eqv a) else none
  | _, _, _, _ => none
def truth (M : Mem) : D → Option Bool
  | .p .non => some false
  | .p (.bl b) => some b
  | .p (.int i) => some (i != 0)
  | .p (.tup l) => some (!l.isEmpty)
  | .p (.ref i) => M[i]?.map fun xs => !xs.isEmpty
  | .scr xs => some (!xs.isEmpty)
  | _ => none
/-- Python's index into n items -/
def pix (n : Nat) (i : Int) : Option Nat := if 0 ≤ i then (if i < n then some i.toNat else none) else if -(n : Int) ≤ i then some (i + n).toNat else none
def atx (xs : List P) (i : Int) : Option P := (pix xs.length i).bind fun j => xs[j]?
def clip (n d : Nat) : Option Int → Nat
  | none => d
  | some v => if v < 0 then (v + (n : Int)).toNat else min v.toNat n
def cutp (xs : List P) (lo hi : Option Int) : List P := (xs.drop (clip xs.length 0 lo)).take (clip xs.length xs.length hi - clip xs.length 0 lo)
def index (a i : D) (M : Mem) : Option P := match i with
  | .p (.int k) => (items M a).bind fun xs => atx xs k
  | _ => none
def slice (a : D) (lo hi : Option Int) (M : Mem) : Option (D × Mem) := match a with
  | .p (.tup l) => one (.tup (cutp l lo hi)) M
  | .p (.ref i) => M[i]?.bind fun xs => newl (cutp xs lo hi) M
  | .scr xs => newl (cutp xs lo hi) M
  | _ => none
def intsP : List P → Option (List Int)
  | [] => some []
  | .int i :: r => (intsP r).map (i :: ·)
  | _ => none
def blsP : List P → Option (List Bool)
  | [] => some []
  | .bl b :: r => (blsP r).map (b :: ·)
  | _ => none
def truths : List P → Option (List Bool)
  | [] => some []
  | x :: r => do
    let b ← truth [] (.p x)
    let bs ← truths r
    some (b :: bs)
def maxI : Int → List Int → Int
  | a, [] => a
  | a, b :: r => maxI (if b > a then b else a) r
def minI : Int → List Int → Int
  | a, [] => a
  | a, b :: r => minI (if b < a then b else a) r
def bfun (b : BI) (xs : List D) (M : Mem) : Option (D × Mem) := match b, xs with
  | .rv, [.p (.tup l)] => one (.tup l.reverse) M
  | .len, [d] => (items M d).bind fun l => one (.int l.length) M
  | .abs, [.p (.int i)] => one (.int (if i < 0 then -i else i)) M
  | .int, [.p (.int i)] => one (.int i) M
  | .int, [.p (.bl b)] => one (.int (if b then 1 else 0)) M
  | .bool, [.p (.bl b)] => one (.bl b) M
  | .bool, [.p (.int i)] => one (.bl (i != 0)) M
  | .isint, [.p x] => one (.bl (match x with | .int _ => true | .bl _ => true | _ => false)) M
  | .isbool, [.p x] => one (.bl (match x with | .bl _ => true | _ => false)) M
  | .istup, [.p x] => one (.bl (match x with | .tup _ => true | _ => false)) M
  | .isstr, [.p x] => one (.bl (match x with | .str _ => true | _ => false)) M
  | .max, [.p (.int a), .p (.int b)] => one (.int (if b > a then b else a)) M
  | .min, [.p (.int a), .p (.int b)] => one (.int (if b < a then b else a)) M
  | .max, [d] => do
    let l ← items M d
    let is ← intsP l
    match is with
    | [] => none
    | a :: r => one (.int (maxI a r)) M
  | .min, [d] => do
    let l ← items M d
    let is ← intsP l
    match is with
    | [] => none
    | a :: r => one (.int (minI a r)) M
  | .sum, [d] => do
    let l ← items M d
    let is ← intsP l
    one (.int is.sum) M
  | .tuple, [d] => (items M d).bind fun l => one (.tup l) M
  | .list, [d] => (items M d).bind fun l => newl l M
  | .all, [.p (.ref i)] => do
    let l ← M[i]?
    let bs ← blsP l
    one (.bl (bs.all id)) M
  | _, _ => none
/-- xs.m(..): the value, the list behind it -/
def mtf (m : MT) (M : Mem) (xs : List P) (as : List D) : Option (P × List P) := match m, as with
  | .append, [.p x] => if xs.length < sizeLine then some (.non, xs ++ [x]) else none
  | .pop, [] => (xs[xs.length - 1]?).map fun y => (y, xs.dropLast)
  | .popi, [.p (.int i)] => if decide (-(2 ^ 63) ≤ i) && decide (i < 2 ^ 63) then (pix xs.length i).bind fun k => (xs[k]?).map fun y => (y, xs.eraseIdx k) else none
  | .reverse, [] => some (.non, xs.reverse)
  | .extend, [.p (.ref j)] => (M[j]?).bind fun ys => if xs.length + ys.length ≤ sizeLine then some (.non, xs ++ ys) else none
  | .insert, [.p (.int i), .p x] => if decide (xs.length < sizeLine) && decide (0 ≤ i) && decide (i < 2 ^ 63) then some (.non, xs.take i.toNat ++ [x] ++ xs.drop i.toNat) else none
  | .remove, [.p x] => if x.fit 63 && P.fits 63 xs then (xs.findIdx? fun y => y.eqv x).map fun j => (.non, xs.eraseIdx j) else none
  | _, _ => none
def seti (xs : List P) (i : Int) (x : P) : Option (List P) := (pix xs.length i).map fun j => xs.set j x

mutual
/-- the names a target stores -/
def T.slots : T → List Nat
  | .nm i => [i]
  | .tp l => T.slotss l
def T.slotss : List T → List Nat
  | [] => []
  | t :: ts => T.slots t ++ T.slotss ts
end
mutual
def T.put : T → P → Env → Option Env
  | .nm i, x, ρ => if i < ρ.length then some (ρ.set i (some (.p x))) else none
  | .tp ts, .tup l, ρ => T.puts ts l ρ
  | .tp _, _, _ => none
def T.puts : List T → List P → Env → Option Env
  | [], [], ρ => some ρ
  | t :: ts, x :: xs, ρ => (T.put t x ρ).bind fun ρ' => T.puts ts xs ρ'
  | _, _, _ => none
end
def T.putD (t : T) (d : D) (ρ : Env) : Option Env := match t, d with
  | .nm i, d => if i < ρ.length then some (ρ.set i (some d)) else none
  | t, .p x => t.put x ρ
  | _, _ => none
def wipeE (ρ : Env) : List Nat → Env
  | [] => ρ
  | v :: vs => (wipeE ρ vs).set v none

def noScr (ρ : Env) : Bool := ρ.all fun
  | some (.scr _) => false
  | _ => true
/-- what a loop walks: the items, and the lists that must stay as they are -/
structure Src where
  xs : List P
  ls : List (Nat × List P)
  fr : Bool := true
def Src.ok (s : Src) (M : Mem) : Bool := s.ls.all fun q => decide (M[q.1]? = some q.2)
def asSrc (M : Mem) : D → Option Src
  | .p (.tup l) => some ⟨l, [], true⟩
  | .p (.ref i) => M[i]?.map fun xs => ⟨xs, [(i, xs)], true⟩
  | .scr xs => some ⟨xs, [], false⟩
  | _ => none
def small (i : Int) : Bool := decide (-(2 ^ 62) ≤ i) && decide (i < 2 ^ 62)
def rangeP : Int → Nat → List P
  | _, 0 => []
  | lo, n + 1 => .int lo :: rangeP (lo + 1) n
theorem rangeP_eq : ∀ (n : Nat) (lo : Int), rangeP lo n = (List.range n).map fun (k : Nat) => P.int (lo + (k : Int))
  | 0, _ => rfl
  | n + 1, lo => by
    rw [rangeP, rangeP_eq n, List.range_succ_eq_map, List.map_cons, List.map_map]
    congr 1
    · simp
    · apply List.map_congr_left
      intro k _
      simp only [Function.comp]
      congr 1
      have : ((Nat.succ k : Nat) : Int) = (k : Int) + 1 := rfl
      omega
def enumP : Nat → List P → List P
  | _, [] => []
  | k, x :: r => .tup [.int k, x] :: enumP (k + 1) r
def zipP : List P → List P → List P
  | x :: xs, y :: ys => .tup [x, y] :: zipP xs ys
  | _, _ => []
def isTup : D → Bool
  | .p (.tup _) => true
  | _ => false
def src (k : IK) (ds : List D) (M : Mem) : Option Src := match k, ds with
  | .rng, [.p (.int n)] => if small n then some ⟨rangeP 0 n.toNat, [], true⟩ else none
  | .rng, [.p (.int a), .p (.int b)] => if small a && small b then some ⟨rangeP a (b - a).toNat, [], true⟩ else none
  | .seq, [d] => asSrc M d
  | .enm, [.p (.tup l)] => some ⟨enumP 0 l, [], true⟩
  | .enm, [d] => (asSrc M d).map fun s => ⟨enumP 0 s.xs, s.ls, s.fr⟩
  | .zip, [.p (.tup xs), .p (.tup ys)] => some ⟨zipP xs ys, [], true⟩
  | .zip, [a, b] => if isTup a || isTup b then none else do
    let s ← asSrc M a
    let t ← asSrc M b
    some ⟨zipP s.xs t.xs, s.ls ++ t.ls, s.fr && t.fr⟩
  | _, _ => none

def getAll {α : Type} (xs : List α) : List Nat → Option (List α)
  | [] => some []
  | i :: r => do
    let x ← xs[i]?
    let rs ← getAll xs r
    some (x :: rs)
mutual
/-- no list number from n on -/
def P.und (n : Nat) : P → Bool
  | .ref i => decide (i < n)
  | .tup l => P.unds n l
  | _ => true
def P.unds (n : Nat) : List P → Bool
  | [] => true
  | x :: xs => P.und n x && P.unds n xs
end
def D.und (n : Nat) : D → Bool
  | .p x => x.und n
  | .scr xs => P.unds n xs
/-- behind a call: lists out of reach are dropped -/
def back (M : Mem) (d : D) (M' : Mem) : D × Mem :=
  if d.und M.length && (List.range M.length).all fun i => decide (M'[i]? = M[i]?) || ((M'[i]?).getD []).all (P.und M.length) then (d, M'.take M.length) else (d, M')
def turns (s : Src) (f : P → Mem → Option (List P × Mem)) : List P → Mem → Option (List P × Mem)
  | [], M => some ([], M)
  | x :: r, M => do
    let (o, M) ← f x M
    if s.ok M then do
      let (ys, M) ← turns s f r M
      some (o ++ ys, M)
    else none
def gturns (f : P → Option (Option P)) : List P → Option (List P)
  | [] => some []
  | x :: r => do
    let o ← f x
    let ys ← gturns f r
    some (o.toList ++ ys)
def cturns (f : P → Option (List P)) : List P → Option (List P)
  | [] => some []
  | x :: r => do
    let o ← f x
    let ys ← cturns f r
    some (o ++ ys)
/-- list(range(..)), tuple(range(..)) -/
def rangeL (b : Bool) (ds : List D) (M : Mem) : Option (D × Mem) := match ds with
  | [.p (.int n)] => if small n && decide (n.toNat ≤ sizeLine) then (if b then newl (rangeP 0 n.toNat) M else one (.tup (rangeP 0 n.toNat)) M) else none
  | [.p (.int a), .p (.int n)] => if small a && small n && decide ((n - a).toNat ≤ sizeLine) then (if b then newl (rangeP a (n - a).toNat) M else one (.tup (rangeP a (n - a).toNat)) M) else none
  | _ => none
def gtest (stop : Bool) (f : P → Option (Option P)) : List P → Option Bool
  | [] => some (!stop)
  | x :: r => do
    let o ← f x
    match o with
    | none => gtest stop f r
    | some y => do
      let b ← truth [] (.p y)
      if b = stop then some stop else gtest stop f r
/-- what the consumer makes of it -/
def genEnd (gk : GK) (s : Src) (F : P → Option (Option P)) (M : Mem) : Option (D × Mem) := match gk with
  | .tuple => (gturns F s.xs).bind fun ys => if ys.length + 1 < sizeLine then some (.p (.tup ys), M) else none
  | .sum => (gturns F s.xs).bind fun ys => (intsP ys).bind fun is => if ys.length + 1 < sizeLine then some (.p (.int is.sum), M) else none
  | .all => if s.xs.length + 1 < sizeLine then (gtest false F s.xs).map fun b => (.p (.bl b), M) else none
  | .any => if s.xs.length + 1 < sizeLine then (gtest true F s.xs).map fun b => (.p (.bl b), M) else none
inductive Out where
  | nx (ρ : Env) (M : Mem) | rt (d : D) (M : Mem) | bk (ρ : Env) (M : Mem) | ct (ρ : Env) (M : Mem) | xc (c : Str) (xs : List P) (M : Mem)

/-- a world of defs: what f gives for arguments and their lists -/
abbrev Wd := Nat → List D → Mem → Option (D × Mem)

section
variable (W : Wd) (G : Str → Option P) (N : Nat)
mutual
def evE : E → Env → Mem → Option (D × Mem)
  | .v i, ρ, M => match ρ[i]? with
    | some (some d) => some (d, M)
    | _ => none
  | .c x, _, M => some (.p x, M)
  | .g n, _, M => (G n).map fun x => (.p x, M)
  | .bin o a b, ρ, M => do
    let (x, M) ← evE a ρ M
    let (y, M) ← evE b ρ M
    binop o x y M
  | .neg a, ρ, M => do
    let (x, M) ← evE a ρ M
    match x with
    | .p (.int i) => some (.p (.int (-i)), M)
    | _ => none
  | .not a, ρ, M => do
    let (x, M) ← evE a ρ M
    let b ← truth M x
    some (.p (.bl (!b)), M)
  | .cmp o a b, ρ, M => do
    let (x, M) ← evE a ρ M
    let (y, M) ← evE b ρ M
    let r ← cmpop o x y M
    some (.p (.bl r), M)
  | .cmp2 o o' a b c, ρ, M => do
    let (x, M) ← evE a ρ M
    let (y, M) ← evE b ρ M
    let r ← cmpop o x y M
    if r then do
      let (z, M) ← evE c ρ M
      let r' ← cmpop o' y z M
      some (.p (.bl r'), M)
    else some (.p (.bl false), M)
  | .and l, ρ, M => evAnd l ρ M
  | .or l, ρ, M => evOr l ρ M
  | .ife t a b, ρ, M => do
    let (c, M) ← evT t ρ M
    if c then evE a ρ M else evE b ρ M
  | .tup l, ρ, M => do
    let (ds, M) ← evEs l ρ M
    let ps ← datas ds
    if ps.length ≤ sizeLine then some (.p (.tup ps), M) else none
  | .lst l, ρ, M => do
    let (ds, M) ← evEs l ρ M
    let ps ← datas ds
    newl ps M
  | .idx a i, ρ, M => do
    let (x, M) ← evE a ρ M
    let (y, M) ← evE i ρ M
    let r ← index x y M
    some (.p r, M)
  | .slc a lo hi, ρ, M => do
    let (x, M) ← evE a ρ M
    let (l, M) ← evO lo ρ M
    let (h, M) ← evO hi ρ M
    slice x l h M
  | .call f l ix, ρ, M => do
    let (ds, M) ← evEs l ρ M
    let as ← getAll ds ix
    let (d, M') ← W f as M
    some (back M d M')
  | .bi b l, ρ, M => do
    let (ds, M) ← evEs l ρ M
    bfun b ds M
  | .mt m o l, ρ, M => do
    let (x, M) ← evE o ρ M
    let (ds, M) ← evEs l ρ M
    match x with
    | .p (.ref i) => do
      let xs ← M[i]?
      let (r, ys) ← mtf m M xs ds
      some (.p r, M.set i ys)
    | _ => none
  | .tru _, _, _ => none
  | .lc vs elt t k sr ifs, ρ, M => do
    let (ds, M) ← evEs sr ρ M
    let s ← src k ds M
    let (ys, M) ← turns s (fun x M => do
      let ρ' ← t.put x (wipeE ρ vs)
      let (b, M) ← evIfs ifs ρ' M
      if b then do
        let (y, M) ← evE elt ρ' M
        match y with
        | .p r => some ([r], M)
        | _ => none
      else some ([], M)) s.xs M
    newl ys M
  | .lc2 vs elt t k sr ifs vs1 t1 k1 sr1 ifs1, ρ, M => do
    let (ds, M) ← evEs sr ρ M
    let s ← src k ds M
    let (ys, M) ← turns s (fun x M => do
      let ρ' ← t.put x (wipeE ρ vs)
      let (b, M) ← evIfs ifs ρ' M
      if b then do
        let (ds1, M) ← evEs sr1 ρ' M
        let s1 ← src k1 ds1 M
        if noScr ρ' && s1.fr then
          turns s1 (fun x M => do
            let ρ2 ← t1.put x (wipeE ρ' vs1)
            let (b, M) ← evIfs ifs1 ρ2 M
            if b then do
              let (y, M) ← evE elt ρ2 M
              match y with
              | .p r => some ([r], M)
              | _ => none
            else some ([], M)) s1.xs M
        else none
      else some ([], M)) s.xs M
    newl ys M
  | .gen gk vs elt t k sr ifs, ρ, M => do
    let (ds, M) ← evEs sr ρ M
    let s ← src k ds M
    genEnd gk s (fun x => do
      let ρ' ← t.put x (wipeE ρ vs)
      let (b, M') ← evIfs ifs ρ' M
      if b then do
        let (y, M'') ← evE elt ρ' M'
        match y with
        | .p r => if M'' = M then some (some r) else none
        | _ => none
      else if M' = M then some none else none) M
  | .gen2 vs elt t k sr ifs vs1 t1 k1 sr1 ifs1, ρ, M => do
    let (ds, M) ← evEs sr ρ M
    let s ← src k ds M
    let ys ← cturns (fun x => do
      let ρ' ← t.put x (wipeE ρ vs)
      let (b, M1) ← evIfs ifs ρ' M
      if b then do
        let (ds1, M2) ← evEs sr1 ρ' M1
        let s1 ← src k1 ds1 M2
        if M2 = M then gturns (fun x1 => do
          let ρ2 ← t1.put x1 (wipeE ρ' vs1)
          let (b, M') ← evIfs ifs1 ρ2 M
          if b then do
            let (y, M'') ← evE elt ρ2 M'
            match y with
            | .p r => if M'' = M then some (some r) else none
            | _ => none
          else if M' = M then some none else none) s1.xs else none
      else if M1 = M then some [] else none) s.xs
    if ys.length + 1 < sizeLine then some (.p (.tup ys), M) else none
  | .rl b l, ρ, M => do
    let (ds, M) ← evEs l ρ M
    rangeL b ds M
  | .dsub a b x y i, ρ, M => do
    let (d1, M) ← evE x ρ M
    let (d2, M) ← evE y ρ M
    let (k, M) ← evE i ρ M
    match k with
    | .p (.int n) => if n = a then some (d1, M) else if n = b then some (d2, M) else none
    | _ => none
def evEs : List E → Env → Mem → Option (List D × Mem)
  | [], _, M => some ([], M)
  | e :: es, ρ, M => do
    let (x, M) ← evE e ρ M
    let (xs, M) ← evEs es ρ M
    some (x :: xs, M)
def evO : Option E → Env → Mem → Option (Option Int × Mem)
  | none, _, M => some (none, M)
  | some e, ρ, M => do
    let (x, M) ← evE e ρ M
    match x with
    | .p (.int i) => some (some i, M)
    | _ => none
/-- an expression as a test -/
def evT : E → Env → Mem → Option (Bool × Mem)
  | .and l, ρ, M => evTAnd l ρ M
  | .or l, ρ, M => evTOr l ρ M
  | .not a, ρ, M => do
    let (b, M) ← evT a ρ M
    some (!b, M)
  | .cmp o a b, ρ, M => do
    let (x, M) ← evE a ρ M
    let (y, M) ← evE b ρ M
    let r ← cmpop o x y M
    some (r, M)
  | .cmp2 o o' a b c, ρ, M => do
    let (x, M) ← evE a ρ M
    let (y, M) ← evE b ρ M
    let r ← cmpop o x y M
    if r then do
      let (z, M) ← evE c ρ M
      let r' ← cmpop o' y z M
      some (r', M)
    else some (false, M)
  | .tru a, ρ, M => do
    let (x, M) ← evE a ρ M
    let r ← truth M x
    some (r, M)
  | _, _, _ => none
def evTAnd : List E → Env → Mem → Option (Bool × Mem)
  | [], _, _ => none
  | [e], ρ, M => evT e ρ M
  | e :: es, ρ, M => do
    let (b, M) ← evT e ρ M
    if b then evTAnd es ρ M else some (false, M)
def evTOr : List E → Env → Mem → Option (Bool × Mem)
  | [], _, _ => none
  | [e], ρ, M => evT e ρ M
  | e :: es, ρ, M => do
    let (b, M) ← evT e ρ M
    if b then some (true, M) else evTOr es ρ M
def evAnd : List E → Env → Mem → Option (D × Mem)
  | [], _, _ => none
  | [e], ρ, M => evE e ρ M
  | e :: es, ρ, M => do
    let (x, M) ← evE e ρ M
    match x with
    | .p (.bl true) => evAnd es ρ M
    | .p (.bl false) => some (.p (.bl false), M)
    | _ => none
def evOr : List E → Env → Mem → Option (D × Mem)
  | [], _, _ => none
  | [e], ρ, M => evE e ρ M
  | e :: es, ρ, M => do
    let (x, M) ← evE e ρ M
    match x with
    | .p (.bl true) => some (.p (.bl true), M)
    | .p (.bl false) => evOr es ρ M
    | _ => none
def evIfs : List E → Env → Mem → Option (Bool × Mem)
  | [], _, M => some (true, M)
  | [c], ρ, M => evT c ρ M
  | _, _, _ => none
end

def forL (s : Src) (f : P → Env → Mem → Option Out) : List P → Env → Mem → Option Out
  | [], ρ, M => some (.nx ρ M)
  | x :: r, ρ, M => do
    match ← f x ρ M with
    | .nx ρ M => if s.ok M then forL s f r ρ M else none
    | .ct ρ M => if s.ok M then forL s f r ρ M else none
    | .bk ρ M => some (.nx ρ M)
    | .rt d M => some (.rt d M)
    | .xc c xs M => some (.xc c xs M)
def whileL (c : Env → Mem → Option (Bool × Mem)) (f : Env → Mem → Option Out) : Nat → Env → Mem → Option Out
  | 0, _, _ => none
  | n + 1, ρ, M => do
    let (b, M) ← c ρ M
    if b then
      match ← f ρ M with
      | .nx ρ M => whileL c f n ρ M
      | .ct ρ M => whileL c f n ρ M
      | .bk ρ M => some (.nx ρ M)
      | .rt d M => some (.rt d M)
      | .xc c xs M => some (.xc c xs M)
    else some (.nx ρ M)
def parE : List Nat → List D → Env → Option Env
  | [], [], ρ => some ρ
  | i :: is, d :: ds, ρ => if i < ρ.length then parE is ds (ρ.set i (some d)) else none
  | _, _, _ => none
/-- x op= y of ints -/
def augop (o : BO) (x y : D) : Option P := match o, x, y with
  | .add, .p (.int a), .p (.int b) => some (.int (a + b))
  | .sub, .p (.int a), .p (.int b) => some (.int (a - b))
  | .mul, .p (.int a), .p (.int b) => if mulOk a b then some (.int (a * b)) else none
  | _, _, _ => none
/-- behind a call that may have raised -/
def callS (k : XC) (ρ : Env) (d : D) (M : Mem) : Option Out := match d with
  | .p (.tup [.bl true, x]) => (match k with
    | .ex => some (.nx ρ M)
    | .ret => some (.rt (.p x) M)
    | .retc c => some (.rt (.p (.tup [c, x])) M))
  | .p (.tup [.bl false, .str c, .tup xs]) => some (.xc c xs M)
  | _ => none
/-- behind a try's body -/
def tryO (c : Str) (h : HR) : Out → Option Out
  | .xc c' xs M => if c' = c then (h.ev xs).map fun r => .rt (.p r) M else none
  | o => some o
mutual
def evS : S → Env → Mem → Option Out
  | .raise c l, ρ, M => do
    let (ds, M) ← evEs W G l ρ M
    let xs ← datas ds
    if smallPs xs = true then some (.xc c xs M) else none
  | .xcall k f l ix, ρ, M => do
    let (ds, M) ← evEs W G l ρ M
    let as ← getAll ds ix
    let (d, M') ← W (f + XO) as M
    callS k ρ (back M d M').1 (back M d M').2
  | .tryS b c h, ρ, M => do
    let o ← evSs b ρ M
    tryO c h o
  | .set t e, ρ, M => do
    let (d, M) ← evE W G e ρ M
    let ρ' ← t.putD d ρ
    some (.nx ρ' M)
  | .par is es, ρ, M => do
    let (ds, M) ← evEs W G es ρ M
    let ρ' ← parE is ds ρ
    some (.nx ρ' M)
  | .seti o i e, ρ, M => do
    let (d, M) ← evE W G e ρ M
    let (x, M) ← evE W G o ρ M
    let (k, M) ← evE W G i ρ M
    match x, k, d with
    | .p (.ref j), .p (.int k), .p v => do
      let xs ← M[j]?
      let ys ← seti xs k v
      some (.nx ρ (M.set j ys))
    | _, _, _ => none
  | .aug i o e, ρ, M => do
    match ρ[i]? with
    | some (some x) => do
      let (y, M) ← evE W G e ρ M
      let z ← augop o x y
      some (.nx (ρ.set i (some (.p z))) M)
    | _ => none
  | .augi a i o e, ρ, M => do
    let (x, M) ← evE W G a ρ M
    let (k, M) ← evE W G i ρ M
    let old ← index x k M
    let (y, M) ← evE W G e ρ M
    let z ← augop o (.p old) y
    match x, k with
    | .p (.ref j), .p (.int k) => do
      let xs ← M[j]?
      let ys ← seti xs k z
      some (.nx ρ (M.set j ys))
    | _, _ => none
  | .ife t a b, ρ, M => do
    let (c, M) ← evT W G t ρ M
    if c then evSs a ρ M else evSs b ρ M
  | .loop t k sr body, ρ, M => do
    let (ds, M) ← evEs W G sr ρ M
    let s ← src k ds M
    forL s (fun x ρ M => (t.put x ρ).bind fun ρ' => evSs body ρ' M) s.xs ρ M
  | .whl t body, ρ, M => whileL (fun ρ M => evT W G t ρ M) (fun ρ M => evSs body ρ M) N ρ M
  | .ret e, ρ, M => do
    let (d, M) ← evE W G e ρ M
    some (.rt d M)
  | .retn, _, M => some (.rt (.p .non) M)
  | .ex e, ρ, M => do
    let (_, M) ← evE W G e ρ M
    some (.nx ρ M)
  | .brk, ρ, M => some (.bk ρ M)
  | .cnt, ρ, M => some (.ct ρ M)
  | .pas, ρ, M => some (.nx ρ M)
  | .stk, _, _ => none
def evSs : List S → Env → Mem → Option Out
  | [], ρ, M => some (.nx ρ M)
  | s :: r, ρ, M => do
    match ← evS s ρ M with
    | .nx ρ M => evSs r ρ M
    | o => some o
end
end
def entry (fn : Fn) (ds : List D) : Env := ds.map some ++ List.replicate (fn.ns - fn.np) none
def fin : Out → Option (D × Mem)
  | .rt d M => some (d, M)
  | .nx _ M => some (.p .non, M)
  | _ => none
def finx : Out → Option (D × Mem)
  | .rt (.p x) M => some (.p (.tup [.bl true, x]), M)
  | .nx _ M => some (.p (.tup [.bl true, .non]), M)
  | .xc c xs M => some (.p (.tup [.bl false, .str c, .tup xs]), M)
  | _ => none
def evF (Φ : Nat → Option Fn) (G : Str → Option P) (N : Nat) : Nat → Wd
  | 0 => fun _ _ _ => none
  | k + 1 => fun f ds M => if XO ≤ f then (Φ (f - XO)).bind fun fn => if ds.length = fn.np then (evSs (evF Φ G N k) G N fn.body (entry fn ds) M).bind finx else none
    else (Φ f).bind fun fn => if ds.length = fn.np then (evSs (evF Φ G N k) G N fn.body (entry fn ds) M).bind fin else none
end IX
end

section
set_option Elab.async false
set_option linter.all false
set_option maxRecDepth 100000
set_option maxHeartbeats 4000000
/-! How the small language's values lie in the heap. -/
namespace IX
open PySem PySem.Spec PyProof.Rows L2 GX
mutual
def RP (K : PySem.W.Frag) (H : Hp) (α : List Addr) : P → V → Prop
  | .non, v => v = .non
  | .bl b, v => v = .bl b
  | .int i, v => v = .int i
  | .str x, v => v = .str x
  | .tup l, v => ∃ a vs, v = .ref a ∧ SqT K H a vs ∧ RPs K H α l vs
  | .ref i, v => ∃ a, α[i]? = some a ∧ v = .ref a
def RPs (K : PySem.W.Frag) (H : Hp) (α : List Addr) : List P → List V → Prop
  | [], [] => True
  | x :: xs, v :: vs => RP K H α x v ∧ RPs K H α xs vs
  | _, _ => False
end
def RD (K : PySem.W.Frag) (H : Hp) (α : List Addr) : D → V → Prop
  | .p x, v => RP K H α x v
  | .scr xs, v => ∃ a vs, v = .ref a ∧ ((Rd H a (.lst vs) ∧ a ∉ α) ∨ SqL K (fun _ => none) a vs) ∧ RPs K H α xs vs
def RDs (K : PySem.W.Frag) (H : Hp) (α : List Addr) : List D → List V → Prop
  | [], [] => True
  | x :: xs, v :: vs => RD K H α x v ∧ RDs K H α xs vs
  | _, _ => False
structure RM (K : PySem.W.Frag) (H : Hp) (α : List Addr) (M : Mem) : Prop where
  nd : α.Nodup
  len : α.length = M.length
  cell : ∀ (i : Nat) (a : Addr) (xs : List P), α[i]? = some a → M[i]? = some xs → ∃ vs, H a = some (.lst vs) ∧ RPs K H α xs vs
structure REnv (K : PySem.W.Frag) (H : Hp) (α : List Addr) (ρ : Env) (σ : L2.St) : Prop where
  len : ρ.length = σ.length
  cell : ∀ (i : Nat) (d : D), ρ[i]? = some (some d) → ∃ v, σ[i]? = some (some v) ∧ RD K H α d v
/-- from (α, H) to (α', H'): the frame's lists may change, lists may come -/
structure Nx (K : PySem.W.Frag) (α : List Addr) (H : Hp) (α' : List Addr) (H' : Hp) (M' : Mem) : Prop where
  grow : Grow α H H'
  ext : ∃ β, α' = α ++ β ∧ ∀ b ∈ β, H b = none
  mem : RM K H' α' M'
  tab : TabAll H'
/-- the tables of the module's code objects are tracked -/
def Trk (K : PySem.W.Frag) (H : Hp) : Prop := ∀ c P, PySem.W.codeHdIn K c P = true → ∃ ps, H P = some (.tbl ps)
structure RSt (K : PySem.W.Frag) (base : Heap) (code : Value) (σ : L2.St) (H : Hp) (ρ : Env) (M : Mem) (α : List Addr) : Prop where
  env : REnv K H α ρ σ
  mem : RM K H α M
  tab : TabAll H
  code : CodeAt base H code
  trk : Trk K H
abbrev RS (X : Cx) (σ : L2.St) (H : Hp) (ρ : Env) (M : Mem) (α : List Addr) : Prop := RSt X.K X.base X.env.code σ H ρ M α

section
variable {K : PySem.W.Frag} {H H' : Hp} {α α' : List Addr} {M M' : Mem}
theorem RM.lst (m : RM K H α M) {a : Addr} (h : a ∈ α) : ∃ vs, H a = some (.lst vs) := by
  obtain ⟨i, hi, e⟩ := List.mem_iff_getElem.mp h
  have h1 : α[i]? = some a := by rw [← e]; exact List.getElem?_eq_getElem hi
  have h2 : i < M.length := by rw [← m.len]; exact hi
  obtain ⟨vs, q, _⟩ := m.cell i a _ h1 (List.getElem?_eq_getElem h2)
  exact ⟨vs, q⟩
theorem grow_at {b : Addr} {o : HO} (na : ∀ b ∈ α, ∃ xs, H b = some (.lst xs)) (g : Grow α H H') (h : H b = some o) (hn : b ∉ α) (ht : ∀ ps, o ≠ .tbl ps) : H' b = some o := by
  rcases g b o h with q | q | ⟨⟨ps, q⟩, _⟩
  · exact absurd q hn
  · exact q
  · exact absurd q (ht ps)
theorem grow_some {b : Addr} {o : HO} (m : RM K H' α' M') (hs : ∀ b ∈ α, b ∈ α') (g : Grow α H H') (h : H b = some o) : ∃ o', H' b = some o' := by
  rcases g b o h with q | q | ⟨_, ps, q⟩
  · obtain ⟨vs, e⟩ := m.lst (hs b q); exact ⟨_, e⟩
  · exact ⟨_, q⟩
  · exact ⟨_, q⟩
theorem rd_tup {a : Addr} {xs : List V} (na : ∀ b ∈ α, ∃ xs, H b = some (.lst xs)) (g : Grow α H H') (h : Rd H a (.tup xs)) : Rd H' a (.tup xs) := by
  rcases h with h | ⟨o, h⟩
  · refine .inl (grow_at na g h (fun z => ?_) fun ps e => by cases e)
    obtain ⟨ys, e⟩ := na a z
    rw [h] at e; cases e
  · refine .inr ⟨o, grow_at na g h (fun z => ?_) fun ps e => by cases e⟩
    obtain ⟨ys, e⟩ := na a z
    rw [h] at e; cases e
theorem sqt_grow {a : Addr} {xs : List V} (na : ∀ b ∈ α, ∃ xs, H b = some (.lst xs)) (g : Grow α H H') (h : SqT K H a xs) : SqT K H' a xs := by
  rcases h with h | h
  · exact .inl (rd_tup na g h)
  · exact .inr h
def Pre (γ γ' : List Addr) : Prop := ∀ (i : Nat) (a : Addr), γ[i]? = some a → γ'[i]? = some a
theorem Pre.refl (γ : List Addr) : Pre γ γ := fun _ _ h => h
theorem Pre.app (γ β : List Addr) : Pre γ (γ ++ β) := fun i a h => by
  rw [List.getElem?_append_left (List.getElem?_eq_some_iff.mp h).1]; exact h
mutual
theorem RP.grow {γ γ' : List Addr} (na : ∀ b ∈ α, ∃ xs, H b = some (.lst xs)) (g : Grow α H H') (hx : Pre γ γ') : ∀ (x : P) (v : V), RP K H γ x v → RP K H' γ' x v
  | .non, _, h => h
  | .bl _, _, h => h
  | .int _, _, h => h
  | .str _, _, h => h
  | .tup l, v, h => by
    unfold RP at h ⊢
    obtain ⟨a, vs, e, q, r⟩ := h
    exact ⟨a, vs, e, sqt_grow na g q, RPs.grow na g hx l vs r⟩
  | .ref i, v, h => by
    unfold RP at h ⊢
    obtain ⟨a, e, q⟩ := h
    exact ⟨a, hx i a e, q⟩
theorem RPs.grow {γ γ' : List Addr} (na : ∀ b ∈ α, ∃ xs, H b = some (.lst xs)) (g : Grow α H H') (hx : Pre γ γ') : ∀ (xs : List P) (vs : List V), RPs K H γ xs vs → RPs K H' γ' xs vs
  | [], [], _ => by unfold RPs; trivial
  | x :: xs, v :: vs, h => by
    unfold RPs at h ⊢
    exact ⟨RP.grow na g hx x v h.1, RPs.grow na g hx xs vs h.2⟩
  | [], _ :: _, h => by unfold RPs at h; exact h.elim
  | _ :: _, [], h => by unfold RPs at h; exact h.elim
end
theorem sql_none {a : Addr} {vs : List V} (h : SqL K (fun _ => none) a vs) : SqL K H a vs := by
  rcases h with (h | ⟨o, h⟩) | h
  · cases h
  · cases h
  · exact .inr h
theorem rdl_grow {a : Addr} {vs : List V} (na : ∀ b ∈ α, ∃ xs, H b = some (.lst xs)) (g : Grow α H H') (h : Rd H a (.lst vs)) (hn : a ∉ α) : Rd H' a (.lst vs) := by
  rcases h with h | ⟨o, h⟩
  · exact .inl (grow_at na g h hn fun ps e => by cases e)
  · exact .inr ⟨o, grow_at na g h hn fun ps e => by cases e⟩
theorem Nx.rd (n : Nx K α H α' H' M') (m : RM K H α M) : ∀ {d : D} {v : V}, RD K H α d v → RD K H' α' d v := fun {d v} h => by
  have na : ∀ b ∈ α, ∃ xs, H b = some (.lst xs) := fun b hb => m.lst hb
  obtain ⟨β, eβ, fβ⟩ := n.ext
  have hx : Pre α α' := by rw [eβ]; exact Pre.app α β
  cases d with
  | p x => exact RP.grow na n.grow hx x v h
  | scr xs =>
    obtain ⟨a, vs, e, q, r⟩ := h
    refine ⟨a, vs, e, ?_, RPs.grow na n.grow hx _ _ r⟩
    rcases q with ⟨q, hn⟩ | q
    · refine .inl ⟨rdl_grow na n.grow q hn, fun z => ?_⟩
      rw [eβ] at z
      rcases List.mem_append.mp z with z | z
      · exact hn z
      · have := fβ a z
        rcases q with q | ⟨o, q⟩ <;> rw [this] at q <;> cases q
    · exact .inr q
theorem Nx.rds (n : Nx K α H α' H' M') (m : RM K H α M) : ∀ {ds : List D} {vs : List V}, RDs K H α ds vs → RDs K H' α' ds vs
  | [], [], _ => trivial
  | _ :: _, _ :: _, h => ⟨n.rd m h.1, n.rds m h.2⟩
  | [], _ :: _, h => h.elim
  | _ :: _, [], h => h.elim
theorem Nx.env (n : Nx K α H α' H' M') (m : RM K H α M) {ρ : Env} {σ : L2.St} (e : REnv K H α ρ σ) : REnv K H' α' ρ σ := ⟨e.len, fun i d h => by
  obtain ⟨v, q, r⟩ := e.cell i d h
  exact ⟨v, q, n.rd m r⟩⟩
theorem Nx.refl (m : RM K H α M) (t : TabAll H) : Nx K α H α H M := ⟨Grow.refl H, ⟨[], by simp, fun b h => by simp at h⟩, m, t⟩
theorem Nx.trans {α'' : List Addr} {H'' : Hp} {M'' : Mem} (m : RM K H α M) (a : Nx K α H α' H' M') (b : Nx K α' H' α'' H'' M'') : Nx K α H α'' H'' M'' := by
  obtain ⟨β, e1, f1⟩ := a.ext
  obtain ⟨γ, e2, f2⟩ := b.ext
  refine ⟨fun c o h => ?_, ⟨β ++ γ, by rw [e2, e1, List.append_assoc], fun c hc => ?_⟩, b.mem, b.tab⟩
  · have hβ : c ∉ β := fun z => by rw [f1 c z] at h; cases h
    rcases a.grow c o h with q | q | ⟨q, ps, q'⟩
    · exact .inl q
    · rcases b.grow c o q with r | r | r
      · rw [e1] at r
        rcases List.mem_append.mp r with r | r
        · exact .inl r
        · exact absurd r hβ
      · exact .inr (.inl r)
      · exact .inr (.inr r)
    · rcases b.grow c _ q' with r | r | ⟨_, r⟩
      · rw [e1] at r
        rcases List.mem_append.mp r with r | r
        · exact .inl r
        · exact absurd r hβ
      · exact .inr (.inr ⟨q, ps, r⟩)
      · exact .inr (.inr ⟨q, r⟩)
  · rcases List.mem_append.mp hc with z | z
    · exact f1 c z
    · cases e : H c with
      | none => rfl
      | some o =>
        obtain ⟨o', q⟩ := grow_some a.mem (fun b hb => by rw [e1]; exact List.mem_append_left _ hb) a.grow e
        rw [f2 c z] at q; cases q
theorem tabPut {p : Addr} {o : HO} (t : TabAll H) (hp : H p = none ∨ ∃ xs, H p = some (.lst xs)) (ho : ∀ ps, o ≠ .tbl ps) : TabAll (upd H p o) := fun Pa ps e => by
  have key : ∀ b u, H b = some u → (∀ xs, u ≠ .lst xs) → upd H p o b = some u := fun b u q hn => by
    rw [upd_ne]
    · exact q
    · intro z
      rw [z] at q
      rcases hp with w | ⟨xs, w⟩ <;> rw [w] at q <;> cases q
      exact hn xs rfl
  by_cases h : Pa = p
  · rw [h, upd_same] at e
    cases e
    exact absurd rfl (ho ps)
  · rw [upd_ne h] at e
    obtain ⟨k1, k2⟩ := t Pa ps e
    refine ⟨k1, fun pos cv z => ?_⟩
    obtain ⟨c, P', ob, q1, q2, q3, q4, ps', q5⟩ := k2 pos cv z
    exact ⟨c, P', ob, q1, q2, key c _ q3 (fun xs z => by cases z), q4, ps', key P' _ q5 fun xs z => by cases z⟩
/-- a new tuple -/
theorem grow_new {p : Addr} {o : HO} (hp : H p = none) : Grow α H (upd H p o) := fun b u e => .inr (.inl (by
  rw [upd_ne]
  · exact e
  · intro z; rw [z, hp] at e; cases e))
theorem RM.grow0 (m : RM K H α M) (g : Grow [] H H') : RM K H' α M := ⟨m.nd, m.len, fun i a xs e1 e2 => by
  obtain ⟨vs, q, r⟩ := m.cell i a xs e1 e2
  exact ⟨vs, grow_at (α := []) (fun b hb => by simp at hb) g q (by simp) (fun ps z => by cases z), RPs.grow (α := []) (fun b hb => by simp at hb) g (Pre.refl _) _ _ r⟩⟩
theorem Nx.new (m : RM K H α M) (t : TabAll H) {p : Addr} {o : HO} (hp : H p = none) (ho : ∀ ps, o ≠ .tbl ps) : Nx K α H α (upd H p o) M :=
  ⟨grow_new hp, ⟨[], by simp, fun b h => by simp at h⟩, m.grow0 (grow_new hp), tabPut t (.inl hp) ho⟩
theorem RPs.length : ∀ {xs : List P} {vs : List V}, RPs K H α xs vs → xs.length = vs.length
  | [], [], _ => rfl
  | _ :: xs, _ :: vs, h => by
    unfold RPs at h
    rw [List.length_cons, List.length_cons, RPs.length h.2]
  | [], _ :: _, h => by unfold RPs at h; exact h.elim
  | _ :: _, [], h => by unfold RPs at h; exact h.elim
/-- a new list, the frame's -/
theorem Nx.newl (m : RM K H α M) (t : TabAll H) {p : Addr} {xs : List P} {vs : List V} (hp : H p = none) (r : RPs K H α xs vs) : Nx K α H (α ++ [p]) (upd H p (.lst vs)) (M ++ [xs]) := by
  have n := Nx.new m t (o := .lst vs) hp fun ps z => by cases z
  have g0 : Grow [] H (upd H p (.lst vs)) := grow_new hp
  refine ⟨n.grow, ⟨[p], rfl, fun b h => by rw [List.mem_singleton.mp h]; exact hp⟩, ⟨?_, ?_, fun i a ys e1 e2 => ?_⟩, n.tab⟩
  · refine List.nodup_append.mpr ⟨m.nd, by simp, fun a ha b hb => ?_⟩
    rw [List.mem_singleton.mp hb]
    intro z
    obtain ⟨ws, e⟩ := m.lst ha
    rw [z, hp] at e; cases e
  · simp [m.len]
  · by_cases hi : i < α.length
    · rw [List.getElem?_append_left hi] at e1
      rw [List.getElem?_append_left (by rw [← m.len]; exact hi)] at e2
      obtain ⟨ws, q, r⟩ := n.mem.cell i a ys e1 e2
      exact ⟨ws, q, RPs.grow (α := []) (fun b hb => by simp at hb) (Grow.refl _) (Pre.app _ _) _ _ r⟩
    · have hi' : i = α.length := by
        have := (List.getElem?_eq_some_iff.mp e1).1
        simp at this; omega
      subst hi'
      rw [List.getElem?_append_right (Nat.le_refl _)] at e1
      rw [List.getElem?_append_right (by rw [m.len]; exact Nat.le_refl _)] at e2
      simp at e1
      simp [m.len] at e2
      subst e1; subst e2
      exact ⟨vs, upd_same .., RPs.grow (α := []) (fun b hb => by simp at hb) g0 (Pre.app _ _) _ _ r⟩
theorem RPs.append : ∀ {xs ys : List P} {vs ws : List V}, RPs K H α xs vs → RPs K H α ys ws → RPs K H α (xs ++ ys) (vs ++ ws)
  | [], _, [], _, _, h => h
  | _ :: _, _, _ :: _, _, h, h' => by
    unfold RPs at h
    show RPs K H α (_ :: _) (_ :: _)
    unfold RPs
    exact ⟨h.1, RPs.append h.2 h'⟩
  | [], _, _ :: _, _, h, _ => by unfold RPs at h; exact h.elim
  | _ :: _, _, [], _, h, _ => by unfold RPs at h; exact h.elim
theorem RPs.get : ∀ {xs : List P} {vs : List V} {i : Nat} {x : P}, RPs K H α xs vs → xs[i]? = some x → ∃ v, vs[i]? = some v ∧ RP K H α x v
  | [], _, _, _, _, e => by simp at e
  | x :: xs, v :: vs, 0, y, h, e => by
    unfold RPs at h
    simp at e; subst e
    exact ⟨v, rfl, h.1⟩
  | x :: xs, v :: vs, i + 1, y, h, e => by
    unfold RPs at h
    simp at e
    simpa using RPs.get h.2 e
  | _ :: _, [], _, _, h, _ => by unfold RPs at h; exact h.elim
theorem RPs.set : ∀ {xs : List P} {vs : List V} {i : Nat} {x : P} {v : V}, RPs K H α xs vs → RP K H α x v → RPs K H α (xs.set i x) (vs.set i v)
  | [], [], _, _, _, _, _ => by simp [RPs]
  | y :: xs, w :: vs, 0, x, v, h, r => by
    unfold RPs at h
    show RPs K H α (_ :: _) (_ :: _)
    unfold RPs
    exact ⟨r, h.2⟩
  | y :: xs, w :: vs, i + 1, x, v, h, r => by
    unfold RPs at h
    show RPs K H α (_ :: _) (_ :: _)
    unfold RPs
    exact ⟨h.1, RPs.set h.2 r⟩
  | [], _ :: _, _, _, _, h, _ => by unfold RPs at h; exact h.elim
  | _ :: _, [], _, _, _, h, _ => by unfold RPs at h; exact h.elim
theorem RPs.drop : ∀ {xs : List P} {vs : List V} (n : Nat), RPs K H α xs vs → RPs K H α (xs.drop n) (vs.drop n)
  | _, _, 0, h => h
  | [], [], _ + 1, _ => by simp [RPs]
  | _ :: _, _ :: _, n + 1, h => by
    unfold RPs at h
    exact RPs.drop n h.2
  | [], _ :: _, _ + 1, h => by unfold RPs at h; exact h.elim
  | _ :: _, [], _ + 1, h => by unfold RPs at h; exact h.elim
theorem RPs.take : ∀ {xs : List P} {vs : List V} (n : Nat), RPs K H α xs vs → RPs K H α (xs.take n) (vs.take n)
  | _, _, 0, h => by simp [RPs]
  | [], [], _ + 1, _ => by simp [RPs]
  | _ :: _, _ :: _, n + 1, h => by
    unfold RPs at h
    show RPs K H α (_ :: _) (_ :: _)
    unfold RPs
    exact ⟨h.1, RPs.take n h.2⟩
  | [], _ :: _, _ + 1, h => by unfold RPs at h; exact h.elim
  | _ :: _, [], _ + 1, h => by unfold RPs at h; exact h.elim
theorem RPs.rep {xs : List P} {vs : List V} (h : RPs K H α xs vs) : ∀ n : Nat, RPs K H α (List.replicate n xs).flatten (List.replicate n vs).flatten
  | 0 => by simp [RPs]
  | n + 1 => by
    rw [List.replicate_succ, List.replicate_succ, List.flatten_cons, List.flatten_cons]
    exact h.append (RPs.rep h n)
/-- the frame's list i is written -/
theorem Nx.write (m : RM K H α M) (t : TabAll H) {i : Nat} {a : Addr} {xs ys : List P} {ws : List V} (ha : α[i]? = some a) (hM : M[i]? = some xs) (r : RPs K H α ys ws) : Nx K α H α (upd H a (.lst ws)) (M.set i ys) := by
  obtain ⟨vs, hv, _⟩ := m.cell i a xs ha hM
  have mem : a ∈ α := List.mem_of_getElem? ha
  have g : Grow α H (upd H a (.lst ws)) := fun b o e => by
    by_cases hb : b = a
    · exact .inl (by rw [hb]; exact mem)
    · exact .inr (.inl (by rw [upd_ne hb]; exact e))
  have na : ∀ b ∈ α, ∃ xs, H b = some (.lst xs) := fun b hb => m.lst hb
  refine ⟨g, ⟨[], by simp, fun b h => by simp at h⟩, ⟨m.nd, by rw [List.length_set]; exact m.len, fun j b zs e1 e2 => ?_⟩, tabPut t (.inr ⟨vs, hv⟩) fun ps z => by cases z⟩
  by_cases hj : i = j
  · subst hj
    rw [ha] at e1; cases e1
    rw [List.getElem?_set_self (List.getElem?_eq_some_iff.mp hM).1] at e2
    cases e2
    exact ⟨ws, upd_same .., RPs.grow na g (Pre.refl _) _ _ r⟩
  · rw [List.getElem?_set_ne hj] at e2
    obtain ⟨us, q, r'⟩ := m.cell j b zs e1 e2
    refine ⟨us, ?_, RPs.grow na g (Pre.refl _) _ _ r'⟩
    rw [upd_ne]
    · exact q
    · intro z
      subst z
      exact hj ((List.getElem?_inj (List.getElem?_eq_some_iff.mp ha).1 m.nd).mp (ha.trans e1.symm))
theorem Trk.grow (x : Trk K H) (g : Grow α H H') (na : ∀ b ∈ α, ∃ xs, H b = some (.lst xs)) : Trk K H' := fun c P h => by
  obtain ⟨ps, e⟩ := x c P h
  rcases g P _ e with q | q | ⟨_, q⟩
  · obtain ⟨xs, e'⟩ := na P q
    rw [e] at e'; cases e'
  · exact ⟨ps, q⟩
  · exact q
theorem RSt.step {base : Heap} {code : Value} {σ : L2.St} {ρ : Env} (s : RSt K base code σ H ρ M α) (n : Nx K α H α' H' M') : RSt K base code σ H' ρ M' α' :=
  ⟨n.env s.mem s.env, n.mem, n.tab, s.code.grow n.grow fun b hb => s.mem.lst hb, s.trk.grow n.grow fun b hb => s.mem.lst hb⟩
theorem RSt.with {base : Heap} {code : Value} {σ σ' : L2.St} {ρ ρ' : Env} (s : RSt K base code σ H ρ M α) (e : REnv K H α ρ' σ') : RSt K base code σ' H ρ' M α := ⟨e, s.mem, s.tab, s.code, s.trk⟩
theorem items_rd {d : D} {v : V} {l : List P} (m : RM K H α M) (h : RD K H α d v) (e : items M d = some l) : ∃ a vs, v = .ref a ∧ (SqL K H a vs ∨ SqT K H a vs) ∧ RPs K H α l vs := by
  cases d with
  | p x =>
    cases x with
    | tup xs =>
      cases e
      have h : RP K H α (.tup l) v := h
      unfold RP at h
      obtain ⟨a, vs, e1, q, r⟩ := h
      exact ⟨a, vs, e1, .inr q, r⟩
    | ref i =>
      have h : RP K H α (.ref i) v := h
      unfold RP at h
      obtain ⟨a, ea, rfl⟩ := h
      obtain ⟨vs, q, r⟩ := m.cell i a l ea e
      exact ⟨a, vs, rfl, .inl (.inl (.inl q)), r⟩
    | _ => cases e
  | scr xs =>
    cases e
    obtain ⟨a, vs, rfl, q, r⟩ := h
    refine ⟨a, vs, rfl, .inl ?_, r⟩
    rcases q with ⟨q, _⟩ | q
    · exact .inl q
    · exact sql_none q
end
end IX
end

section
set_option autoImplicit false
set_option Elab.async false
set_option linter.all false
set_option maxRecDepth 100000
set_option maxHeartbeats 4000000
/-! Expressions without calls of defs and without comprehensions. -/
namespace IX
open PySem PySem.Spec PyProof.Rows L2 GX
def tI (X : Cx) (f : Env → Mem → Option (D × Mem)) : TE := fun σ H Q => ∃ ρ M α d M', RS X σ H ρ M α ∧ f ρ M = some (d, M') ∧
  ∀ v H' α', Nx X.K α H α' H' M' → RD X.K H' α' d v → Q v H'
def tIT (X : Cx) (f : Env → Mem → Option (Bool × Mem)) : TT := fun σ H Q => ∃ ρ M α b M', RS X σ H ρ M α ∧ f ρ M = some (b, M') ∧
  ∀ H' α', Nx X.K α H α' H' M' → Q b H'
def tIA (X : Cx) (f : Env → Mem → Option (List D × Mem)) : TA := fun σ H Q => ∃ ρ M α ds M', RS X σ H ρ M α ∧ f ρ M = some (ds, M') ∧
  ∀ vs H' α', Nx X.K α H α' H' M' → RDs X.K H' α' ds vs → Q vs H'
def tIO (X : Cx) (f : Env → Mem → Option (Option Int × Mem)) : TO := fun σ H Q => ∃ ρ M α o M', RS X σ H ρ M α ∧ f ρ M = some (o, M') ∧
  ∀ H' α', Nx X.K α H α' H' M' → Q o H'
theorem ob {A B : Type} {o : Option A} {k : A → Option B} {r : B} (h : (o >>= k) = some r) : ∃ x, o = some x ∧ k x = some r := by
  cases o with
  | none => cases h
  | some x => exact ⟨x, rfl, h⟩
theorem _root_.L2.PE.weak {X : Cx} {e : Expr} {t t' : TE} (h : PE X e t) (w : ∀ σ H Q, t' σ H Q → t σ H Q) : PE X e t' := ⟨fun pins s σ H Q I q => h.run pins s σ H Q I (w σ H Q q)⟩
theorem _root_.L2.PT.weak {X : Cx} {e : Expr} {t t' : TT} (h : PT X e t) (w : ∀ σ H Q, t' σ H Q → t σ H Q) : PT X e t' := ⟨fun pins s σ H Q I q => h.run pins s σ H Q I (w σ H Q q)⟩
theorem _root_.L2.PW.weak {X : Cx} {e : Expr} {t t' : TT} (h : PW X e t) (w : ∀ σ H Q, t' σ H Q → t σ H Q) : PW X e t' := ⟨fun wh pins s σ H Q I q => h.run wh pins s σ H Q I (w σ H Q q)⟩
theorem _root_.L2.PA.weak {X : Cx} {e : List Expr} {t t' : TA} (h : PA X e t) (w : ∀ σ H Q, t' σ H Q → t σ H Q) : PA X e t' := ⟨fun pos pins s σ H Q I q => h.run pos pins s σ H Q I (w σ H Q q)⟩
theorem _root_.L2.PO.weak {X : Cx} {e : Option Expr} {t t' : TO} (h : PO X e t) (w : ∀ σ H Q, t' σ H Q → t σ H Q) : PO X e t' := ⟨fun pins s σ H Q I q => h.run pins s σ H Q I (w σ H Q q)⟩
theorem _root_.L2.PS.weak {X : Cx} {e : Stmt} {t t' : TS} (h : PS X e t) (w : ∀ D σ H, t' D σ H → t D σ H) : PS X e t' := ⟨fun pins s σ H Q I q => h.run pins s σ H Q I (w Q σ H q)⟩
theorem _root_.L2.PSs.weak {X : Cx} {e : List Stmt} {t t' : TS} (h : PSs X e t) (w : ∀ D σ H, t' D σ H → t D σ H) : PSs X e t' := ⟨fun pins s σ H Q I q => h.run pins s σ H Q I (w Q σ H q)⟩

section
variable {X : Cx} {a b c e : Expr} {es : List Expr} {pos : Pos} {fa fb fc : Env → Mem → Option (D × Mem)} {ta tb tc : Env → Mem → Option (Bool × Mem)} {fs : Env → Mem → Option (List D × Mem)}
theorem tI.use {σ : L2.St} {H : Hp} {ρ : Env} {M M' : Mem} {α : List Addr} {d : D} {Q : VK} {f : Env → Mem → Option (D × Mem)} (r : RS X σ H ρ M α) (h : f ρ M = some (d, M'))
    (q : ∀ v H' α', Nx X.K α H α' H' M' → RD X.K H' α' d v → RS X σ H' ρ M' α' → Q v H') : tI X f σ H Q := ⟨ρ, M, α, d, M', r, h, fun v H' α' n rd => q v H' α' n rd (r.step n)⟩
theorem tIT.use {σ : L2.St} {H : Hp} {ρ : Env} {M M' : Mem} {α : List Addr} {d : Bool} {Q : Bool → Hp → Prop} {f : Env → Mem → Option (Bool × Mem)} (r : RS X σ H ρ M α) (h : f ρ M = some (d, M'))
    (q : ∀ H' α', Nx X.K α H α' H' M' → RS X σ H' ρ M' α' → Q d H') : tIT X f σ H Q := ⟨ρ, M, α, d, M', r, h, fun H' α' n => q H' α' n (r.step n)⟩
theorem tIA.use {σ : L2.St} {H : Hp} {ρ : Env} {M M' : Mem} {α : List Addr} {ds : List D} {Q : List V → Hp → Prop} {f : Env → Mem → Option (List D × Mem)} (r : RS X σ H ρ M α) (h : f ρ M = some (ds, M'))
    (q : ∀ vs H' α', Nx X.K α H α' H' M' → RDs X.K H' α' ds vs → RS X σ H' ρ M' α' → Q vs H') : tIA X f σ H Q := ⟨ρ, M, α, ds, M', r, h, fun v H' α' n rd => q v H' α' n rd (r.step n)⟩
theorem tIO.use {σ : L2.St} {H : Hp} {ρ : Env} {M M' : Mem} {α : List Addr} {d : Option Int} {Q : Option Int → Hp → Prop} {f : Env → Mem → Option (Option Int × Mem)} (r : RS X σ H ρ M α) (h : f ρ M = some (d, M'))
    (q : ∀ H' α', Nx X.K α H α' H' M' → RS X σ H' ρ M' α' → Q d H') : tIO X f σ H Q := ⟨ρ, M, α, d, M', r, h, fun H' α' n => q H' α' n (r.step n)⟩

theorem s_var {i : Nat} {x : Str} (hN : X.N[i]? = some x) (hv : Vis X.env.scope x) (hd : (x == ("__debug__" : Str)) = false) (hcd : (x == ("__classdict__" : Str)) = false) :
    PE X (.Name x pos) (tI X fun ρ M => match ρ[i]? with | some (some d) => some (d, M) | _ => none) := (pe_var hN hv hd hcd).weak fun σ H Q h => by
  obtain ⟨ρ, M, α, d, M', r, e, q⟩ := h
  dsimp only at e
  split at e
  · rename_i d' h'
    cases e
    obtain ⟨v, e1, e2⟩ := r.env.cell i d h'
    exact ⟨v, e1, q v H α (Nx.refl r.mem r.tab) e2⟩
  · cases e
theorem s_const {x : P} {v : V} (h : PE X e (tC v)) (hr : ∀ H α, RP X.K H α x v) : PE X e (tI X fun _ M => some (.p x, M)) := h.weak fun σ H Q h => by
  obtain ⟨ρ, M, α, d, M', r, e, q⟩ := h
  cases e
  exact q v H α (Nx.refl r.mem r.tab) (hr H α)

def OpI (X : Cx) (r : R2) (g : D → D → Mem → Option (D × Mem)) : Prop := ∀ H α M x y v u d M' Q, RM X.K H α M → TabAll H → RD X.K H α x v → RD X.K H α y u → g x y M = some (d, M') →
  (∀ w H' α', Nx X.K α H α' H' M' → RD X.K H' α' d w → Q w H') → r v u H Q
theorem s_op2 {r : R2} {g : D → D → Mem → Option (D × Mem)} (h : PE X e (tOp r (tI X fa) (tI X fb))) (hr : OpI X r g) :
    PE X e (tI X fun ρ M => do
      let (x, M) ← fa ρ M
      let (y, M) ← fb ρ M
      g x y M) := h.weak fun σ H Q h => by
  obtain ⟨ρ, M, α, d, M', r0, e, q⟩ := h
  obtain ⟨⟨x, M1⟩, e1, e⟩ := ob e
  obtain ⟨⟨y, M2⟩, e2, e⟩ := ob e
  refine tI.use r0 e1 fun v H1 α1 n1 d1 r1 => tI.use r1 e2 fun u H2 α2 n2 d2 r2 => ?_
  refine hr H2 α2 M2 x y v u d M' Q r2.mem r2.tab (n2.rd r1.mem d1) d2 e fun w H' α' n3 d3 => ?_
  exact q w H' α' ((n1.trans r0.mem n2).trans r0.mem n3) d3
theorem s_bin {r : R2} {o : Operator} {bo : BO} (ha : PE X a (tI X fa)) (hb : PE X b (tI X fb)) (ho : OpR X (binaryOp o) r) (hr : OpI X r (binop bo)) :
    PE X (.BinOp a o b pos) (tI X fun ρ M => do
      let (x, M) ← fa ρ M
      let (y, M) ← fb ρ M
      binop bo x y M) := s_op2 (pe_op ho ha hb) hr

/-! the operations -/
theorem one_some {x : P} {M M' : Mem} {d : D} (h : one x M = some (d, M')) : d = .p x ∧ M' = M := by cases h; exact ⟨rfl, rfl⟩
theorem newl_some {xs : List P} {M M' : Mem} {d : D} (h : newl xs M = some (d, M')) : xs.length ≤ sizeLine ∧ d = .p (.ref M.length) ∧ M' = M ++ [xs] := by
  unfold newl at h
  split at h
  · rename_i hl; cases h; exact ⟨hl, rfl, rfl⟩
  · cases h
theorem rd_int {K : PySem.W.Frag} {H : Hp} {α : List Addr} {i : Int} {v : V} (h : RD K H α (.p (.int i)) v) : v = .int i := h
theorem rd_tuple {K : PySem.W.Frag} {H : Hp} {α : List Addr} {l : List P} {v : V} (h : RD K H α (.p (.tup l)) v) : ∃ a vs, v = .ref a ∧ SqT K H a vs ∧ RPs K H α l vs := by
  have h : RP K H α (.tup l) v := h
  unfold RP at h; exact h
theorem rd_ref {K : PySem.W.Frag} {H : Hp} {α : List Addr} {i : Nat} {v : V} (h : RD K H α (.p (.ref i)) v) : ∃ a, α[i]? = some a ∧ v = .ref a := by
  have h : RP K H α (.ref i) v := h
  unfold RP at h; exact h
theorem ref_rd {K : PySem.W.Frag} {H : Hp} {α : List Addr} {i : Nat} {v : V} (h : ∃ a, α[i]? = some a ∧ v = .ref a) : RD K H α (.p (.ref i)) v := by
  show RP K H α (.ref i) v
  unfold RP; exact h
theorem rd_list {K : PySem.W.Frag} {H : Hp} {α : List Addr} {M : Mem} {i : Nat} {v : V} {xs : List P} (m : RM K H α M) (h : RD K H α (.p (.ref i)) v) (e : M[i]? = some xs) : ∃ a vs, v = .ref a ∧ α[i]? = some a ∧ H a = some (.lst vs) ∧ RPs K H α xs vs := by
  obtain ⟨a, ea, rfl⟩ := rd_ref h
  obtain ⟨vs, q, r⟩ := m.cell i a xs ea e
  exact ⟨a, vs, rfl, ea, q, r⟩
theorem rps_nil {K : PySem.W.Frag} {H : Hp} {α : List Addr} {vs : List V} (h : RPs K H α [] vs) : vs = [] := by
  cases vs with
  | nil => rfl
  | cons v vs => unfold RPs at h; exact h.elim
theorem rps_nil2 {K : PySem.W.Frag} {H : Hp} {α : List Addr} {xs : List P} (h : RPs K H α xs []) : xs = [] := List.length_eq_zero_iff.mp h.length
theorem rps_ne {K : PySem.W.Frag} {H : Hp} {α : List Addr} {xs : List P} {vs : List V} (h : RPs K H α xs vs) (hn : xs ≠ []) : vs ≠ [] := by
  rintro rfl
  have := h.length
  cases xs with
  | nil => exact hn rfl
  | cons _ _ => simp at this
/-- the new tuple that came -/
theorem new_tup {K : PySem.W.Frag} {H : Hp} {α : List Addr} {M : Mem} {l : List P} {vs : List V} {Q : VK} (m : RM K H α M) (t : TabAll H) (r : RPs K H α l vs) (q : ∀ w H' α', Nx K α H α' H' M → RD K H' α' (.p (.tup l)) w → Q w H') :
    ∀ p, H p = none → Q (.ref p) (upd H p (.tup vs)) := fun p hp => by
  refine q _ _ α (Nx.new m t hp fun ps z => by cases z) ?_
  show RP K _ _ (.tup l) _
  unfold RP
  exact ⟨p, vs, rfl, .inl (.inl (upd_same ..)), RPs.grow (α := []) (fun b hb => by simp at hb) (grow_new hp) (Pre.refl _) _ _ r⟩
theorem new_lst {K : PySem.W.Frag} {H : Hp} {α : List Addr} {M : Mem} {l : List P} {vs : List V} {Q : VK} (m : RM K H α M) (t : TabAll H) (r : RPs K H α l vs) (q : ∀ w H' α', Nx K α H α' H' (M ++ [l]) → RD K H' α' (.p (.ref M.length)) w → Q w H') :
    ∀ p, H p = none → Q (.ref p) (upd H p (.lst vs)) := fun p hp => by
  refine q _ _ _ (Nx.newl m t hp r) (ref_rd ⟨p, ?_, rfl⟩)
  rw [← m.len, List.getElem?_append_right (Nat.le_refl _)]
  simp
/-- nothing happened -/
theorem stay {K : PySem.W.Frag} {H : Hp} {α : List Addr} {M : Mem} {d : D} {Q : VK} {v : V} (m : RM K H α M) (t : TabAll H) (r : RD K H α d v) (q : ∀ w H' α', Nx K α H α' H' M → RD K H' α' d w → Q w H') : Q v H := q v H α (Nx.refl m t) r

theorem oi_add : OpI X (fun x y H Q => rI0 (fun i j => .int (i + j)) x y H Q ∨ rCatA X.K x y H Q ∨ rCat x y H Q) (binop .add) := by
  intro H α M x y v u d M' Q m t rx ry h q
  unfold binop at h
  split at h <;> try contradiction
  · obtain ⟨rfl, rfl⟩ := one_some h
    exact .inl ⟨_, _, rx, ry, stay m t (d := .p _) (by exact rfl) q⟩
  · split at h <;> try contradiction
    rename_i hl
    obtain ⟨rfl, rfl⟩ := one_some h
    obtain ⟨p, vs, rfl, s1, r1⟩ := rd_tuple rx
    obtain ⟨p', us, rfl, s2, r2⟩ := rd_tuple ry
    refine .inr (.inl ⟨p, p', vs, us, rfl, rfl, s1, s2, by rw [← r1.length, ← r2.length]; exact hl, fun e => ?_, fun _ e => ?_, fun _ _ => new_tup m t (r1.append r2) q⟩)
    · subst e
      refine stay m t (d := .p _) ?_ q
      show RP _ _ _ (.tup _) _
      rw [rps_nil2 r1]
      unfold RP
      exact ⟨p', us, rfl, s2, r2⟩
    · subst e
      refine stay m t (d := .p _) ?_ q
      show RP _ _ _ (.tup _) _
      rw [rps_nil2 r2, List.append_nil]
      unfold RP
      exact ⟨p, vs, rfl, s1, r1⟩
  · obtain ⟨xs, e1, h⟩ := ob h
    obtain ⟨ys, e2, h⟩ := ob h
    obtain ⟨hl, rfl, rfl⟩ := newl_some h
    obtain ⟨p, vs, rfl, _, s1, r1⟩ := rd_list m rx e1
    obtain ⟨p', us, rfl, _, s2, r2⟩ := rd_list m ry e2
    refine .inr (.inr ⟨p, p', vs, us, rfl, rfl, s1, s2, ?_, new_lst m t (r1.append r2) q⟩)
    rw [List.length_append, r1.length, r2.length] at hl
    exact hl
theorem or_add : OpR X (binaryOp .Add) (fun x y H Q => rI0 (fun i j => .int (i + j)) x y H Q ∨ rCatA X.K x y H Q ∨ rCat x y H Q) := op_add.or (op_catA.or op_cat)
theorem oi_sub : OpI X (rI0 fun i j => .int (i - j)) (binop .sub) := by
  intro H α M x y v u d M' Q m t rx ry h q
  unfold binop at h
  split at h <;> try contradiction
  obtain ⟨rfl, rfl⟩ := one_some h
  exact ⟨_, _, rx, ry, stay m t (d := .p _) (by exact rfl) q⟩
theorem op_mulO {X : Cx} : OpR X (binaryOp .Mult) (rI IntMulOk fun i j => .int (i * j)) := opI fun _ _ _ _ _ _ _ hc q => mul_int q hc
theorem mulOk_ok {i j : Int} (h : mulOk i j = true) : IntMulOk i j := by
  unfold mulOk at h
  simp only [Bool.or_eq_true, Bool.and_eq_true, decide_eq_true_eq] at h
  rcases h with (h | h) | h
  · exact CMulW.ok h
  · exact CMul.ok (.inl h)
  · exact CMul.ok (.inr h)
theorem oi_mul : OpI X (fun x y H Q => rI IntMulOk (fun i j => .int (i * j)) x y H Q ∨ (rRepT X.K x y H Q ∨ rRepS X.K x y H Q ∨ rRep0 X.K x y H Q) ∨ rRep x y H Q) (binop .mul) := by
  intro H α M x y v u d M' Q m t rx ry h q
  unfold binop at h
  split at h <;> try contradiction
  · split at h <;> try contradiction
    rename_i hm
    obtain ⟨rfl, rfl⟩ := one_some h
    exact .inl ⟨_, _, rx, ry, mulOk_ok hm, stay m t (d := .p _) (by exact rfl) q⟩
  · split at h <;> try contradiction
    rename_i hm
    obtain ⟨rfl, rfl⟩ := one_some h
    simp only [Bool.and_eq_true, decide_eq_true_eq] at hm
    obtain ⟨⟨h1, h3⟩, h4⟩ := hm
    obtain ⟨p, vs, rfl, s1, r1⟩ := rd_tuple rx
    rename_i a k _
    have hi := rd_int ry
    by_cases ha : a = []
    · subst ha
      have hv : vs = [] := List.eq_nil_of_length_eq_zero (by rw [← r1.length]; rfl)
      refine .inr (.inl (.inr (.inl ⟨p, _, vs, rfl, hi, s1, .inl hv, h1, by omega, ?_⟩)))
      refine stay m t ?_ q
      have e : (List.replicate k.toNat ([] : List P)).flatten = [] := by simp
      show RP _ _ _ (.tup _) _
      rw [e]; exact rx
    · by_cases hk : k = 1
      · subst hk
        refine .inr (.inl (.inr (.inl ⟨p, _, vs, rfl, hi, s1, .inr rfl, h1, by omega, ?_⟩)))
        refine stay m t ?_ q
        have e : (List.replicate (1 : Int).toNat a).flatten = a := by simp
        show RP _ _ _ (.tup _) _
        rw [e]; exact rx
      · by_cases hz : k ≤ 0
        · refine .inr (.inl (.inr (.inr ⟨p, _, vs, rfl, hi, s1, rps_ne r1 ha, h1, hz, ?_⟩)))
          have e : (List.replicate k.toNat a).flatten = [] := by
            rw [Int.toNat_of_nonpos hz]; rfl
          rw [e] at q
          exact new_tup m t (by unfold RPs; trivial) q
        · exact .inr (.inl (.inl ⟨p, _, vs, rfl, hi, s1, rps_ne r1 ha, by omega, h3, by rw [← r1.length]; exact h4, new_tup m t (r1.rep _) q⟩))
  · obtain ⟨xs, e1, h⟩ := ob h
    split at h <;> try contradiction
    rename_i hm
    obtain ⟨hl, rfl, rfl⟩ := newl_some h
    simp only [Bool.and_eq_true, decide_eq_true_eq] at hm
    obtain ⟨⟨h1, h2⟩, h3⟩ := hm
    obtain ⟨p, vs, rfl, _, s1, r1⟩ := rd_list m rx e1
    exact .inr (.inr ⟨p, _, vs, rfl, rd_int ry, s1, h2, h3, by rw [← r1.length]; exact h1, new_lst m t (r1.rep _) q⟩)
theorem or_mul : OpR X (binaryOp .Mult) (fun x y H Q => rI IntMulOk (fun i j => .int (i * j)) x y H Q ∨ (rRepT X.K x y H Q ∨ rRepS X.K x y H Q ∨ rRep0 X.K x y H Q) ∨ rRep x y H Q) := op_mulO.or ((op_repT.or (op_repS.or op_rep0)).or op_rep)
theorem oi_div : OpI X (fun x y H Q => rI CDivW (fun i j => .int (i / j)) x y H Q ∨ rI CDivN (fun i j => .int (i.fdiv j)) x y H Q) (binop .fdiv) := by
  intro H α M x y v u d M' Q m t rx ry h q
  unfold binop at h
  split at h <;> try contradiction
  split at h <;> try contradiction
  rename_i hm
  obtain ⟨rfl, rfl⟩ := one_some h
  unfold divOk at hm
  simp only [Bool.or_eq_true, Bool.and_eq_true, decide_eq_true_eq] at hm
  rcases hm with ⟨h1, h2⟩ | hm
  · refine .inl ⟨_, _, rx, ry, ⟨h1, h2⟩, ?_⟩
    show Q (.int (_ / _)) H
    rw [← Int.fdiv_eq_ediv_of_nonneg _ (Int.le_of_lt h1)]
    exact stay m t (d := .p _) (by exact rfl) q
  · exact .inr ⟨_, _, rx, ry, hm, stay m t (d := .p _) (by exact rfl) q⟩
theorem or_div : OpR X (binaryOp .FloorDiv) (fun x y H Q => rI CDivW (fun i j => .int (i / j)) x y H Q ∨ rI CDivN (fun i j => .int (i.fdiv j)) x y H Q) := op_fdivW.or op_fdivN
theorem oi_mod : OpI X (rI (fun _ j => j ≠ 0) fun i j => .int (i.fmod j)) (binop .mod) := by
  intro H α M x y v u d M' Q m t rx ry h q
  unfold binop at h
  split at h <;> try contradiction
  split at h <;> try contradiction
  rename_i hm
  obtain ⟨rfl, rfl⟩ := one_some h
  exact ⟨_, _, rx, ry, hm, stay m t (d := .p _) (by exact rfl) q⟩
theorem oi_pow : OpI X (rI CPow fun i j => .int (i ^ j.toNat)) (binop .pow) := by
  intro H α M x y v u d M' Q m t rx ry h q
  unfold binop at h
  split at h <;> try contradiction
  split at h <;> try contradiction
  rename_i hm
  obtain ⟨rfl, rfl⟩ := one_some h
  simp only [Bool.and_eq_true, decide_eq_true_eq] at hm
  exact ⟨_, _, rx, ry, ⟨hm.1.1, hm.1.2, hm.2⟩, stay m t (d := .p _) (by exact rfl) q⟩
end
end IX
end

section
set_option Elab.async false
set_option autoImplicit false
set_option linter.all false
set_option maxRecDepth 100000
set_option maxHeartbeats 4000000
/-! Comparisons, truth, displays, subscripts. -/
namespace IX
open PySem PySem.Spec PyProof.Rows L2 GX
mutual
theorem fit_ok : ∀ (k : Nat) (x : P), x.fit k = true → x.toD.canLay0 = true ∧ x.toD.depth ≤ k
  | _, .non, _ | _, .bl _, _ | _, .int _, _ => by simp [P.toD, PyData.canLay0, PyData.depth]
  | _, .str x, h => by
    have h : PyData.strOk x = true := by simpa [P.fit] using h
    simp [P.toD, PyData.canLay0, PyData.depth, h]
  | 0, .tup l, h => by simp [P.fit] at h
  | k + 1, .tup l, h => by
    have h : P.fits k l = true := by simpa [P.fit] using h
    have := fits_ok k l h
    simp only [P.toD, PyData.canLay0, PyData.depth]
    exact ⟨this.1, Nat.succ_le_succ this.2⟩
theorem fits_ok : ∀ (k : Nat) (xs : List P), P.fits k xs = true → PyData.canLayAll0 (P.toDs xs) = true ∧ PyData.depthAll (P.toDs xs) ≤ k
  | _, [], _ => by simp [P.toDs, PyData.canLayAll0, PyData.depthAll]
  | k, x :: xs, h => by
    have h : P.fit k x = true ∧ P.fits k xs = true := by simpa [P.fits] using h
    have h1 := fit_ok k x h.1
    have h2 := fits_ok k xs h.2
    simp only [P.toDs, PyData.canLayAll0, PyData.depthAll, h1.1, h2.1, Bool.and_true]
    exact ⟨trivial, Nat.max_le.mpr ⟨h1.2, h2.2⟩⟩
end
mutual
theorem rp_dp {K : PySem.W.Frag} {H : Hp} {α : List Addr} : ∀ (x : P) (k : Nat) (v : V), x.fit k = true → RP K H α x v → Dp K H v x.toD
  | .non, _, v, _, h => by unfold RP at h; subst h; simp only [P.toD]; exact .non
  | .bl b, _, v, _, h => by unfold RP at h; subst h; simp only [P.toD]; exact .bl b
  | .int b, _, v, _, h => by unfold RP at h; subst h; simp only [P.toD]; exact .int b
  | .str b, _, v, _, h => by unfold RP at h; subst h; simp only [P.toD]; exact .str b
  | .tup l, 0, v, f, _ => by unfold P.fit at f; cases f
  | .tup l, k + 1, v, f, h => by
    unfold P.fit at f
    unfold RP at h
    obtain ⟨a, vs, rfl, q, r⟩ := h
    simp only [P.toD]
    exact .tup q (rps_dp l k vs f r)
  | .ref _, _, _, f, _ => by unfold P.fit at f; cases f
theorem rps_dp {K : PySem.W.Frag} {H : Hp} {α : List Addr} : ∀ (xs : List P) (k : Nat) (vs : List V), P.fits k xs = true → RPs K H α xs vs → DpAll K H vs (P.toDs xs)
  | [], _, [], _, _ => by simp only [P.toDs]; exact .nil
  | x :: xs, k, v :: vs, f, h => by
    unfold P.fits at f
    rw [Bool.and_eq_true] at f
    unfold RPs at h
    simp only [P.toDs]
    exact .cons (rp_dp x k v f.1 h.1) (rps_dp xs k vs f.2 h.2)
  | [], _, _ :: _, _, h => by unfold RPs at h; exact h.elim
  | _ :: _, _, [], _, h => by unfold RPs at h; exact h.elim
end
theorem eqd_ok {K : PySem.W.Frag} {H : Hp} {α : List Addr} {M : Mem} {x y : D} {v u : V} {b : Bool} (m : RM K H α M) (rx : RD K H α x v) (ry : RD K H α y u) (h : eqd M x y = some b) :
    ∃ d e, Dp K H v d ∧ Dp K H u e ∧ SeqAt.shaped d = true ∧ SeqAt.shaped e = true ∧ PyData.eqv d e = b := by
  unfold eqd at h
  split at h <;> try contradiction
  · obtain ⟨xs, e1, h⟩ := ob h
    obtain ⟨ys, e2, h⟩ := ob h
    split at h <;> try contradiction
    rename_i hf
    cases h
    rw [Bool.and_eq_true] at hf
    obtain ⟨p, vs, rfl, _, s1, r1⟩ := rd_list m rx e1
    obtain ⟨p', us, rfl, _, s2, r2⟩ := rd_list m ry e2
    have h1 := fits_ok _ _ hf.1
    have h2 := fits_ok _ _ hf.2
    refine ⟨_, _, .lst (.inl (.inl s1)) (rps_dp _ _ _ hf.1 r1), .lst (.inl (.inl s2)) (rps_dp _ _ _ hf.2 r2), ?_, ?_, ?_⟩
    · have := h1.2
      simp [SeqAt.shaped, PyData.canLay0, PyData.depth, h1.1]; exact this
    · have := h2.2
      simp [SeqAt.shaped, PyData.canLay0, PyData.depth, h2.1]; exact this
    · simp only [P.eqv, P.toD, PyData.eqv]
  · rename_i a c _
    split at h <;> try contradiction
    rename_i hf
    cases h
    rw [Bool.and_eq_true] at hf
    have h1 := fit_ok _ _ hf.1
    have h2 := fit_ok _ _ hf.2
    exact ⟨_, _, rp_dp a _ v hf.1 rx, rp_dp c _ u hf.2 ry, by simp [SeqAt.shaped, h1], by simp [SeqAt.shaped, h2], rfl⟩
theorem flat_ok {K : PySem.W.Frag} {H : Hp} {α : List Addr} {x : P} {v : V} (r : RP K H α x v) (h : flat x = true) : flatV v = true := by
  cases x <;> first | (unfold RP at r; subst r; rfl) | cases h
theorem flats_ok {K : PySem.W.Frag} {H : Hp} {α : List Addr} : ∀ {xs : List P} {vs : List V}, RPs K H α xs vs → xs.all flat = true → vs.all flatV = true
  | [], [], _, _ => rfl
  | x :: xs, v :: vs, r, h => by
    unfold RPs at r
    rw [List.all_cons, Bool.and_eq_true] at h
    rw [List.all_cons, flat_ok r.1 h.1, flats_ok r.2 h.2]; rfl
  | [], _ :: _, h, _ => by unfold RPs at h; exact h.elim
  | _ :: _, [], h, _ => by unfold RPs at h; exact h.elim
theorem eqv_ok {K : PySem.W.Frag} {H : Hp} {α : List Addr} {x y : P} {v u : V} (rx : RP K H α x v) (ry : RP K H α y u) (hx : flat x = true) (hy : flat y = true) : eqV u v = y.eqv x := by
  cases x <;> cases y
  all_goals first
    | (simp [flat] at hx; done)
    | (simp [flat] at hy; done)
    | (unfold RP at rx ry; subst rx; subst ry; simp [eqV, P.eqv, P.toD, PyData.eqv])
theorem any_ok {K : PySem.W.Frag} {H : Hp} {α : List Addr} {x : P} {v : V} (rx : RP K H α x v) (hx : flat x = true) : ∀ {xs : List P} {vs : List V}, RPs K H α xs vs → xs.all flat = true → inV v vs = xs.any fun y => y.eqv x
  | [], [], _, _ => rfl
  | y :: xs, u :: vs, r, h => by
    unfold RPs at r
    rw [List.all_cons, Bool.and_eq_true] at h
    have := any_ok rx hx r.2 h.2
    unfold inV at this ⊢
    rw [List.any_cons, List.any_cons, this, eqv_ok rx r.1 hx h.1]
  | [], _ :: _, h, _ => by unfold RPs at h; exact h.elim
  | _ :: _, [], h, _ => by unfold RPs at h; exact h.elim
theorem rp_non {K : PySem.W.Frag} {H : Hp} {α : List Addr} {x : P} {v : V} (r : RP K H α x v) : decide (x = .non) = decide (v = .non) := by
  cases x <;> unfold RP at r
  case tup l => obtain ⟨a, vs, rfl, _⟩ := r; simp
  case ref i => obtain ⟨a, _, rfl⟩ := r; simp
  all_goals (subst r; simp)
/-- what a comparison does, by the kit's reading -/
def rCmp (X : Cx) : CO → R2
  | .eq => rEqD X.K
  | .ne => rNeD X.K
  | .lt => rI0 fun i j => .bl (decide (i < j))
  | .le => rI0 fun i j => .bl (decide (i ≤ j))
  | .gt => rI0 fun i j => .bl (decide (j < i))
  | .ge => rI0 fun i j => .bl (decide (j ≤ i))
  | .is => fun x y H Q => (y = .non ∧ Q (.bl (decide (x = .non))) H) ∨ ∃ a b, x = .bl a ∧ y = .bl b ∧ Q (.bl (a == b)) H
  | .isnot => fun x y H Q => (y = .non ∧ Q (.bl (!decide (x = .non))) H) ∨ ∃ a b, x = .bl a ∧ y = .bl b ∧ Q (.bl (!(a == b))) H
  | .isin => fun x y H Q => rIn X.K false x y H Q ∨ rInD X.K x y H Q
  | .notin => fun x y H Q => rIn X.K true x y H Q ∨ rNotInD X.K x y H Q
def coOp : CO → CmpOp
  | .eq => .Eq | .ne => .NotEq | .lt => .Lt | .le => .LtE | .gt => .Gt | .ge => .GtE | .is => .Is | .isnot => .IsNot | .isin => .In | .notin => .NotIn
theorem or_or {X : Cx} {f : Value → Value → Sem Value} {r r' : R2} (h : OpR X f r) (h' : OpR X f r') : OpR X f (fun x y H Q => r x y H Q ∨ r' x y H Q) := fun pins s σ H x y v u Q I rx ry q => q.elim (h pins s σ H x y v u Q I rx ry) (h' pins s σ H x y v u Q I rx ry)
theorem bool_beq (a b : Bool) : (Value.bool a == Value.bool b) = (a == b) := by cases a <;> cases b <;> rfl
theorem op_isB {X : Cx} : OpR X (compareOp .Is) (fun x y H Q => ∃ a b, x = .bl a ∧ y = .bl b ∧ Q (.bl (a == b)) H) := by
  intro pins s σ H x y v u Q I rx ry h
  obtain ⟨a, b, rfl, rfl, q⟩ := h
  cases rx
  cases ry
  show wpAny _ _ ((isSame (.bool a) (.bool b)) >>= fun z => pure (Value.bool z)) _ _ s
  exact wpAny_bind (wpAny_isSame_plain rfl (by rw [bool_beq]; exact wpAny_pure (fin_bl I q rfl)))
theorem op_notB {X : Cx} : OpR X (compareOp .IsNot) (fun x y H Q => ∃ a b, x = .bl a ∧ y = .bl b ∧ Q (.bl (!(a == b))) H) := by
  intro pins s σ H x y v u Q I rx ry h
  obtain ⟨a, b, rfl, rfl, q⟩ := h
  cases rx
  cases ry
  show wpAny _ _ ((isSame (.bool a) (.bool b)) >>= fun z => pure (Value.bool (!z))) _ _ s
  exact wpAny_bind (wpAny_isSame_plain rfl (by rw [bool_beq]; exact wpAny_pure (fin_bl I q rfl)))
theorem any_map (x : PyData) : ∀ xs : List P, ((P.toDs xs).any fun z => PyData.eqv z x) = xs.any fun y => PyData.eqv y.toD x
  | [] => by simp [P.toDs]
  | y :: ys => by simp [P.toDs, any_map x ys]
theorem in_deep {K : PySem.W.Frag} {H : Hp} {α : List Addr} {M : Mem} {x : P} {y : D} {v u : V} {xs : List P} (m : RM K H α M) (rx : RP K H α x v) (ry : RD K H α y u) (hi : items M y = some xs) (hl : isLst y = true) (h1 : x.fit 63 = true) (h2 : P.fits 63 xs = true) :
    Dp K H v x.toD ∧ Dp K H u (.list (P.toDs xs)) ∧ SeqAt.shaped x.toD = true ∧ SeqAt.shaped (.list (P.toDs xs)) = true := by
  cases y with
  | scr _ => cases hl
  | p y =>
    cases y <;> try (cases hl; done)
    obtain ⟨p, vs, rfl, _, s1, r1⟩ := rd_list m ry hi
    have f1 := fit_ok _ _ h1
    have f2 := fits_ok _ _ h2
    refine ⟨rp_dp x _ v h1 rx, .lst (.inl (.inl s1)) (rps_dp _ _ _ h2 r1), ?_, ?_⟩
    · have := f1.2
      simp [SeqAt.shaped, f1.1]; omega
    · have := f2.2
      simp [SeqAt.shaped, PyData.canLay0, PyData.depth, f2.1]; exact this
theorem or_cmp {X : Cx} (hu : X.A.units + 65 < cLine) (o : CO) : OpR X (compareOp (coOp o)) (rCmp X o) := by
  cases o
  · exact op_eqD (by omega)
  · exact op_neD (by omega)
  · exact op_lt
  · exact op_le
  · exact op_gt
  · exact op_ge
  · exact or_or op_isN op_isB
  · exact or_or op_notN op_notB
  · exact or_or op_in_seq (op_inD hu)
  · exact or_or op_notIn_seq (op_notInD hu)
/-- a comparison: its answer -/
theorem cmp_ok {X : Cx} {o : CO} {H : Hp} {α : List Addr} {M : Mem} {x y : D} {v u : V} {b : Bool} {Q : VK} (m : RM X.K H α M) (rx : RD X.K H α x v) (ry : RD X.K H α y u) (h : cmpop o x y M = some b) (q : Q (.bl b) H) : rCmp X o v u H Q := by
  cases o
  case eq =>
    obtain ⟨d, e, h1, h2, h3, h4, rfl⟩ := eqd_ok m rx ry h
    exact ⟨d, e, h1, h2, h3, h4, q⟩
  case ne =>
    obtain ⟨c, h', rfl⟩ := Option.map_eq_some_iff.mp (show (eqd M x y).map (!·) = some b from h)
    obtain ⟨d, e, h1, h2, h3, h4, rfl⟩ := eqd_ok m rx ry h'
    exact ⟨d, e, h1, h2, h3, h4, q⟩
  case isin =>
    unfold cmpop at h
    split at h <;> try contradiction
    obtain ⟨xs, e1, h⟩ := ob h
    split at h <;> try contradiction
    rename_i hf
    cases h
    rw [Bool.or_eq_true, Bool.and_eq_true, Bool.and_eq_true, Bool.and_eq_true] at hf
    rcases hf with hf | ⟨hl, hf⟩
    · obtain ⟨a, vs, rfl, s, r⟩ := items_rd m ry e1
      refine .inl ⟨a, vs, rfl, s, flat_ok rx hf.1, flats_ok r hf.2, ?_⟩
      rw [any_ok rx hf.1 r hf.2]
      exact q
    · obtain ⟨h1, h2, h3, h4⟩ := in_deep m rx ry e1 hl hf.1 hf.2
      refine .inr ⟨_, _, h1, h2, h3, h4, ?_⟩
      rw [any_map]
      exact q
  case notin =>
    unfold cmpop at h
    split at h <;> try contradiction
    obtain ⟨xs, e1, h⟩ := ob h
    split at h <;> try contradiction
    rename_i hf
    cases h
    rw [Bool.or_eq_true, Bool.and_eq_true, Bool.and_eq_true, Bool.and_eq_true] at hf
    rcases hf with hf | ⟨hl, hf⟩
    · obtain ⟨a, vs, rfl, s, r⟩ := items_rd m ry e1
      refine .inl ⟨a, vs, rfl, s, flat_ok rx hf.1, flats_ok r hf.2, ?_⟩
      rw [any_ok rx hf.1 r hf.2]
      exact q
    · obtain ⟨h1, h2, h3, h4⟩ := in_deep m rx ry e1 hl hf.1 hf.2
      refine .inr ⟨_, _, h1, h2, h3, h4, ?_⟩
      rw [any_map]
      exact q
  case is =>
    unfold cmpop at h
    split at h <;> try contradiction
    · cases h
      rw [rp_non (show RP _ _ _ _ v from rx)] at q
      exact .inl ⟨ry, q⟩
    · cases h
      exact .inr ⟨_, _, rx, ry, q⟩
  case isnot =>
    unfold cmpop at h
    split at h <;> try contradiction
    · cases h
      rw [rp_non (show RP _ _ _ _ v from rx)] at q
      exact .inl ⟨ry, q⟩
    · cases h
      exact .inr ⟨_, _, rx, ry, q⟩
  all_goals
    unfold cmpop at h
    split at h <;> try contradiction
    cases h
    exact ⟨_, _, rx, ry, q⟩
section
variable {X : Cx} {a b c e : Expr} {es : List Expr} {pos : Pos} {fa fb fc : Env → Mem → Option (D × Mem)} {ga gb : Env → Mem → Option (Bool × Mem)} {fs : Env → Mem → Option (List D × Mem)} {o o' : CO}
theorem s_cmp (hu : X.A.units + 65 < cLine) (ha : PE X a (tI X fa)) (hb : PE X b (tI X fb)) (hm : behindInMarks (coOp o) b = false) :
    PE X (.Compare a [coOp o] [b] pos) (tI X fun ρ M => do
      let (x, M) ← fa ρ M
      let (y, M) ← fb ρ M
      let r ← cmpop o x y M
      some (.p (.bl r), M)) := by
  refine s_op2 (g := fun x y M => do
      let r ← cmpop o x y M
      some (.p (.bl r), M)) (pe_cmpR (or_cmp hu o) ha hb hm) fun H α M x y v u d M' Q m t rx ry h q => ?_
  obtain ⟨r, e1, h⟩ := ob h
  cases h
  exact cmp_ok m rx ry e1 (stay m t (d := .p _) (by exact rfl) q)
theorem t_cmp (hu : X.A.units + 65 < cLine) (ha : PE X a (tI X fa)) (hb : PE X b (tI X fb)) (hm : behindInMarks (coOp o) b = false) :
    PT X (.Compare a [coOp o] [b] pos) (tIT X fun ρ M => do
      let (x, M) ← fa ρ M
      let (y, M) ← fb ρ M
      let r ← cmpop o x y M
      some (r, M)) := (pt_cmpR (or_cmp hu o) ha hb hm).weak fun σ H Q h => by
  obtain ⟨ρ, M, α, d, M', r0, e, q⟩ := h
  obtain ⟨⟨x, M1⟩, e1, e⟩ := ob e
  obtain ⟨⟨y, M2⟩, e2, e⟩ := ob e
  obtain ⟨r, e3, e⟩ := ob e
  cases e
  refine tI.use r0 e1 fun v H1 α1 n1 d1 r1 => tI.use r1 e2 fun u H2 α2 n2 d2 r2 => ?_
  exact cmp_ok r2.mem (n2.rd r1.mem d1) d2 e3 ⟨_, rfl, q H2 α2 (n1.trans r0.mem n2)⟩
theorem s_cmp2 (hu : X.A.units + 65 < cLine) (ha : PE X a (tI X fa)) (hb : PE X b (tI X fb)) (hc : PE X c (tI X fc)) (hm : lastMarks [coOp o, coOp o'] [b, c] = false) :
    PE X (.Compare a [coOp o, coOp o'] [b, c] pos) (tI X fun ρ M => do
      let (x, M) ← fa ρ M
      let (y, M) ← fb ρ M
      let r ← cmpop o x y M
      if r then do
        let (z, M) ← fc ρ M
        let r' ← cmpop o' y z M
        some (.p (.bl r'), M)
      else some (.p (.bl false), M)) := (pe_chain (or_cmp hu o) (or_cmp hu o') ha hb hc hm).weak fun σ H Q h => by
  obtain ⟨ρ, M, α, d, M', r0, e, q⟩ := h
  obtain ⟨⟨x, M1⟩, e1, e⟩ := ob e
  obtain ⟨⟨y, M2⟩, e2, e⟩ := ob e
  obtain ⟨r, e3, e⟩ := ob e
  refine tI.use r0 e1 fun v H1 α1 n1 d1 r1 => tI.use r1 e2 fun u H2 α2 n2 d2 r2 => ?_
  refine cmp_ok r2.mem (n2.rd r1.mem d1) d2 e3 ⟨_, rfl, ?_⟩
  cases r with
  | false =>
    cases e
    exact q _ H2 α2 (n1.trans r0.mem n2) rfl
  | true =>
    obtain ⟨⟨z, M3⟩, e4, e⟩ := ob e
    obtain ⟨r', e5, e⟩ := ob e
    cases e
    refine tI.use r2 e4 fun w H3 α3 n3 d3 r3 => ?_
    exact cmp_ok r3.mem (n3.rd r2.mem d2) d3 e5 (q _ H3 α3 ((n1.trans r0.mem n2).trans r0.mem n3) rfl)
theorem t_cmp2 (hu : X.A.units + 65 < cLine) (ha : PE X a (tI X fa)) (hb : PE X b (tI X fb)) (hc : PE X c (tI X fc)) (hm : lastMarks [coOp o, coOp o'] [b, c] = false) :
    PT X (.Compare a [coOp o, coOp o'] [b, c] pos) (tIT X fun ρ M => do
      let (x, M) ← fa ρ M
      let (y, M) ← fb ρ M
      let r ← cmpop o x y M
      if r then do
        let (z, M) ← fc ρ M
        let r' ← cmpop o' y z M
        some (r', M)
      else some (false, M)) := (pt_chain (or_cmp hu o) (or_cmp hu o') ha hb hc hm).weak fun σ H Q h => by
  obtain ⟨ρ, M, α, d, M', r0, e, q⟩ := h
  obtain ⟨⟨x, M1⟩, e1, e⟩ := ob e
  obtain ⟨⟨y, M2⟩, e2, e⟩ := ob e
  obtain ⟨r, e3, e⟩ := ob e
  refine tI.use r0 e1 fun v H1 α1 n1 d1 r1 => tI.use r1 e2 fun u H2 α2 n2 d2 r2 => ?_
  refine cmp_ok r2.mem (n2.rd r1.mem d1) d2 e3 ⟨_, rfl, ?_⟩
  cases r with
  | false =>
    cases e
    exact ⟨_, rfl, q H2 α2 (n1.trans r0.mem n2)⟩
  | true =>
    obtain ⟨⟨z, M3⟩, e4, e⟩ := ob e
    obtain ⟨r', e5, e⟩ := ob e
    cases e
    refine tI.use r2 e4 fun w H3 α3 n3 d3 r3 => ?_
    exact cmp_ok r3.mem (n3.rd r2.mem d2) d3 e5 ⟨_, rfl, q H3 α3 ((n1.trans r0.mem n2).trans r0.mem n3)⟩
theorem emp_ok {K : PySem.W.Frag} {H : Hp} {α : List Addr} {xs : List P} {vs : List V} (q : RPs K H α xs vs) : (!xs.isEmpty) = !vs.isEmpty := by
  cases xs with
  | nil => rw [rps_nil q]; rfl
  | cons x xs =>
    cases vs with
    | nil => exact absurd (rps_nil2 q) (by simp)
    | cons _ _ => rfl
theorem truth_ok {K : PySem.W.Frag} {H : Hp} {α : List Addr} {M : Mem} {d : D} {v : V} {b : Bool} (m : RM K H α M) (r : RD K H α d v) (h : truth M d = some b) : TruV K v H b := by
  unfold truth at h
  split at h <;> try contradiction
  · cases h; rw [show v = .non from r]; rfl
  · cases h; rw [show v = .bl _ from r]; rfl
  · cases h; rw [show v = .int _ from r]; rfl
  · cases h
    obtain ⟨a, vs, rfl, s, q⟩ := rd_tuple r
    exact .inr (.inl ⟨vs, s, emp_ok q⟩)
  · obtain ⟨xs, e1, rfl⟩ := Option.map_eq_some_iff.mp h
    obtain ⟨a, vs, rfl, s, q⟩ := items_rd (l := xs) m r (by exact e1)
    rcases s with s | s
    · exact .inl ⟨vs, s, emp_ok q⟩
    · exact .inr (.inl ⟨vs, s, emp_ok q⟩)
  · cases h
    rename_i xs
    obtain ⟨a, vs, rfl, s, q⟩ := items_rd (l := xs) m r rfl
    rcases s with s | s
    · exact .inl ⟨vs, s, emp_ok q⟩
    · exact .inr (.inl ⟨vs, s, emp_ok q⟩)
theorem t_tru (ha : PE X a (tI X fa)) (he : ∀ whole, isTrue a X.env whole = (do let v ← whole; standAt a.pos; holding [v] (truthy v))) :
    PT X a (tIT X fun ρ M => do
      let (x, M) ← fa ρ M
      let r ← truth M x
      some (r, M)) := (pt_truth ha he).weak fun σ H Q h => by
  obtain ⟨ρ, M, α, d, M', r0, e, q⟩ := h
  obtain ⟨⟨x, M1⟩, e1, e⟩ := ob e
  obtain ⟨r, e3, e⟩ := ob e
  cases e
  exact tI.use r0 e1 fun v H1 α1 n1 d1 r1 => ⟨_, truth_ok r1.mem d1 e3, q H1 α1 n1⟩
theorem t_not (ha : PT X a (tIT X ga)) : PT X (.UnaryOp .Not a pos) (tIT X fun ρ M => do
      let (b, M) ← ga ρ M
      some (!b, M)) := (pt_not ha).weak fun σ H Q h => by
  obtain ⟨ρ, M, α, d, M', r0, e, q⟩ := h
  obtain ⟨⟨x, M1⟩, e1, e⟩ := ob e
  cases e
  exact tIT.use r0 e1 fun H1 α1 n1 r1 => q H1 α1 n1
theorem t_and1 (ha : PT X a (tIT X ga)) : PW X (.BoolOp .And [a] pos) (tIT X ga) := pw_and1 ha
theorem t_or1 (ha : PT X a (tIT X ga)) : PW X (.BoolOp .Or [a] pos) (tIT X ga) := pw_or1 ha
theorem t_and (ha : PT X a (tIT X ga)) (hb : PW X (.BoolOp .And (b :: es) pos) (tIT X gb)) : PW X (.BoolOp .And (a :: b :: es) pos) (tIT X fun ρ M => do
      let (b, M) ← ga ρ M
      if b then gb ρ M else some (false, M)) := (pw_and ha hb).weak fun σ H Q h => by
  obtain ⟨ρ, M, α, d, M', r0, e, q⟩ := h
  obtain ⟨⟨x, M1⟩, e1, e⟩ := ob e
  refine tIT.use r0 e1 fun H1 α1 n1 r1 => ?_
  cases x with
  | false => cases e; exact q H1 α1 n1
  | true => exact tIT.use r1 e fun H2 α2 n2 r2 => q H2 α2 (n1.trans r0.mem n2)
theorem t_or (ha : PT X a (tIT X ga)) (hb : PW X (.BoolOp .Or (b :: es) pos) (tIT X gb)) : PW X (.BoolOp .Or (a :: b :: es) pos) (tIT X fun ρ M => do
      let (b, M) ← ga ρ M
      if b then some (true, M) else gb ρ M) := (pw_or ha hb).weak fun σ H Q h => by
  obtain ⟨ρ, M, α, d, M', r0, e, q⟩ := h
  obtain ⟨⟨x, M1⟩, e1, e⟩ := ob e
  refine tIT.use r0 e1 fun H1 α1 n1 r1 => ?_
  cases x with
  | true => cases e; exact q H1 α1 n1
  | false => exact tIT.use r1 e fun H2 α2 n2 r2 => q H2 α2 (n1.trans r0.mem n2)
theorem s_and1 (ha : PE X a (tI X fa)) : PE X (.BoolOp .And [a] pos) (tI X fa) := pe_one ha
theorem s_or1 (ha : PE X a (tI X fa)) : PE X (.BoolOp .Or [a] pos) (tI X fa) := pe_one ha
def step2 (stop : Bool) (x : D) (k : Option (D × Mem)) (M : Mem) : Option (D × Mem) := match x with
  | .p (.bl b) => if b = stop then some (.p (.bl stop), M) else k
  | _ => none
theorem s_and (ha : PE X a (tI X fa)) (hb : PE X (.BoolOp .And (b :: es) pos) (tI X fb)) : PE X (.BoolOp .And (a :: b :: es) pos) (tI X fun ρ M => do
      let (x, M) ← fa ρ M
      match x with
      | .p (.bl true) => fb ρ M
      | .p (.bl false) => some (.p (.bl false), M)
      | _ => none) := (pe_and ha hb).weak fun σ H Q h => by
  obtain ⟨ρ, M, α, d, M', r0, e, q⟩ := h
  obtain ⟨⟨x, M1⟩, e1, e⟩ := ob e
  refine tI.use r0 e1 fun v H1 α1 n1 d1 r1 => ?_
  dsimp only at e
  split at e <;> try contradiction
  · exact ⟨true, d1, tI.use r1 e fun w H2 α2 n2 d2 r2 => q w H2 α2 (n1.trans r0.mem n2) d2⟩
  · cases e; exact ⟨false, d1, q _ H1 α1 n1 rfl⟩
theorem s_or (ha : PE X a (tI X fa)) (hb : PE X (.BoolOp .Or (b :: es) pos) (tI X fb)) : PE X (.BoolOp .Or (a :: b :: es) pos) (tI X fun ρ M => do
      let (x, M) ← fa ρ M
      match x with
      | .p (.bl true) => some (.p (.bl true), M)
      | .p (.bl false) => fb ρ M
      | _ => none) := (pe_or ha hb).weak fun σ H Q h => by
  obtain ⟨ρ, M, α, d, M', r0, e, q⟩ := h
  obtain ⟨⟨x, M1⟩, e1, e⟩ := ob e
  refine tI.use r0 e1 fun v H1 α1 n1 d1 r1 => ?_
  dsimp only at e
  split at e <;> try contradiction
  · cases e; exact ⟨true, d1, q _ H1 α1 n1 rfl⟩
  · exact ⟨false, d1, tI.use r1 e fun w H2 α2 n2 d2 r2 => q w H2 α2 (n1.trans r0.mem n2) d2⟩
theorem s_ife (hc : PT X c (tIT X ga)) (ha : PE X a (tI X fa)) (hb : PE X b (tI X fb)) : PE X (.IfExp c a b pos) (tI X fun ρ M => do
      let (c, M) ← ga ρ M
      if c then fa ρ M else fb ρ M) := (pe_ifExp hc ha hb).weak fun σ H Q h => by
  obtain ⟨ρ, M, α, d, M', r0, e, q⟩ := h
  obtain ⟨⟨x, M1⟩, e1, e⟩ := ob e
  refine tIT.use r0 e1 fun H1 α1 n1 r1 => ?_
  cases x with
  | true => exact tI.use r1 e fun w H2 α2 n2 d2 r2 => q w H2 α2 (n1.trans r0.mem n2) d2
  | false => exact tI.use r1 e fun w H2 α2 n2 d2 r2 => q w H2 α2 (n1.trans r0.mem n2) d2
theorem a_nil : PA X [] (tIA X fun _ M => some ([], M)) := pa_nil.weak fun σ H Q h => by
  obtain ⟨ρ, M, α, d, M', r0, e, q⟩ := h
  cases e
  exact q [] H α (Nx.refl r0.mem r0.tab) trivial
theorem a_cons (ha : PE X a (tI X fa)) (hs : PA X es (tIA X fs)) (h : starEach (a :: es) X.env = (false, eval a X.env) :: starEach es X.env) : PA X (a :: es) (tIA X fun ρ M => do
      let (x, M) ← fa ρ M
      let (xs, M) ← fs ρ M
      some (x :: xs, M)) := (pa_cons ha hs h).weak fun σ H Q h => by
  obtain ⟨ρ, M, α, d, M', r0, e, q⟩ := h
  obtain ⟨⟨x, M1⟩, e1, e⟩ := ob e
  obtain ⟨⟨xs, M2⟩, e2, e⟩ := ob e
  cases e
  exact tI.use r0 e1 fun v H1 α1 n1 d1 r1 => tIA.use r1 e2 fun vs H2 α2 n2 d2 r2 => q _ H2 α2 (n1.trans r0.mem n2) ⟨n2.rd r1.mem d1, d2⟩
theorem o_none : PO X none (tIO X fun _ M => some (none, M)) := po_none.weak fun σ H Q h => by
  obtain ⟨ρ, M, α, d, M', r0, e, q⟩ := h
  cases e
  exact q H α (Nx.refl r0.mem r0.tab)
theorem o_some (ha : PE X a (tI X fa)) : PO X (some a) (tIO X fun ρ M => do
      let (x, M) ← fa ρ M
      match x with
      | .p (.int i) => some (some i, M)
      | _ => none) := (po_some ha).weak fun σ H Q h => by
  obtain ⟨ρ, M, α, d, M', r0, e, q⟩ := h
  obtain ⟨⟨x, M1⟩, e1, e⟩ := ob e
  dsimp only at e
  split at e <;> try contradiction
  cases e
  exact tI.use r0 e1 fun v H1 α1 n1 d1 r1 => ⟨_, d1, q H1 α1 n1⟩
end
end IX
end

section
set_option Elab.async false
set_option autoImplicit false
set_option linter.all false
set_option maxRecDepth 100000
set_option maxHeartbeats 4000000
/-! Displays, subscripts, slices, built-ins, append. -/
namespace IX
open PySem PySem.Spec PyProof.Rows L2 GX
theorem datas_ok {K : PySem.W.Frag} {H : Hp} {α : List Addr} : ∀ {ds : List D} {vs : List V} {ps : List P}, RDs K H α ds vs → datas ds = some ps → RPs K H α ps vs
  | [], [], _, _, h => by cases h; unfold RPs; trivial
  | .p y :: ds, v :: vs, ps, r, h => by
    obtain ⟨xs, e1, h⟩ := ob (show (datas ds >>= fun xs => some (y :: xs)) = some ps from h)
    cases h
    unfold RPs
    exact ⟨r.1, datas_ok r.2 e1⟩
  | .scr _ :: _, _ :: _, _, _, h => by cases h
  | [], _ :: _, _, h, _ => h.elim
  | _ :: _, [], _, h, _ => h.elim
theorem pix_eq (n : Nat) (i : Int) : pix n i = ixN n i := rfl
theorem atx_ok {K : PySem.W.Frag} {H : Hp} {α : List Addr} {xs : List P} {vs : List V} {i : Int} {x : P} (r : RPs K H α xs vs) (h : atx xs i = some x) : ∃ v, atI vs i = some v ∧ RP K H α x v := by
  unfold atx at h
  unfold atI
  obtain ⟨j, e1, e2⟩ := Option.bind_eq_some_iff.mp h
  rw [pix_eq, r.length] at e1
  obtain ⟨v, e3, q⟩ := r.get e2
  exact ⟨v, by rw [e1]; exact e3, q⟩
theorem clip_eq (n d : Nat) (o : Option Int) : clip n d o = HT.sIx n d o := by
  cases o with
  | none => rfl
  | some v => rfl
theorem cut_ok {K : PySem.W.Frag} {H : Hp} {α : List Addr} {xs : List P} {vs : List V} (lo hi : Option Int) (r : RPs K H α xs vs) : RPs K H α (cutp xs lo hi) (cutV vs lo hi) := by
  unfold cutp cutV
  rw [clip_eq, clip_eq, r.length]
  exact (r.drop _).take _
theorem cut_whole {xs : List P} {lo hi : Option Int} (h : HT.sIx xs.length 0 lo = 0 ∧ HT.sIx xs.length xs.length hi = xs.length) : cutp xs lo hi = xs := by
  unfold cutp
  rw [clip_eq, clip_eq, h.1, h.2]
  simp
section
variable {X : Cx} {a b c e : Expr} {es : List Expr} {pos : Pos} {fa fb fc : Env → Mem → Option (D × Mem)} {ga gb : Env → Mem → Option (Bool × Mem)} {fs : Env → Mem → Option (List D × Mem)} {fl fh : Env → Mem → Option (Option Int × Mem)}
theorem s_tup {k : Nat} (h : PA X es (tIA X fs)) : PE X (.Tuple es k pos) (tI X fun ρ M => do
    let (ds, M) ← fs ρ M
    let ps ← datas ds
    if ps.length ≤ sizeLine then some (.p (.tup ps), M) else none) := (pe_tup h).weak fun σ H Q h => by
  obtain ⟨ρ, M, α, d, M', r0, e, q⟩ := h
  obtain ⟨⟨x, M1⟩, e1, e⟩ := ob e
  obtain ⟨ps, e2, e⟩ := ob e
  split at e <;> try contradiction
  rename_i hl
  cases e
  refine tIA.use r0 e1 fun vs H1 α1 n1 d1 r1 => ?_
  have rp := datas_ok d1 e2
  exact ⟨by rw [← rp.length]; exact hl, new_tup r1.mem r1.tab rp fun w H' α' n d => q w H' α' (n1.trans r0.mem n) d⟩
theorem s_lst (h : PA X es (tIA X fs)) : PE X (.List es pos) (tI X fun ρ M => do
    let (ds, M) ← fs ρ M
    let ps ← datas ds
    newl ps M) := (pe_lst h).weak fun σ H Q h => by
  obtain ⟨ρ, M, α, d, M', r0, e, q⟩ := h
  obtain ⟨⟨x, M1⟩, e1, e⟩ := ob e
  obtain ⟨ps, e2, e⟩ := ob e
  obtain ⟨hl, rfl, rfl⟩ := newl_some e
  refine tIA.use r0 e1 fun vs H1 α1 n1 d1 r1 => ?_
  have rp := datas_ok d1 e2
  exact ⟨by rw [← rp.length]; exact hl, new_lst r1.mem r1.tab rp fun w H' α' n d => q w H' α' (n1.trans r0.mem n) d⟩
theorem s_idx (ha : PE X a (tI X fa)) (hb : PE X b (tI X fb)) (hs : PlainIx b) : PE X (.Subscript a b pos) (tI X fun ρ M => do
    let (x, M) ← fa ρ M
    let (y, M) ← fb ρ M
    let r ← index x y M
    some (.p r, M)) := by
  refine s_op2 (g := fun x y M => do
    let r ← index x y M
    some (.p r, M)) (pe_ix ix_seq ha hb hs) fun H α M x y v u d M' Q m t rx ry h q => ?_
  obtain ⟨r, e1, h⟩ := ob h
  cases h
  unfold index at e1
  split at e1 <;> try contradiction
  obtain ⟨xs, e2, e3⟩ := Option.bind_eq_some_iff.mp e1
  obtain ⟨p, vs, rfl, s, rp⟩ := items_rd m rx e2
  obtain ⟨w, e4, rw_⟩ := atx_ok rp e3
  rcases s with s | s
  · exact .inl ⟨p, vs, _, w, rfl, ry, s, e4, stay m t (d := .p _) rw_ q⟩
  · exact .inr (.inl ⟨p, vs, _, w, rfl, ry, s, e4, stay m t (d := .p _) rw_ q⟩)
theorem s_slc {lo hi : Option Expr} {p2 : Pos} (ha : PE X a (tI X fa)) (hl : PO X lo (tIO X fl)) (hh : PO X hi (tIO X fh)) : PE X (.Subscript a (.Slice lo hi none p2) pos) (tI X fun ρ M => do
    let (x, M) ← fa ρ M
    let (l, M) ← fl ρ M
    let (h, M) ← fh ρ M
    slice x l h M) := (pe_slice (SlR.or sl_tupA sl_list) ha hl hh).weak fun σ H Q h => by
  obtain ⟨ρ, M, α, d, M', r0, e, q⟩ := h
  obtain ⟨⟨x, M1⟩, e1, e⟩ := ob e
  obtain ⟨⟨l, M2⟩, e2, e⟩ := ob e
  obtain ⟨⟨h, M3⟩, e3, e⟩ := ob e
  refine tI.use r0 e1 fun v H1 α1 n1 d1 r1 => tIO.use r1 e2 fun H2 α2 n2 r2 => tIO.use r2 e3 fun H3 α3 n3 r3 => ?_
  have d3 := n3.rd r2.mem (n2.rd r1.mem d1)
  have n := (n1.trans r0.mem n2).trans r0.mem n3
  have q3 : ∀ w H' α', Nx X.K α3 H3 α' H' M' → RD X.K H' α' d w → Q w H' := fun w H' α' n' d => q w H' α' (n.trans r0.mem n') d
  have m := r3.mem
  have t := r3.tab
  dsimp only at e
  unfold slice at e
  split at e <;> try contradiction
  · obtain ⟨rfl, rfl⟩ := one_some e
    obtain ⟨p, vs, rfl, s, rp⟩ := rd_tuple d3
    refine .inl ⟨p, vs, rfl, s, fun hw => ?_, fun _ => new_tup m t (cut_ok l h rp) q3⟩
    refine stay m t (d := .p _) ?_ q3
    rw [← rp.length] at hw
    rw [cut_whole hw]
    exact d3
  · obtain ⟨xs, e4, e⟩ := Option.bind_eq_some_iff.mp e
    obtain ⟨hl, rfl, rfl⟩ := newl_some e
    obtain ⟨p, vs, rfl, _, s, rp⟩ := rd_list m d3 e4
    exact .inr ⟨p, vs, rfl, .inl (.inl s), new_lst m t (cut_ok l h rp) q3⟩
  · obtain ⟨hl, rfl, rfl⟩ := newl_some e
    obtain ⟨p, vs, rfl, s, rp⟩ := d3
    exact .inr ⟨p, vs, rfl, s.elim (fun z => .inl z.1) sql_none, new_lst m t (cut_ok l h rp) q3⟩
theorem s_neg (ha : PE X a (tI X fa)) : PE X (.UnaryOp .USub a pos) (tI X fun ρ M => do
    let (x, M) ← fa ρ M
    match x with
    | .p (.int i) => some (.p (.int (-i)), M)
    | _ => none) := (pe_un un_neg ha).weak fun σ H Q h => by
  obtain ⟨ρ, M, α, d, M', r0, e, q⟩ := h
  obtain ⟨⟨x, M1⟩, e1, e⟩ := ob e
  refine tI.use r0 e1 fun v H1 α1 n1 d1 r1 => ?_
  dsimp only at e
  split at e <;> try contradiction
  cases e
  exact ⟨_, d1, q _ H1 α1 n1 rfl⟩
theorem s_notv (ha : PE X a (tI X fa)) : PE X (.UnaryOp .Not a pos) (tI X fun ρ M => do
    let (x, M) ← fa ρ M
    let b ← truth M x
    some (.p (.bl (!b)), M)) := by
  refine ⟨fun pins s σ H Q I h => ?_⟩
  obtain ⟨ρ, M, α, d, M', r0, e, q⟩ := h
  obtain ⟨⟨x, M1⟩, e1, e⟩ := ob e
  obtain ⟨b, e2, e⟩ := ob e
  cases e
  refine UnaryOp_ (thn (ha.run pins s σ H (fun v H' => ∃ k, TruV X.K v H' k ∧ Q (.bl (!k)) H') I (tI.use r0 e1 fun v H1 α1 n1 d1 r1 => ⟨b, truth_ok r1.mem d1 e2, q _ H1 α1 n1 rfl⟩)) fun v s1 ⟨x, H1, I1, r1, q1⟩ => ?_)
  exact not_of (thn (tru_ok pins s1 σ H1 x v (fun b H' => Q (.bl (!b)) H') I1 r1 q1) fun b s2 ⟨H2, I2, q2⟩ => ⟨.bl (!b), H2, I2, rfl, q2⟩)
/-- a built-in's call by values -/
def CallI (X : Cx) (r : List V → Hp → VK → Prop) (g : List D → Mem → Option (D × Mem)) : Prop := ∀ H α M ds vs d M' Q, RM X.K H α M → TabAll H → RDs X.K H α ds vs → g ds M = some (d, M') →
  (∀ w H' α', Nx X.K α H α' H' M' → RD X.K H' α' d w → Q w H') → r vs H Q
theorem s_cb {r : List V → Hp → VK → Prop} {g : List D → Mem → Option (D × Mem)} (h : PE X e (tCB r (tIA X fs))) (hr : CallI X r g) : PE X e (tI X fun ρ M => do
    let (ds, M) ← fs ρ M
    g ds M) := h.weak fun σ H Q h => by
  obtain ⟨ρ, M, α, d, M', r0, e, q⟩ := h
  obtain ⟨⟨ds, M1⟩, e1, e⟩ := ob e
  exact tIA.use r0 e1 fun vs H1 α1 n1 d1 r1 => hr H1 α1 M1 ds vs d M' Q r1.mem r1.tab d1 e fun w H' α' n d => q w H' α' (n1.trans r0.mem n) d
theorem rds1 {K : PySem.W.Frag} {H : Hp} {α : List Addr} {d : D} {vs : List V} (h : RDs K H α [d] vs) : ∃ v, vs = [v] ∧ RD K H α d v := by
  cases vs with
  | nil => exact h.elim
  | cons v vs =>
    cases vs with
    | nil => exact ⟨v, rfl, h.1⟩
    | cons _ _ => exact h.2.elim
theorem rds2 {K : PySem.W.Frag} {H : Hp} {α : List Addr} {d d' : D} {vs : List V} (h : RDs K H α [d, d'] vs) : ∃ v w, vs = [v, w] ∧ RD K H α d v ∧ RD K H α d' w := by
  cases vs with
  | nil => exact h.elim
  | cons v vs =>
    obtain ⟨w, rfl, h2⟩ := rds1 h.2
    exact ⟨v, w, rfl, h.1, h2⟩
theorem ints_ok {K : PySem.W.Frag} {H : Hp} {α : List Addr} : ∀ {xs : List P} {vs : List V} {is : List Int}, RPs K H α xs vs → intsP xs = some is → vs = is.map V.int
  | [], [], _, _, h => by cases h; rfl
  | .int i :: xs, v :: vs, is, r, h => by
    unfold RPs at r
    obtain ⟨is', e1, rfl⟩ := Option.map_eq_some_iff.mp (show (intsP xs).map (i :: ·) = some is from h)
    rw [ints_ok r.2 e1, show v = V.int _ from r.1]
    rfl
  | .non :: _, _ :: _, _, _, h => by cases h
  | .bl _ :: _, _ :: _, _, _, h => by cases h
  | .str _ :: _, _ :: _, _, _, h => by cases h
  | .tup _ :: _, _ :: _, _, _, h => by cases h
  | .ref _ :: _, _ :: _, _, _, h => by cases h
  | [], _ :: _, _, h, _ => by unfold RPs at h; exact h.elim
  | _ :: _, [], _, h, _ => by unfold RPs at h; exact h.elim
theorem itemsL_rd {K : PySem.W.Frag} {H : Hp} {α : List Addr} {M : Mem} {d : D} {v : V} {l : List P} (m : RM K H α M) (h : RD K H α d v) (e : itemsL M d = some l) : ∃ a vs, v = .ref a ∧ SqL K H a vs ∧ RPs K H α l vs := by
  cases d with
  | p x =>
    cases x with
    | ref i =>
      obtain ⟨a, vs, rfl, _, s, r⟩ := rd_list m h e
      exact ⟨a, vs, rfl, .inl (.inl s), r⟩
    | _ => cases e
  | scr xs =>
    cases e
    obtain ⟨a, vs, rfl, q, r⟩ := h
    refine ⟨a, vs, rfl, ?_, r⟩
    rcases q with ⟨q, _⟩ | q
    · exact .inl q
    · exact sql_none q
theorem maxI_mem : ∀ (a : Int) (r : List Int), maxI a r ∈ a :: r ∧ ∀ y ∈ a :: r, y ≤ maxI a r
  | a, [] => by simp [maxI]
  | a, b :: r => by
    unfold maxI
    have h := maxI_mem (if b > a then b else a) r
    constructor
    · rcases List.mem_cons.mp h.1 with e | e
      · rw [e]
        split <;> simp
      · exact List.mem_cons_of_mem _ (List.mem_cons_of_mem _ e)
    · intro y hy
      have h0 := h.2 _ List.mem_cons_self
      have ha : a ≤ (if b > a then b else a) := by split <;> omega
      have hb : b ≤ (if b > a then b else a) := by split <;> omega
      rcases List.mem_cons.mp hy with e | hy
      · rw [e]; exact Int.le_trans ha h0
      · rcases List.mem_cons.mp hy with e | hy
        · rw [e]; exact Int.le_trans hb h0
        · exact h.2 y (List.mem_cons_of_mem _ hy)
theorem minI_mem : ∀ (a : Int) (r : List Int), minI a r ∈ a :: r ∧ ∀ y ∈ a :: r, minI a r ≤ y
  | a, [] => by simp [minI]
  | a, b :: r => by
    unfold minI
    have h := minI_mem (if b < a then b else a) r
    constructor
    · rcases List.mem_cons.mp h.1 with e | e
      · rw [e]
        split <;> simp
      · exact List.mem_cons_of_mem _ (List.mem_cons_of_mem _ e)
    · intro y hy
      have h0 := h.2 _ List.mem_cons_self
      have ha : (if b < a then b else a) ≤ a := by split <;> omega
      have hb : (if b < a then b else a) ≤ b := by split <;> omega
      rcases List.mem_cons.mp hy with e | hy
      · rw [e]; exact Int.le_trans h0 ha
      · rcases List.mem_cons.mp hy with e | hy
        · rw [e]; exact Int.le_trans h0 hb
        · exact h.2 y (List.mem_cons_of_mem _ hy)
def rLenI (X : Cx) : List V → Hp → VK → Prop := fun xs H Q => ∃ p ys, xs = [.ref p] ∧ (SqL X.K H p ys ∨ SqT X.K H p ys) ∧ Q (.int ys.length) H
theorem ci_len : CallI X (rLenI X) (bfun .len) := by
  intro H α M ds vs d M' Q m t r h q
  unfold bfun at h
  split at h <;> try contradiction
  obtain ⟨l, e1, h⟩ := Option.bind_eq_some_iff.mp h
  obtain ⟨rfl, rfl⟩ := one_some h
  obtain ⟨v, rfl, rv⟩ := rds1 r
  obtain ⟨p, vs, rfl, s, rp⟩ := items_rd m rv e1
  refine ⟨p, vs, rfl, s, stay m t (d := .p _) ?_ q⟩
  show V.int _ = V.int _
  rw [rp.length]
theorem ci_abs : CallI X (fun xs H Q => ∃ i, xs = [.int i] ∧ Q (.int (if i < 0 then -i else i)) H) (bfun .abs) := by
  intro H α M ds vs d M' Q m t r h q
  unfold bfun at h
  split at h <;> try contradiction
  obtain ⟨rfl, rfl⟩ := one_some h
  obtain ⟨v, rfl, rv⟩ := rds1 r
  exact ⟨_, by rw [rd_int rv], stay m t (d := .p _) (by exact rfl) q⟩
theorem ci_int : CallI X (fun xs H Q => (∃ i, xs = [.int i] ∧ Q (.int i) H) ∨ ∃ k, xs = [.bl k] ∧ Q (.int (if k then 1 else 0)) H) (bfun .int) := by
  intro H α M ds vs d M' Q m t r h q
  unfold bfun at h
  split at h <;> try contradiction
  · obtain ⟨rfl, rfl⟩ := one_some h
    obtain ⟨v, rfl, rv⟩ := rds1 r
    exact .inl ⟨_, by rw [rd_int rv], stay m t (d := .p _) (by exact rfl) q⟩
  · obtain ⟨rfl, rfl⟩ := one_some h
    obtain ⟨v, rfl, rv⟩ := rds1 r
    exact .inr ⟨_, by rw [show v = V.bl _ from rv], stay m t (d := .p _) (by exact rfl) q⟩
theorem ci_bool : CallI X (fun xs H Q => (∃ i, xs = [.int i] ∧ Q (.bl (i != 0)) H) ∨ ∃ k, xs = [.bl k] ∧ Q (.bl k) H) (bfun .bool) := by
  intro H α M ds vs d M' Q m t r h q
  unfold bfun at h
  split at h <;> try contradiction
  · obtain ⟨rfl, rfl⟩ := one_some h
    obtain ⟨v, rfl, rv⟩ := rds1 r
    exact .inr ⟨_, by rw [show v = V.bl _ from rv], stay m t (d := .p _) (by exact rfl) q⟩
  · obtain ⟨rfl, rfl⟩ := one_some h
    obtain ⟨v, rfl, rv⟩ := rds1 r
    exact .inl ⟨_, by rw [rd_int rv], stay m t (d := .p _) (by exact rfl) q⟩
theorem bls_ok {K : PySem.W.Frag} {H : Hp} {α : List Addr} : ∀ {xs : List P} {vs : List V} {bs : List Bool}, RPs K H α xs vs → blsP xs = some bs → vs = bs.map V.bl
  | [], [], _, _, h => by cases h; rfl
  | .bl i :: xs, v :: vs, bs, r, h => by
    unfold RPs at r
    obtain ⟨bs', e1, rfl⟩ := Option.map_eq_some_iff.mp (show (blsP xs).map (i :: ·) = some bs from h)
    rw [bls_ok r.2 e1, show v = V.bl _ from r.1]
    rfl
  | .non :: _, _ :: _, _, _, h => by cases h
  | .int _ :: _, _ :: _, _, _, h => by cases h
  | .str _ :: _, _ :: _, _, _, h => by cases h
  | .tup _ :: _, _ :: _, _, _, h => by cases h
  | .ref _ :: _, _ :: _, _, _, h => by cases h
  | [], _ :: _, _, h, _ => by unfold RPs at h; exact h.elim
  | _ :: _, [], _, h, _ => by unfold RPs at h; exact h.elim
theorem ci_all : CallI X (fun xs H Q => E1.rAllL X.K xs H Q) (bfun .all) := by
  intro H α M ds vs d M' Q m t r h q
  unfold bfun at h
  split at h <;> try contradiction
  obtain ⟨l, e1, h⟩ := ob h
  obtain ⟨bs, e2, h⟩ := ob h
  obtain ⟨rfl, rfl⟩ := one_some h
  obtain ⟨v, rfl, rv⟩ := rds1 r
  obtain ⟨p, vs, rfl, hp, s, rp⟩ := rd_list m rv e1
  rw [bls_ok rp e2] at s
  exact ⟨p, bs, rfl, .inl (.inl s), stay m t (d := .p _) (by exact rfl) q⟩
theorem ci_sum : CallI X (fun xs H Q => rSum X.K xs H Q ∨ E1.rSumT X.K xs H Q) (bfun .sum) := by
  intro H α M ds vs d M' Q m t r h q
  unfold bfun at h
  split at h <;> try contradiction
  obtain ⟨l, e1, h⟩ := ob h
  obtain ⟨is, e2, h⟩ := ob h
  obtain ⟨rfl, rfl⟩ := one_some h
  obtain ⟨v, rfl, rv⟩ := rds1 r
  obtain ⟨p, vs, rfl, s, rp⟩ := items_rd m rv e1
  rw [ints_ok rp e2] at s
  exact s.elim (fun s => .inl ⟨p, is, rfl, s, stay m t (d := .p _) (by exact rfl) q⟩) fun s => .inr ⟨p, is, rfl, s, stay m t (d := .p _) (by exact rfl) q⟩
theorem ci_max : CallI X (fun xs H Q => (∃ i j, xs = [.int i, .int j] ∧ Q (.int (if j > i then j else i)) H) ∨ rMax X.K xs H Q ∨ E1.rMaxT X.K xs H Q) (bfun .max) := by
  intro H α M ds vs d M' Q m t r h q
  unfold bfun at h
  split at h <;> try contradiction
  · obtain ⟨rfl, rfl⟩ := one_some h
    obtain ⟨v, w, rfl, r1, r2⟩ := rds2 r
    exact .inl ⟨_, _, by rw [rd_int r1, rd_int r2], stay m t (d := .p _) (by exact rfl) q⟩
  · obtain ⟨l, e1, h⟩ := ob h
    obtain ⟨is, e2, h⟩ := ob h
    split at h <;> try contradiction
    rename_i a r'
    obtain ⟨rfl, rfl⟩ := one_some h
    obtain ⟨v, rfl, rv⟩ := rds1 r
    obtain ⟨p, vs, rfl, s, rp⟩ := items_rd m rv e1
    rw [ints_ok rp e2] at s
    refine s.elim (fun s => .inr (.inl ⟨p, _, rfl, s, by simp, fun z hz1 hz2 => ?_⟩)) fun s => .inr (.inr ⟨p, _, rfl, s, by simp, fun z hz1 hz2 => ?_⟩)
    all_goals
      have hm := maxI_mem a r'
      have : z = maxI a r' := Int.le_antisymm (hm.2 z hz1) (hz2 _ hm.1)
      subst this
      exact stay m t (d := .p _) (by exact rfl) q
theorem ci_min : CallI X (fun xs H Q => (∃ i j, xs = [.int i, .int j] ∧ Q (.int (if j < i then j else i)) H) ∨ rMin X.K xs H Q ∨ E1.rMinT X.K xs H Q) (bfun .min) := by
  intro H α M ds vs d M' Q m t r h q
  unfold bfun at h
  split at h <;> try contradiction
  · obtain ⟨rfl, rfl⟩ := one_some h
    obtain ⟨v, w, rfl, r1, r2⟩ := rds2 r
    exact .inl ⟨_, _, by rw [rd_int r1, rd_int r2], stay m t (d := .p _) (by exact rfl) q⟩
  · obtain ⟨l, e1, h⟩ := ob h
    obtain ⟨is, e2, h⟩ := ob h
    split at h <;> try contradiction
    rename_i a r'
    obtain ⟨rfl, rfl⟩ := one_some h
    obtain ⟨v, rfl, rv⟩ := rds1 r
    obtain ⟨p, vs, rfl, s, rp⟩ := items_rd m rv e1
    rw [ints_ok rp e2] at s
    refine s.elim (fun s => .inr (.inl ⟨p, _, rfl, s, by simp, fun z hz1 hz2 => ?_⟩)) fun s => .inr (.inr ⟨p, _, rfl, s, by simp, fun z hz1 hz2 => ?_⟩)
    all_goals
      have hm := minI_mem a r'
      have : z = minI a r' := Int.le_antisymm (hz2 _ hm.1) (hm.2 z hz1)
      subst this
      exact stay m t (d := .p _) (by exact rfl) q
theorem ci_tuple : CallI X (fun xs H Q => ∃ p ys, xs = [.ref p] ∧ ((SqL X.K H p ys ∧ ∀ l, H l = none → Q (.ref l) (upd H l (.tup ys))) ∨ (SqT X.K H p ys ∧ Q (.ref p) H))) (bfun .tuple) := by
  intro H α M ds vs d M' Q m t r h q
  unfold bfun at h
  split at h <;> try contradiction
  obtain ⟨l, e1, h⟩ := Option.bind_eq_some_iff.mp h
  obtain ⟨rfl, rfl⟩ := one_some h
  obtain ⟨v, rfl, rv⟩ := rds1 r
  obtain ⟨p, vs, rfl, s, rp⟩ := items_rd m rv e1
  rcases s with s | s
  · exact ⟨p, vs, rfl, .inl ⟨s, new_tup m t rp q⟩⟩
  · refine ⟨p, vs, rfl, .inr ⟨s, stay m t (d := .p _) ?_ q⟩⟩
    show RP _ _ _ (.tup _) _
    unfold RP
    exact ⟨p, vs, rfl, s, rp⟩
theorem ci_list : CallI X (fun xs H Q => ∃ p ys, xs = [.ref p] ∧ (SqL X.K H p ys ∨ SqT X.K H p ys) ∧ ∀ l, H l = none → Q (.ref l) (upd H l (.lst ys))) (bfun .list) := by
  intro H α M ds vs d M' Q m t r h q
  unfold bfun at h
  split at h <;> try contradiction
  obtain ⟨l, e1, h⟩ := Option.bind_eq_some_iff.mp h
  obtain ⟨hl, rfl, rfl⟩ := newl_some h
  obtain ⟨v, rfl, rv⟩ := rds1 r
  obtain ⟨p, vs, rfl, s, rp⟩ := items_rd m rv e1
  exact ⟨p, vs, rfl, s, new_lst m t rp q⟩
/-- isinstance(x, T) -/
def tyP : P → String
  | .non => "NoneType" | .bl _ => "bool" | .int _ => "int" | .str _ => "str" | .tup _ => "tuple" | .ref _ => "list"
theorem isi_ok {K : PySem.W.Frag} {H : Hp} {α : List Addr} {M : Mem} {x : P} {v : V} (m : RM K H α M) (r : RP K H α x v) : TyX K H v (.type (tyP x)) := by
  cases x <;> unfold RP at r
  case tup l =>
    obtain ⟨a, vs, rfl, s, _⟩ := r
    rcases s with (s | ⟨o, s⟩) | ⟨o, its, n, h1, h2, _⟩
    · exact .base (.tup s)
    · exact .fTuple s
    · exact .kTuple h1 h2
  case ref i =>
    obtain ⟨a, e, rfl⟩ := r
    obtain ⟨vs, hv⟩ := m.lst (List.mem_of_getElem? e)
    exact .base (.lst hv)
  case non => subst r; exact .base .non
  case bl b => subst r; exact .base (.bl _)
  case int b => subst r; exact .base (.int _)
  case str b => subst r; exact .base (.str _)
def isT : BI → Option String
  | .isint => some "int"
  | .isbool => some "bool"
  | .istup => some "tuple"
  | .isstr => some "str"
  | _ => none
theorem kit_is (K : PySem.W.Frag) {bi : BI} {T : String} (hT : isT bi = some T) {x : D} {M M' : Mem} {d : D} (e : bfun bi [x] M = some (d, M')) :
    ∃ y b, x = .p y ∧ d = .p (.bl b) ∧ M' = M ∧ PySem.W.kitOne K (.type (tyP y)) (.type T) = some b := by
  cases bi <;> cases hT <;> cases x <;> first | (cases e; done) | skip
  all_goals
    rename_i y
    cases y <;> (cases e; exact ⟨_, _, rfl, rfl, rfl, rfl⟩)
theorem s_isi {bi : BI} {T : String} {p p2 : Pos} {nt : Str} (hT : isT bi = some T) (ha : PE X a (tI X fa)) (hn : PE X (.Name nt p2) (tC (.ty T))) (hg : Gl X "isinstance") (hm : X.mg "isinstance" = none)
    (he : starEach [a, .Name nt p2] X.env = [(false, eval a X.env), (false, eval (.Name nt p2) X.env)]) (he2 : starEach [.Name nt p2] X.env = [(false, eval (.Name nt p2) X.env)]) (he3 : starEach [] X.env = []) :
    PE X (.Call (.Name "isinstance" p) [a, .Name nt p2] [] pos) (tI X fun ρ M => do
      let (ds, M) ← (do
        let (x, M) ← fa ρ M
        let (xs, M) ← some ([], M)
        some (x :: xs, M))
      bfun bi ds M) := by
  refine (pe_callB call_isi hg hm boot_isinstance (pa_cons ha (pa_cons hn pa_nil (by rw [he2, he3])) (by rw [he, he2])) (by decide) (by decide) (by rw [he, he2]) (by rw [he2]; rfl)).weak fun σ H Q h => ?_
  obtain ⟨ρ, M, α, d, M', r0, e, q⟩ := h
  obtain ⟨⟨ds, M1⟩, e1, e⟩ := ob e
  obtain ⟨⟨x, M2⟩, e2, e1⟩ := ob e1
  cases e1
  refine tI.use r0 e2 fun v H1 α1 n1 d1 r1 => ?_
  obtain ⟨y, b, rfl, rfl, rfl, hk⟩ := kit_is X.K hT e
  exact ⟨v, _, _, _, b, rfl, .ty _, isi_ok r1.mem d1, hk, q _ H1 α1 n1 rfl⟩
end
end IX
end

section
set_option Elab.async false
set_option autoImplicit false
set_option linter.all false
set_option maxRecDepth 100000
set_option maxHeartbeats 4000000
namespace IX
open PySem PySem.Spec PyProof.Rows L2 GX
/-! ### a list's methods -/
def mtNm : MT → Str
  | .append => "append" | .pop => "pop" | .popi => "pop" | .reverse => "reverse" | .extend => "extend" | .insert => "insert" | .remove => "remove" | .index => "index" | .count => "count"
theorem pix_seq {n k : Nat} {i : Int} (h : pix n i = some k) : seqIndex? i n = some k := by
  unfold pix at h
  unfold seqIndex?
  split at h
  · split at h <;> try contradiction
    cases h
    rename_i h0 h1
    have : ¬ i < 0 := by omega
    simp [this, h0, h1]
  · split at h <;> try contradiction
    cases h
    rename_i h0 h1
    have h2 : i < 0 := by omega
    have h3 : 0 ≤ i + n := by omega
    have h4 : i + n < n := by omega
    simp [h2, h3, h4]
theorem RPs.rev {K : PySem.W.Frag} {H : Hp} {α : List Addr} : ∀ {xs : List P} {vs : List V}, RPs K H α xs vs → RPs K H α xs.reverse vs.reverse
  | [], [], _ => by unfold RPs; trivial
  | x :: xs, v :: vs, h => by
    unfold RPs at h
    rw [List.reverse_cons, List.reverse_cons]
    refine (RPs.rev h.2).append ?_
    show RPs _ _ _ [_] [_]
    unfold RPs
    exact ⟨h.1, by unfold RPs; trivial⟩
  | [], _ :: _, h => by unfold RPs at h; exact h.elim
  | _ :: _, [], h => by unfold RPs at h; exact h.elim
theorem RPs.erase {K : PySem.W.Frag} {H : Hp} {α : List Addr} : ∀ {xs : List P} {vs : List V} (i : Nat), RPs K H α xs vs → RPs K H α (xs.eraseIdx i) (vs.eraseIdx i)
  | [], [], _, _ => by simp [RPs]
  | x :: xs, v :: vs, 0, h => by
    unfold RPs at h
    exact h.2
  | x :: xs, v :: vs, i + 1, h => by
    unfold RPs at h
    rw [List.eraseIdx_cons_succ, List.eraseIdx_cons_succ]
    unfold RPs
    exact ⟨h.1, RPs.erase i h.2⟩
  | [], _ :: _, _, h => by unfold RPs at h; exact h.elim
  | _ :: _, [], _, h => by unfold RPs at h; exact h.elim
theorem RPs.taked {K : PySem.W.Frag} {H : Hp} {α : List Addr} : ∀ {xs : List P} {vs : List V} (i : Nat), RPs K H α xs vs → RPs K H α (xs.take i) (vs.take i) ∧ RPs K H α (xs.drop i) (vs.drop i)
  | [], [], i, _ => by simp [RPs]
  | x :: xs, v :: vs, 0, h => ⟨by simp [RPs], h⟩
  | x :: xs, v :: vs, i + 1, h => by
    unfold RPs at h
    have := RPs.taked i h.2
    refine ⟨?_, this.2⟩
    rw [List.take_succ_cons, List.take_succ_cons]
    unfold RPs
    exact ⟨h.1, this.1⟩
  | [], _ :: _, _, h => by unfold RPs at h; exact h.elim
  | _ :: _, [], _, h => by unfold RPs at h; exact h.elim
theorem RPs.last {K : PySem.W.Frag} {H : Hp} {α : List Addr} : ∀ {xs : List P} {vs : List V}, RPs K H α xs vs → RPs K H α xs.dropLast vs.dropLast
  | [], [], h => h
  | [x], [v], _ => by simp [RPs]
  | x :: y :: xs, v :: w :: vs, h => by
    unfold RPs at h
    rw [List.dropLast_cons_cons, List.dropLast_cons_cons]
    unfold RPs
    exact ⟨h.1, RPs.last h.2⟩
  | [x], _ :: _ :: _, h => by unfold RPs at h; have := h.2; unfold RPs at this; exact this.elim
  | _ :: _ :: _, [v], h => by unfold RPs at h; have := h.2; unfold RPs at this; exact this.elim
  | [], _ :: _, h => by unfold RPs at h; exact h.elim
  | _ :: _, [], h => by unfold RPs at h; exact h.elim
theorem toDs_idx (y : P) : ∀ xs : List P, ((P.toDs xs).findIdx? fun z => PyData.eqv z y.toD) = xs.findIdx? fun z => z.eqv y
  | [] => by simp [P.toDs]
  | x :: xs => by simp only [P.toDs, List.findIdx?_cons, toDs_idx y xs]; rfl
/-- what the method does to what stands at p -/
def MtOk (X : Cx) (m : MT) (rr : V → List V → Hp → VK → Prop) : Prop := ∀ {H : Hp} {α : List Addr} {M : Mem} {i : Nat} {p : Addr} {xs ys : List P} {ds : List D} {ws us : List V} {r : P} {Q : VK}, RM X.K H α M → TabAll H → α[i]? = some p → M[i]? = some xs → H p = some (.lst ws) → RPs X.K H α xs ws → RDs X.K H α ds us → mtf m M xs ds = some (r, ys) →
  (∀ v H', Nx X.K α H α H' (M.set i ys) → RD X.K H' α (.p r) v → Q v H') → rr (.ref p) us H Q

theorem mk_append {X : Cx} : MtOk X .append rAppend := fun {H α M i p xs ys ds ws us r Q} m t hp hM hH rp rd e q => by
  unfold mtf at e
  split at e <;> try contradiction
  split at e <;> try contradiction
  rename_i hl
  cases e
  obtain ⟨w, rfl, rw_⟩ := rds1 rd
  refine ⟨_, ws, w, rfl, rfl, hH, by rw [← rp.length]; exact hl, ?_⟩
  refine q _ _ (Nx.write m t hp hM (rp.append ?_)) rfl
  show RPs _ _ _ [_] [_]
  unfold RPs
  exact ⟨rw_, by unfold RPs; trivial⟩
theorem mk_pop {X : Cx} : MtOk X .pop rPop := fun {H α M i p xs ys ds ws us r Q} m t hp hM hH rp rd e q => by
  unfold mtf at e
  split at e <;> try contradiction
  obtain ⟨y, e1, e2⟩ := Option.map_eq_some_iff.mp e
  cases e2
  obtain rfl : us = [] := by cases us with | nil => rfl | cons _ _ => exact rd.elim
  obtain ⟨v, h1, h2⟩ := rp.get e1
  refine ⟨_, ws, v, rfl, rfl, hH, by rw [← rp.length]; exact h1, ?_⟩
  have n := Nx.write m t hp hM rp.last
  exact q _ _ n (n.rd m (d := .p _) h2)
theorem mk_popi {X : Cx} : MtOk X .popi rPopAt := fun {H α M i p xs ys ds ws us r Q} m t hp hM hH rp rd e q => by
  unfold mtf at e
  split at e <;> try contradiction
  split at e <;> try contradiction
  rename_i hb
  rw [Bool.and_eq_true, decide_eq_true_eq, decide_eq_true_eq] at hb
  obtain ⟨k, e0, e⟩ := Option.bind_eq_some_iff.mp e
  obtain ⟨y, e1, e2⟩ := Option.map_eq_some_iff.mp e
  cases e2
  obtain ⟨w, rfl, rw_⟩ := rds1 rd
  obtain rfl := rd_int rw_
  obtain ⟨v, h1, h2⟩ := rp.get e1
  refine ⟨_, ws, _, k, v, rfl, rfl, hH, hb.1, hb.2, by rw [← rp.length]; exact pix_seq e0, h1, ?_⟩
  have n := Nx.write m t hp hM (rp.erase k)
  exact q _ _ n (n.rd m (d := .p _) h2)
theorem mk_reverse {X : Cx} : MtOk X .reverse rReverse := fun {H α M i p xs ys ds ws us r Q} m t hp hM hH rp rd e q => by
  unfold mtf at e
  split at e <;> try contradiction
  cases e
  obtain rfl : us = [] := by cases us with | nil => rfl | cons _ _ => exact rd.elim
  exact ⟨_, ws, rfl, rfl, hH, q _ _ (Nx.write m t hp hM rp.rev) rfl⟩
theorem mk_extend {X : Cx} : MtOk X .extend rExtend := fun {H α M i p xs ys ds ws us r Q} m t hp hM hH rp rd e q => by
  unfold mtf at e
  split at e <;> try contradiction
  obtain ⟨zs, e1, e⟩ := Option.bind_eq_some_iff.mp e
  split at e <;> try contradiction
  rename_i hl
  cases e
  obtain ⟨w, rfl, rw_⟩ := rds1 rd
  obtain ⟨b, vs, rfl, hb, hHb, rp2⟩ := rd_list m rw_ e1
  exact ⟨_, _, ws, vs, rfl, rfl, hH, hHb, by rw [← rp.length, ← rp2.length]; exact hl, q _ _ (Nx.write m t hp hM (rp.append rp2)) rfl⟩
theorem mk_insert {X : Cx} : MtOk X .insert (fun x vs H Q => ∃ (l : Addr) (xs : List V) (i : Int) (y : V), x = .ref l ∧ vs = [.int i, y] ∧ H l = some (.lst xs) ∧ xs.length < sizeLine ∧ 0 ≤ i ∧ i < 2 ^ 63 ∧
    Q .non (upd H l (.lst (xs.take i.toNat ++ [y] ++ xs.drop i.toNat)))) := fun {H α M i p xs ys ds ws us r Q} m t hp hM hH rp rd e q => by
  unfold mtf at e
  split at e <;> try contradiction
  split at e <;> try contradiction
  rename_i hb
  simp only [Bool.and_eq_true, decide_eq_true_eq] at hb
  cases e
  obtain ⟨w, w2, rfl, rw_, rw2⟩ := rds2 rd
  obtain rfl := rd_int rw_
  refine ⟨_, ws, _, w2, rfl, rfl, hH, by rw [← rp.length]; exact hb.1.1, hb.1.2, hb.2, ?_⟩
  refine q _ _ (Nx.write m t hp hM (((rp.taked _).1.append ?_).append (rp.taked _).2)) rfl
  show RPs _ _ _ [_] [_]
  unfold RPs
  exact ⟨rw2, by unfold RPs; trivial⟩
theorem mk_remove {X : Cx} : MtOk X .remove (rRemD X.K) := fun {H α M i p xs ys ds ws us r Q} m t hp hM hH rp rd e q => by
  unfold mtf at e
  split at e <;> try contradiction
  split at e <;> try contradiction
  rename_i hb
  rw [Bool.and_eq_true] at hb
  obtain ⟨j, e1, e2⟩ := Option.map_eq_some_iff.mp e
  cases e2
  obtain ⟨w, rfl, rw_⟩ := rds1 rd
  have f1 := fit_ok _ _ hb.1
  have f2 := fits_ok _ _ hb.2
  refine ⟨_, w, _, ws, _, j, rfl, rfl, hH, rps_dp _ _ _ hb.2 rp, rp_dp _ _ _ hb.1 rw_, ?_, ?_, by rw [toDs_idx]; exact e1, q _ _ (Nx.write m t hp hM (rp.erase j)) rfl⟩
  · have := f2.2
    simp [SeqAt.shaped, PyData.canLay0, PyData.depth, f2.1]; exact this
  · have := f1.2
    simp [SeqAt.shaped, f1.1]; omega
section
variable {X : Cx} {pos : Pos} {e : Expr} {es : List Expr} {fa : Env → Mem → Option (D × Mem)} {fs : Env → Mem → Option (List D × Mem)}
def mtF (m : MT) (fa : Env → Mem → Option (D × Mem)) (fs : Env → Mem → Option (List D × Mem)) : Env → Mem → Option (D × Mem) := fun ρ M => do
      let (x, M) ← fa ρ M
      let (ds, M) ← fs ρ M
      match x with
      | .p (.ref i) => do
        let xs ← M[i]?
        let (r, ys) ← mtf m M xs ds
        some (.p r, M.set i ys)
      | _ => none
theorem mt_weak {m : MT} {rr : V → List V → Hp → VK → Prop} (k : MtOk X m rr) {σ : L2.St} {H : Hp} {Q : VK} (h : tI X (mtF m fa fs) σ H Q) :
    tI X fa σ H fun v H1 => (∃ p xs, v = .ref p ∧ SqL X.K H1 p xs) ∧ tIA X fs σ H1 fun us H2 => rr v us H2 Q := by
  obtain ⟨ρ, M, α, d, M', r0, e, q⟩ := h
  obtain ⟨⟨x, M1⟩, e1, e⟩ := ob e
  obtain ⟨⟨ds, M2⟩, e2, e⟩ := ob e
  dsimp only at e
  split at e <;> try contradiction
  rename_i i
  obtain ⟨xs, e3, e⟩ := ob e
  obtain ⟨⟨r, ys⟩, e4, e⟩ := ob e
  cases e
  refine tI.use r0 e1 fun v H1 α1 n1 d1 r1 => ?_
  have d1' := d1
  obtain ⟨p, hp, rfl⟩ := rd_ref d1'
  refine ⟨?_, ?_⟩
  · obtain ⟨vs, hv⟩ := r1.mem.lst (List.mem_of_getElem? hp)
    exact ⟨p, vs, rfl, .inl (.inl hv)⟩
  refine tIA.use r1 e2 fun us H2 α2 n2 d2 r2 => ?_
  obtain ⟨p', ws, e5, hp', s, rp⟩ := rd_list r2.mem (n2.rd r1.mem d1) e3
  cases e5
  exact k r2.mem r2.tab hp' e3 s rp d2 e4 fun v H' n d => q _ _ α2 ((n1.trans r0.mem n2).trans r0.mem n) d
theorem s_mtw {m : MT} {rr : V → List V → Hp → VK → Prop} (k : MtOk X m rr) {id : String} {apos : Pos} {o : Expr} (slot : PySem.Slot "list" (mtNm m) id) (hty : typeOf (.builtin id) = pure (.type "method_descriptor")) (hm : MtR X id rr) (ho : PE X o (tI X fa)) (ha : PA X (e :: es) (tIA X fs)) (hbase : attributeBase o (mtNm m) X.env (eval o X.env) = eval o X.env)
    (hfew : ((backTo pos (starEach (e :: es) X.env)).all (fun x => !x.1) && (backToKw pos (keywordEach [] X.env)).all (fun x => x.1.isSome)
      && decide ((e :: es).length + ([] : List Keyword).length + (if ([] : List Keyword).isEmpty then 0 else 1) < 30)) = true)
    (hline : (apos.endLine == pos.line) = true) (hs : starEach (e :: es) X.env = (false, eval e X.env) :: starEach es X.env) (hplain : (backTo pos (starEach es X.env)).any (·.1) = false) :
    PE X (.Call (.Attribute o (mtNm m) apos) (e :: es) [] pos) (tI X (mtF m fa fs)) := by
  refine (pe_bm PySem.F.plainAttrs_list slot hty hm ho ha hbase hfew hline hs hplain).weak fun σ H Q h => ?_
  obtain ⟨ρ, M, α, d, M', r0, e, q⟩ := mt_weak k h
  refine ⟨ρ, M, α, d, M', r0, e, fun v H' α' n d' => ?_⟩
  obtain ⟨⟨p, xs, rfl, s⟩, z⟩ := q v H' α' n d'
  exact ⟨.inl ⟨rfl, xs, s⟩, z⟩
theorem s_mtw0 {m : MT} {rr : V → List V → Hp → VK → Prop} (k : MtOk X m rr) {id : String} {apos : Pos} {o : Expr} (slot : PySem.Slot "list" (mtNm m) id) (hty : typeOf (.builtin id) = pure (.type "method_descriptor")) (hm : MtR X id rr) (ho : PE X o (tI X fa)) (hbase : attributeBase o (mtNm m) X.env (eval o X.env) = eval o X.env)
    (hline : (apos.endLine == pos.line) = true) :
    PE X (.Call (.Attribute o (mtNm m) apos) [] [] pos) (tI X (mtF m fa fun _ M => some ([], M))) := by
  refine (pe_bm0 PySem.F.plainAttrs_list slot hty hm ho hbase hline).weak fun σ H Q h => ?_
  obtain ⟨ρ, M, α, d, M', r0, e, q⟩ := mt_weak k h
  refine ⟨ρ, M, α, d, M', r0, e, fun v H' α' n d' => ?_⟩
  obtain ⟨⟨p, xs, rfl, s⟩, ρ2, M2, α2, ds, M3, r2, e2, q2⟩ := q v H' α' n d'
  cases e2
  exact ⟨.inl ⟨rfl, xs, s⟩, q2 [] H' α2 (Nx.refl r2.mem r2.tab) trivial⟩
def okM : MT → Nat → Bool
  | .append, 1 | .popi, 1 | .extend, 1 | .remove, 1 | .insert, 2 | .pop, 0 | .reverse, 0 => true
  | _, _ => false
theorem s_mt {m : MT} {apos : Pos} {o : Expr} (hu : X.A.units + 65 < cLine) (hk : okM m (e :: es).length = true) (ho : PE X o (tI X fa)) (ha : PA X (e :: es) (tIA X fs)) (hbase : attributeBase o (mtNm m) X.env (eval o X.env) = eval o X.env)
    (hfew : ((backTo pos (starEach (e :: es) X.env)).all (fun x => !x.1) && (backToKw pos (keywordEach [] X.env)).all (fun x => x.1.isSome)
      && decide ((e :: es).length + ([] : List Keyword).length + (if ([] : List Keyword).isEmpty then 0 else 1) < 30)) = true)
    (hline : (apos.endLine == pos.line) = true) (hs : starEach (e :: es) X.env = (false, eval e X.env) :: starEach es X.env) (hplain : (backTo pos (starEach es X.env)).any (·.1) = false) :
    PE X (.Call (.Attribute o (mtNm m) apos) (e :: es) [] pos) (tI X (mtF m fa fs)) := by
  cases m
  · exact s_mtw mk_append PySem.F.slot_list_append PySem.F.type_list_append mt_append ho ha hbase hfew hline hs hplain
  · cases hk
  · exact s_mtw mk_popi PySem.F.slot_list_pop PySem.F.type_list_pop mt_popAt ho ha hbase hfew hline hs hplain
  · exact s_mtw mk_insert PySem.F.slot_list_insert PySem.F.type_list_insert mt_insert ho ha hbase hfew hline hs hplain
  · cases hk
  · cases hk
  · exact s_mtw mk_extend PySem.F.slot_list_extend PySem.F.type_list_extend mt_extend ho ha hbase hfew hline hs hplain
  · cases hk
  · exact s_mtw mk_remove PySem.F.slot_list_remove PySem.F.type_list_remove (mt_removeD hu) ho ha hbase hfew hline hs hplain
theorem s_mt0 {m : MT} {apos : Pos} {o : Expr} (hk : okM m 0 = true) (ho : PE X o (tI X fa)) (hbase : attributeBase o (mtNm m) X.env (eval o X.env) = eval o X.env)
    (hline : (apos.endLine == pos.line) = true) :
    PE X (.Call (.Attribute o (mtNm m) apos) [] [] pos) (tI X (mtF m fa fun _ M => some ([], M))) := by
  cases m <;> try (cases hk; done)
  · exact s_mtw0 mk_pop PySem.F.slot_list_pop PySem.F.type_list_pop mt_pop ho hbase hline
  · exact s_mtw0 mk_reverse PySem.F.slot_list_reverse PySem.F.type_list_reverse mt_reverse ho hbase hline
end
end IX
end

section
set_option Elab.async false
set_option autoImplicit false
set_option linter.all false
set_option maxRecDepth 100000
set_option maxHeartbeats 4000000
/-! t[::-1] of a tuple. -/
namespace IX
open PySem PySem.Spec PyProof.Rows L2 GX
open HT
section
variable {prog : Program} {w : World} {A : Around} {E : Value → Shared → Prop} {s : Shared}
theorem adjust_rev (n : Nat) : Builtin.Slice.sliceAdjust none none (-1) (n : Int) = ((n : Int) - 1, -1) := by rfl
theorem places_rev (n : Nat) : Builtin.Slice.slicePlaces ((n : Int) - 1) (-1) (-1) = n := by
  unfold Builtin.Slice.slicePlaces
  have h1 : ¬ ((-1 : Int) > 0) := by omega
  simp only [h1, if_false, Int.neg_neg, Int.ediv_one]
  split <;> omega
theorem sliceApplied_rev {sl : Addr} {vs : Value} {n : Nat} {Q : Int × Int × Nat → Shared → Prop} (hs : s.heap.IsSliceOf sl .none .none vs) (ps : IsPart vs (some (-1)))
    (h : Q ((n : Int) - 1, -1, n) s) : wpAny (model prog w) A (Builtin.Slice.sliceApplied (.ref sl) (pure (n : Int))) Q E s := by
  obtain ⟨os, hos, hcs, hds⟩ := id hs
  unfold Builtin.Slice.sliceApplied Builtin.Slice.sliceFields
  refine wpAny_bind (wpAny_bind (wpAny_field hos hds (x := .none) rfl (wpAny_bind (wpAny_field hos hds (x := .none) rfl (wpAny_bind (wpAny_field hos hds (x := vs) rfl (wpAny_pure ?_)))))))
  refine wpAny_bind (slicePart_ ps ?_)
  show wpAny _ _ (if ((-1 : Int) == 0) = true then _ else _) _ _ s
  rw [if_neg (by decide)]
  refine wpAny_bind (slicePart_none (wpAny_bind (slicePart_none (wpAny_bind (wpAny_pure ?_)))))
  show wpAny _ _ (match Builtin.Slice.sliceAdjust none none (-1) (n : Int) with | (lo, hi) => pure (lo, (-1 : Int), Builtin.Slice.slicePlaces lo hi (-1))) _ _ s
  rw [adjust_rev n]
  show wpAny _ _ (pure ((n : Int) - 1, (-1 : Int), Builtin.Slice.slicePlaces ((n : Int) - 1) (-1) (-1))) _ _ s
  rw [places_rev]
  exact wpAny_pure h
theorem fm_congr {A B : Type} {f g : A → Option B} : ∀ l : List A, (∀ x ∈ l, f x = g x) → l.filterMap f = l.filterMap g
  | [], _ => rfl
  | x :: l, h => by
    rw [List.filterMap_cons, List.filterMap_cons, h x List.mem_cons_self, fm_congr l fun y hy => h y (List.mem_cons_of_mem _ hy)]
theorem pick_rev (xs : Array Value) : ((List.range xs.size).filterMap fun (m : Nat) => xs[((xs.size : Int) - 1 + (m : Int) * -1).toNat]?).toArray = xs.toList.reverse.toArray := by
  have e : ((List.range xs.size).filterMap fun (m : Nat) => xs[((xs.size : Int) - 1 + (m : Int) * -1).toNat]?) = ((List.range xs.size).map fun k => xs.size - 1 - k).filterMap (xs[·]?) := by
    rw [List.filterMap_map]
    apply fm_congr
    intro m hm
    have := List.mem_range.mp hm
    show xs[((xs.size : Int) - 1 + (m : Int) * -1).toNat]? = xs[xs.size - 1 - m]?
    congr 1
    omega
  rw [e, PySem.W.krv_range, List.filterMap_reverse, PySem.W.krv_all]
theorem getItem_tuple_rev {t sl : Addr} {items : Array Value} {vs : Value} {Q : Value → Shared → Prop} (ht : IsTup s.heap t items) (hs : s.heap.IsSliceOf sl .none .none vs) (ps : IsPart vs (some (-1)))
    (h : Q (.ref s.heap.objs.size) { s with heap := s.heap.push { cls := .type "tuple", data := .seq items.toList.reverse.toArray } })
    (hsz : items.size ≤ sizeLine) : wpAny (model prog w) A (getItem (.ref t) (.ref sl)) Q E s := by
  have htake : sizeOk (.seq items.toList.reverse.toArray) := by
    show items.toList.reverse.toArray.size ≤ sizeLine
    rw [List.size_toArray, List.length_reverse, Array.length_toList]
    omega
  obtain ⟨os, hos, hcs, hds⟩ := id hs
  have hTs : s.TypeIs (.ref sl) "slice" := ⟨os, hos, hcs⟩
  unfold getItem
  try with_reducible refine wpAny_holding ?_
  first | refine wpAny_bind (wpAny_pure ?_) | skip
  refine wpAny_bind (wpAny_sequenceKey ht.typeIs (by decide) ?_)
  refine wpAny_bind (wpAny_callSpecial?_slot (name := Str.ofString "__getitem__") ht.typeIs PyProof.Rows.slot_tuple_getitem
    (wpAny_call_entry PyProof.Rows.slot_tuple_getitem ht.typeIs entry_tuple_getitem ?_ (args_tuple_getitem _ _)))
  show wpAny _ _ (Builtin.Tuple.tupleItemsOf (.ref t) >>= _) _ _ s
  refine wpAny_bind (tupleItemsOf_ ht ?_)
  refine wpAny_bind (wpAny_typeOf hTs ?_)
  rw [if_pos (by decide)]
  refine wpAny_bind (sliceApplied_rev hs ps ?_)
  have hno : ¬ ((((items.size : Int) - 1) == 0 && (-1 : Int) == 1 && items.size == items.size) = true) := by
    intro q
    rw [Bool.and_eq_true, Bool.and_eq_true] at q
    exact absurd q.1.2 (by decide)
  show wpAny _ _ (if (((items.size : Int) - 1) == 0 && (-1 : Int) == 1 && items.size == items.size) = true then _ else _) _ _ s
  rw [if_neg hno, pick_rev]
  first
    | exact wpAny_bind (m := Builtin.Tuple.tupleExact _) (wpAny_newObj_type (wpAny_pure ⟨_, rfl, wpAny_pure h⟩) htake)
    | exact wpAny_bind (m := Builtin.Tuple.tupleExact _) (wpAny_newObj_type (wpAny_bind (wpAny_pure (wpAny_pure ⟨_, rfl, wpAny_pure h⟩))) htake)
    | exact wpAny_bind (wpAny_bind (m := Builtin.Tuple.tupleExact _) (wpAny_newObj_type (wpAny_pure (wpAny_pure ⟨_, rfl, wpAny_pure h⟩)) htake))
    | exact wpAny_bind (wpAny_bind (m := Builtin.Tuple.tupleExact _) (wpAny_newObj_type (wpAny_pure ⟨_, rfl, wpAny_pure h⟩) htake))
end
section
variable {X : Cx}
/-- t[::-1] -/
def tRevT (K : PySem.W.Frag) (te : TE) : TE := fun σ H Q => te σ H fun x H1 => ∃ a xs, x = .ref a ∧ SqT K H1 a xs ∧ ∀ p, H1 p = none → Q (.ref p) (upd H1 p (.tup xs.reverse))
theorem pe_revT {e : Expr} {te : TE} {k : Nat} {p1 p2 p3 pos : Pos} (he : PE X e te) : PE X (.Subscript e (.Slice none none (some (.UnaryOp .USub (.Constant (.int 1) k p1) p2)) p3) pos) (tRevT X.K te) := by
  refine ⟨fun pins s σ H Q I h => ?_⟩
  refine Subscript_ (thn (he.run pins s σ H _ I h) fun v s1 ⟨x, H1, I1, r1, q1⟩ => ?_)
  obtain ⟨a, xs, ex, hx, q⟩ := q1
  subst ex
  cases r1
  have hst : PO X (some (.UnaryOp .USub (.Constant (.int 1) k p1) p2)) (tPart (tUn (rU fun i => .int (-i)) (tC (.int 1)))) := po_some (pe_un un_neg pe_int)
  refine wpAny_Slice (thn (po_none.run pins s1 σ H1 (fun o H2 => o = none ∧ H2 = H1) I1 ⟨rfl, rfl⟩) fun vl s2 ⟨l, H2, I2, pl, el, e2⟩ => ?_)
  subst el e2
  refine thn (po_none.run pins s2 σ H2 (fun o H3 => o = none ∧ H3 = H2) I2 ⟨rfl, rfl⟩) fun vu s3 ⟨u, H3, I3, pu, eu, e3⟩ => ?_
  subst eu e3
  refine thn (hst.run pins s3 σ H3 (fun o H4 => o = some (-1) ∧ H4 = H3) I3 ⟨1, rfl, -1, rfl, rfl, rfl⟩) fun vs s4 ⟨o, H4, I4, ps, eo, e4⟩ => ?_
  subst eo e4
  have I5 : Inv X pins σ H4 { s4 with heap := s4.heap.push { cls := .type "slice", data := .fields #[vl, vu, vs] } } := I4.kept (t' := s4.toks) fun b ob q => Heap.get?_push_of_some _ q
  obtain ⟨its, r, ht, hz⟩ := I5.tuple hx
  have hlen : its.toArray.size = xs.length := by rw [List.size_toArray]; exact r.length.symm
  cases pl
  cases pu
  show wpAny (model X.prog X.w) X.A (subscriptTail e (.Slice none none (some (.UnaryOp .USub (.Constant (.int 1) k p1) p2)) p3) (.ref a) (.ref s4.heap.objs.size)) (EP X pins σ Q) X.xe { s4 with heap := s4.heap.push { cls := .type "slice", data := .fields #[.none, .none, vs] } }
  refine tail_any (ops := [.ref a, .ref s4.heap.objs.size]) ht.typeIs PyProof.Rows.slot_tuple_getitem.lookup ?_ (by with_unfolding_all rfl)
  refine getItem_tuple_rev ht (Heap.IsSliceOf.new _ .none .none vs) ps ?_ (by rw [hlen]; exact hz)
  refine ⟨.ref _, _, I5.laid (t' := s4.toks) (o := .tup xs.reverse) (fun b ob q => Heap.get?_push_of_some _ q) (Nat.le_refl _) ?_, rfl, q _ (I5.hok.fresh (Nat.le_refl _))⟩
  exact ⟨by rw [List.length_reverse]; exact hz, _, r.reverse, IsTup.new _ _⟩
theorem s_rev {a : Expr} {fa : Env → Mem → Option (D × Mem)} {k : Nat} {p1 p2 p3 pos : Pos} (ha : PE X a (tI X fa)) : PE X (.Subscript a (.Slice none none (some (.UnaryOp .USub (.Constant (.int 1) k p1) p2)) p3) pos) (tI X fun ρ M => do
    let (x, M) ← fa ρ M
    bfun .rv [x] M) := (pe_revT ha).weak fun σ H Q h => by
  obtain ⟨ρ, M, α, d, M', r0, e, q⟩ := h
  obtain ⟨⟨x, M1⟩, e1, e⟩ := ob e
  refine tI.use r0 e1 fun v H1 α1 n1 d1 r1 => ?_
  dsimp only at e
  unfold bfun at e
  split at e <;> try contradiction
  rename_i l hx
  cases hx
  obtain ⟨rfl, rfl⟩ := one_some e
  obtain ⟨p, vs, rfl, s, rp⟩ := rd_tuple d1
  exact ⟨p, vs, rfl, s, new_tup r1.mem r1.tab rp.rev fun w H' α' n d => q w H' α' (n1.trans r0.mem n) d⟩
end
end IX
end

section
set_option Elab.async false
set_option autoImplicit false
set_option linter.all false
set_option maxRecDepth 100000
set_option maxHeartbeats 4000000
/-! Targets, statements, loops. -/
namespace IX
open PySem PySem.Spec PyProof.Rows L2 GX
/-- outside is the slots nothing is stored -/
def Same (is : List Nat) (σ σ' : L2.St) : Prop := σ'.length = σ.length ∧ ∀ i, i ∉ is → σ'[i]? = σ[i]?
theorem Same.trans {is js : List Nat} {σ σ1 σ2 : L2.St} (a : Same is σ σ1) (b : Same js σ1 σ2) : Same (is ++ js) σ σ2 := ⟨b.1.trans a.1, fun i h => by
  rw [List.mem_append, not_or] at h
  exact (b.2 i h.2).trans (a.2 i h.1)⟩
theorem Same.set (i : Nat) (v : Option V) (σ : L2.St) : Same [i] σ (σ.set i v) := ⟨by simp, fun j h => by
  rw [List.getElem?_set_ne]
  intro e; exact h (by simp [e])⟩
theorem wipe_get (σ : L2.St) : ∀ (vs : List Nat) (i : Nat), (wipe σ vs)[i]? = if i ∈ vs then (if i < σ.length then some none else none) else σ[i]?
  | [], i => by simp [wipe]
  | v :: vs, i => by
    have ih := wipe_get σ vs i
    have hl := wipe_length σ vs
    show ((wipe σ vs).set v none)[i]? = _
    by_cases h : v = i
    · subst h
      by_cases hv : v < σ.length
      · rw [List.getElem?_set_self (by rw [hl]; exact hv)]; simp [hv]
      · rw [List.getElem?_eq_none (by rw [List.length_set, hl]; omega)]; simp [hv]
    · rw [List.getElem?_set_ne h, ih]
      have : (i ∈ v :: vs) ↔ i ∈ vs := by simp [Ne.symm h]
      simp only [this]
theorem Same.wipe {is vs : List Nat} {σ σ' : L2.St} (h : Same is (wipe σ vs) σ') (hs : ∀ i ∈ is, i ∈ vs) : wipe σ' vs = wipe σ vs := by
  refine List.ext_getElem? fun i => ?_
  have hl : σ'.length = σ.length := h.1.trans (wipe_length σ vs)
  rw [wipe_get, wipe_get, hl]
  by_cases hi : i ∈ vs
  · rw [if_pos hi, if_pos hi]
  · rw [if_neg hi, if_neg hi, h.2 i (fun z => hi (hs i z)), wipe_get, if_neg hi]
theorem REnv.set {K : PySem.W.Frag} {H : Hp} {α : List Addr} {ρ : Env} {σ : L2.St} {d : D} {v : V} (e : REnv K H α ρ σ) (r : RD K H α d v) (i : Nat) : REnv K H α (ρ.set i (some d)) (σ.set i (some v)) := ⟨by simp [e.len], fun j d' h => by
  by_cases hj : i = j
  · subst hj
    by_cases hl : i < ρ.length
    · rw [List.getElem?_set_self hl] at h
      cases h
      exact ⟨v, by rw [List.getElem?_set_self (by rw [← e.len]; exact hl)], r⟩
    · rw [List.getElem?_eq_none (by simpa using hl)] at h; cases h
  · rw [List.getElem?_set_ne hj] at h
    obtain ⟨w, h1, h2⟩ := e.cell j d' h
    exact ⟨w, by rw [List.getElem?_set_ne hj]; exact h1, h2⟩⟩
theorem REnv.wipe {K : PySem.W.Frag} {H : Hp} {α : List Addr} {ρ : Env} {σ : L2.St} (e : REnv K H α ρ σ) : ∀ vs : List Nat, REnv K H α (wipeE ρ vs) (wipe σ vs)
  | [] => e
  | v :: vs => by
    have ih := REnv.wipe e vs
    refine ⟨by show ((wipeE ρ vs).set v none).length = ((L2.wipe σ vs).set v none).length; simp [ih.len], fun j d h => ?_⟩
    have h : ((wipeE ρ vs).set v none)[j]? = some (some d) := h
    show ∃ u, ((L2.wipe σ vs).set v none)[j]? = some (some u) ∧ _
    by_cases hj : v = j
    · subst hj
      by_cases hl : v < (wipeE ρ vs).length
      · rw [List.getElem?_set_self hl] at h; cases h
      · rw [List.getElem?_eq_none (by simpa using hl)] at h; cases h
    · rw [List.getElem?_set_ne hj] at h ⊢
      exact ih.cell j d h
/-- a target's reading, a datum stored -/
def tGp (X : Cx) (t : T) : TG := fun v σ H Q => ∃ ρ M α x ρ', RS X σ H ρ M α ∧ RP X.K H α x v ∧ t.put x ρ = some ρ' ∧ ∀ σ', REnv X.K H α ρ' σ' → Same t.slots σ σ' → Q σ' H
def tGs (X : Cx) (ts : List T) : TGs := fun vs σ H Q => ∃ ρ M α xs ρ', RS X σ H ρ M α ∧ RPs X.K H α xs vs ∧ T.puts ts xs ρ = some ρ' ∧ ∀ σ', REnv X.K H α ρ' σ' → Same (T.slotss ts) σ σ' → Q σ' H
def tGd (X : Cx) (t : T) : TG := fun v σ H Q => ∃ ρ M α d ρ', RS X σ H ρ M α ∧ RD X.K H α d v ∧ t.putD d ρ = some ρ' ∧ ∀ σ', REnv X.K H α ρ' σ' → Same t.slots σ σ' → Q σ' H
theorem _root_.L2.PG.weak {X : Cx} {e : Expr} {t t' : TG} (h : PG X e t) (w : ∀ v σ H Q, t' v σ H Q → t v σ H Q) : PG X e t' := ⟨fun pins s σ H v u Q I r q => h.run pins s σ H v u Q I r (w v σ H Q q)⟩
theorem _root_.L2.PGs.weak {X : Cx} {e : List Expr} {t t' : TGs} (h : PGs X e t) (w : ∀ v σ H Q, t' v σ H Q → t v σ H Q) : PGs X e t' := ⟨fun pins s σ H v u Q I r q => h.run pins s σ H v u Q I r (w v σ H Q q)⟩
section
variable {X : Cx} {pos : Pos} {e : Expr} {es : List Expr}
theorem g_nm {i : Nat} {x : Str} (hN : X.N.Nodup) (hi : X.N[i]? = some x) (hx : Loc X.env.scope x) (hf : X.fn x = true ∨ X.env.scope.names.lookup x = some .local) : PG X (.Name x pos) (tGp X (.nm i)) := (pg_name hN hi hx hf).weak fun v σ H Q h => by
  obtain ⟨ρ, M, α, x, ρ', r, rp, hp, q⟩ := h
  simp only [T.put] at hp
  split at hp <;> try contradiction
  cases hp
  exact q _ (r.env.set (d := .p x) rp i) (Same.set i _ σ)
theorem g_nmD {i : Nat} {x : Str} (hN : X.N.Nodup) (hi : X.N[i]? = some x) (hx : Loc X.env.scope x) (hf : X.fn x = true ∨ X.env.scope.names.lookup x = some .local) : PG X (.Name x pos) (tGd X (.nm i)) := (pg_name hN hi hx hf).weak fun v σ H Q h => by
  obtain ⟨ρ, M, α, d, ρ', r, rp, hp, q⟩ := h
  simp only [T.putD] at hp
  split at hp <;> try contradiction
  cases hp
  exact q _ (r.env.set rp i) (Same.set i _ σ)
theorem gs_nil : PGs X [] (tGs X []) := pgs_nil.weak fun vs σ H Q h => by
  obtain ⟨ρ, M, α, xs, ρ', r, rp, hp, q⟩ := h
  cases xs with
  | nil =>
    cases hp
    exact ⟨rps_nil rp, q σ r.env ⟨rfl, fun _ _ => rfl⟩⟩
  | cons _ _ => cases hp
theorem gs_cons {t : T} {ts : List T} (h1 : PG X e (tGp X t)) (h2 : PGs X es (tGs X ts)) (hs : (assignEach (e :: es) X.env).map (·.2) = assign e X.env :: (assignEach es X.env).map (·.2)) : PGs X (e :: es) (tGs X (t :: ts)) := (pgs_cons h1 h2 hs).weak fun vs σ H Q h => by
  obtain ⟨ρ, M, α, xs, ρ', r, rp, hp, q⟩ := h
  cases xs with
  | nil => cases hp
  | cons x xs =>
    cases vs with
    | nil => exact absurd (rps_nil2 rp) (by simp)
    | cons v vs =>
      unfold RPs at rp
      obtain ⟨ρ1, e1, e2⟩ := Option.bind_eq_some_iff.mp (show (T.put t x ρ).bind (fun ρ' => T.puts ts xs ρ') = some ρ' from hp)
      refine ⟨v, vs, rfl, ρ, M, α, x, ρ1, r, rp.1, e1, fun σ1 h1 s1 => ?_⟩
      refine ⟨ρ1, M, α, xs, ρ', r.with h1, rp.2, e2, fun σ2 h2 s2 => ?_⟩
      exact q σ2 h2 (s1.trans s2)
theorem puts_len : ∀ {ts : List T} {xs : List P} {ρ ρ' : Env}, T.puts ts xs ρ = some ρ' → xs.length = ts.length
  | [], [], _, _, _ => rfl
  | t :: ts, x :: xs, ρ, ρ', h => by
    obtain ⟨ρ1, e1, e2⟩ := Option.bind_eq_some_iff.mp (show (T.put t x ρ).bind (fun ρ' => T.puts ts xs ρ') = some ρ' from h)
    rw [List.length_cons, List.length_cons, puts_len e2]
  | [], _ :: _, _, _, h => by cases h
  | _ :: _, [], _, _, h => by cases h
theorem g_tp {ts : List T} {k : Nat} (hc : X.calm = true) (h : PGs X es (tGs X ts)) (hn : (assignEach es X.env).length = ts.length) (hst : (assignEach es X.env).findIdx? (·.1) = none) : PG X (.Tuple es k pos) (tGp X (.tp ts)) := (pg_tup hc h hn hst).weak fun v σ H Q h => by
  obtain ⟨ρ, M, α, x, ρ', r, rp, hp, q⟩ := h
  cases x with
  | tup l =>
    have hp : T.puts ts l ρ = some ρ' := hp
    obtain ⟨a, vs, rfl, s, rs⟩ := rd_tuple (α := α) (show RD X.K H α (.p (.tup l)) v from rp)
    exact ⟨a, vs, rfl, s, by rw [← rs.length]; exact puts_len hp, ρ, M, α, l, ρ', r, rs, hp, q⟩
  | _ => cases hp
theorem g_tpD {ts : List T} (h : PG X e (tGp X (.tp ts))) : PG X e (tGd X (.tp ts)) := h.weak fun v σ H Q h => by
  obtain ⟨ρ, M, α, d, ρ', r, rp, hp, q⟩ := h
  cases d with
  | p x => exact ⟨ρ, M, α, x, ρ', r, rp, hp, q⟩
  | _ => cases hp
/-! ### statements -/
/-- what is said of an exception that leaves: the classes' fields; the wish -/
structure Ex where
  L : List (Str × List Str)
  out : WX
/-- an exception: its class c, its fields xs -/
def XR (L : List (Str × List Str)) (mg : Str → Option Value) (K : PySem.W.Frag) (H : Hp) (α : List Addr) (c : Str) (xs : List P) (cls : Value) (d : Option Addr) : Prop :=
  ∃ (C : Addr) (fl : List Str), L.lookup c = some fl ∧ mg c = some (.ref C) ∧ cls = .ref C ∧ fl.length = xs.length ∧ (fl ≠ [] → ∃ (dd : Addr) (fs : List (Str × V)), d = some dd ∧ H dd = some (.xd fs) ∧
    ∀ (j : Nat) (f : Str) (x : P), fl[j]? = some f → xs[j]? = some x → ∃ v, fs.lookup f = some v ∧ RP K H α x v)
def EndsI (X : Cx) (Y : Ex) (α : List Addr) (H : Hp) (D : Ends) : Out → Prop
  | .xc c xs M' => ∀ cls d σ' H' α', Nx X.K α H α' H' M' → XR Y.L X.mg X.K H' α' c xs cls d → Y.out cls d σ' H'
  | .nx ρ' M' => ∀ σ' H' α', Nx X.K α H α' H' M' → REnv X.K H' α' ρ' σ' → D.nx σ' H'
  | .bk ρ' M' => ∀ σ' H' α', Nx X.K α H α' H' M' → REnv X.K H' α' ρ' σ' → D.bk σ' H'
  | .ct ρ' M' => ∀ σ' H' α', Nx X.K α H α' H' M' → REnv X.K H' α' ρ' σ' → D.ct σ' H'
  | .rt d M' => ∀ v H' α', Nx X.K α H α' H' M' → RD X.K H' α' d v → D.rt v H'
theorem EndsI.step {Y : Ex} {α α1 : List Addr} {H H1 : Hp} {M M1 : Mem} {D : Ends} {o : Out} (m : RM X.K H α M) (n : Nx X.K α H α1 H1 M1) (h : EndsI X Y α H D o) : EndsI X Y α1 H1 D o := by
  cases o with
  | nx ρ' M' => exact fun σ' H' α' n' e => h σ' H' α' (n.trans m n') e
  | bk ρ' M' => exact fun σ' H' α' n' e => h σ' H' α' (n.trans m n') e
  | ct ρ' M' => exact fun σ' H' α' n' e => h σ' H' α' (n.trans m n') e
  | rt ρ' M' => exact fun σ' H' α' n' e => h σ' H' α' (n.trans m n') e
  | xc c xs M' => exact fun cls d σ' H' α' n' e => h cls d σ' H' α' (n.trans m n') e
variable {Y : Ex}
def tS (X : Cx) (Y : Ex) (f : Env → Mem → Option Out) : TS := fun D σ H => ∃ ρ M α o, RS X σ H ρ M α ∧ f ρ M = some o ∧ EndsI X Y α H D o
variable {f g : Env → Mem → Option Out} {fa fb fc : Env → Mem → Option (D × Mem)} {ga : Env → Mem → Option (Bool × Mem)} {fs : Env → Mem → Option (List D × Mem)} {st : Stmt} {sts : List Stmt}
theorem ss_nil : PSs X [] (tS X Y fun ρ M => some (.nx ρ M)) := pss_nil.weak fun D σ H h => by
  obtain ⟨ρ, M, α, o, r, e, q⟩ := h
  cases e
  exact q σ H α (Nx.refl r.mem r.tab) r.env
theorem ss_cons (h1 : PS X st (tS X Y f)) (h2 : PSs X sts (tS X Y g)) : PSs X (st :: sts) (tS X Y fun ρ M => do
    match ← f ρ M with
    | .nx ρ M => g ρ M
    | o => some o) := (pss_cons h1 h2).weak fun D σ H h => by
  obtain ⟨ρ, M, α, o, r, e, q⟩ := h
  obtain ⟨o1, e1, e⟩ := ob e
  refine ⟨ρ, M, α, o1, r, e1, ?_⟩
  cases o1 with
  | nx ρ1 M1 =>
    intro σ' H' α' n re
    exact ⟨ρ1, M1, α', o, (r.step n).with re, e, q.step r.mem n⟩
  | bk ρ1 M1 => cases e; exact q
  | ct ρ1 M1 => cases e; exact q
  | rt d M1 => cases e; exact q
  | xc c xs M1 => cases e; exact q
theorem s_pas : PS X (.Pass pos) (tS X Y fun ρ M => some (.nx ρ M)) := ps_pass.weak fun D σ H h => by
  obtain ⟨ρ, M, α, o, r, e, q⟩ := h
  cases e
  exact q σ H α (Nx.refl r.mem r.tab) r.env
theorem s_doc {x : Str} {j : Nat} {pos' : Pos} : PS X (.Expr (.Constant (.str x) j pos) pos') (tS X Y fun ρ M => some (.nx ρ M)) := ps_doc.weak fun D σ H h => by
  obtain ⟨ρ, M, α, o, r, e, q⟩ := h
  cases e
  exact q σ H α (Nx.refl r.mem r.tab) r.env
theorem s_brk : PS X (.Break pos) (tS X Y fun ρ M => some (.bk ρ M)) := ps_break.weak fun D σ H h => by
  obtain ⟨ρ, M, α, o, r, e, q⟩ := h
  cases e
  exact q σ H α (Nx.refl r.mem r.tab) r.env
theorem s_cnt : PS X (.Continue pos) (tS X Y fun ρ M => some (.ct ρ M)) := ps_continue.weak fun D σ H h => by
  obtain ⟨ρ, M, α, o, r, e, q⟩ := h
  cases e
  exact q σ H α (Nx.refl r.mem r.tab) r.env
theorem s_ret (he : PE X e (tI X fa)) : PS X (.Return (some e) pos) (tS X Y fun ρ M => do
    let (d, M) ← fa ρ M
    some (.rt d M)) := (ps_ret he).weak fun D σ H h => by
  obtain ⟨ρ, M, α, o, r, e, q⟩ := h
  obtain ⟨⟨d, M1⟩, e1, e⟩ := ob e
  cases e
  exact ⟨ρ, M, α, d, M1, r, e1, q⟩
theorem s_retn : PS X (.Return none pos) (tS X Y fun _ M => some (.rt (.p .non) M)) := ps_retN.weak fun D σ H h => by
  obtain ⟨ρ, M, α, o, r, e, q⟩ := h
  cases e
  exact q .non H α (Nx.refl r.mem r.tab) rfl
theorem s_ex (he : PE X e (tI X fa)) (hs : swapsWith e none pos.line X.env = pure false) : PS X (.Expr e pos) (tS X Y fun ρ M => do
    let (_, M) ← fa ρ M
    some (.nx ρ M)) := (ps_expr he hs).weak fun D σ H h => by
  obtain ⟨ρ, M, α, o, r, e, q⟩ := h
  obtain ⟨⟨d, M1⟩, e1, e⟩ := ob e
  cases e
  exact tI.use r e1 fun v H' α' n _ r1 => q σ H' α' n r1.env
theorem s_if {a b : List Stmt} {c : Expr} (hc : PT X c (tIT X ga)) (ha : PSs X a (tS X Y f)) (hb : PSs X b (tS X Y g)) : PS X (.If c a b pos) (tS X Y fun ρ M => do
    let (c, M) ← ga ρ M
    if c then f ρ M else g ρ M) := (ps_if hc ha hb).weak fun D σ H h => by
  obtain ⟨ρ, M, α, o, r, e, q⟩ := h
  obtain ⟨⟨b, M1⟩, e1, e⟩ := ob e
  refine tIT.use r e1 fun H1 α1 n1 r1 => ?_
  cases b with
  | true => exact ⟨ρ, M1, α1, o, r1, e, q.step r.mem n1⟩
  | false => exact ⟨ρ, M1, α1, o, r1, e, q.step r.mem n1⟩
def setF (t : T) (fa : Env → Mem → Option (D × Mem)) : Env → Mem → Option Out := fun ρ M => do
    let (d, M) ← fa ρ M
    let ρ' ← t.putD d ρ
    some (.nx ρ' M)
theorem asg_of {te : TE} {t : T} {Dn : Ends} {σ : L2.St} {H : Hp} (ht : ∀ Q, tI X fa σ H Q → te σ H Q) (h : tS X Y (setF t fa) Dn σ H) : tAsg te (tGd X t) Dn σ H := by
  obtain ⟨ρ, M, α, o, r, e, q⟩ := h
  obtain ⟨⟨d, M1⟩, e1, e⟩ := ob e
  obtain ⟨ρ', e2, e⟩ := ob e
  cases e
  refine ht _ (tI.use r e1 fun v H' α' n rd r1 => ?_)
  exact ⟨ρ, M1, α', d, ρ', r1, rd, e2, fun σ' re _ => q σ' H' α' n re⟩
theorem gname_of {te : TE} {i : Nat} {Dn : Ends} {σ : L2.St} {H : Hp} (ht : ∀ Q, tI X fa σ H Q → te σ H Q) (h : tS X Y (setF (.nm i) fa) Dn σ H) : tAsg te (gName i) Dn σ H := by
  obtain ⟨ρ, M, α, o, r, e, q⟩ := h
  obtain ⟨⟨d, M1⟩, e1, e⟩ := ob e
  obtain ⟨ρ', e2, e⟩ := ob e
  cases e
  refine ht _ (tI.use r e1 fun v H' α' n rd r1 => ?_)
  simp only [T.putD] at e2
  split at e2 <;> try contradiction
  cases e2
  exact q _ H' α' n (r1.env.set rd i)
theorem s_set {i : Nat} {x : Str} {pos' : Pos} (hN : X.N.Nodup) (hi : X.N[i]? = some x) (hx : Loc X.env.scope x) (he : PE X e (tI X fa)) (hs : swapsWith e (some (.Name x pos')) pos.line X.env = pure false) (hf : X.fn x = true ∨ X.env.scope.names.lookup x = some .local) :
    PS X (.Assign [.Name x pos'] e pos) (tS X Y (setF (.nm i) fa)) := (ps_set hN hi hx he hs hf).weak fun D σ H h => gname_of (fun _ q => q) h
theorem s_asg {t : T} {tg : Expr} (he : PE X e (tI X fa)) (hg : PG X tg (tGd X t)) (hs : swapsWithSole [tg] e pos.line X.env = pure false) (hw : swappedStores [tg] e X.env = pure none)
    (h1 : (assignEach [tg] X.env).map (·.2) = [assign tg X.env]) : PS X (.Assign [tg] e pos) (tS X Y (setF t fa)) := (ps_asg he hg hs hw h1).weak fun D σ H h => asg_of (fun _ q => q) h
theorem s_par {i j : Nat} {x y : Str} {a b : Expr} {px py pt : Pos} {kt k2 : Nat} {pt2 : Pos} (hc : X.calm = true) (hN : X.N.Nodup) (hi : X.N[i]? = some x) (hj : X.N[j]? = some y) (hij : i ≠ j)
    (hx : X.env.scope.names.lookup x = some .local) (hy : X.env.scope.names.lookup y = some .local) (ha : PA X [a, b] (tIA X fs))
    (hw : swappedStores [.Tuple [.Name x px, .Name y py] kt pt] (.Tuple [a, b] k2 pt2) X.env = pure (some [x, y]))
    (hs : swapsWithSole [.Tuple [.Name x px, .Name y py] kt pt] (.Tuple [a, b] k2 pt2) pos.line X.env = pure false) :
    PS X (.Assign [.Tuple [.Name x px, .Name y py] kt pt] (.Tuple [a, b] k2 pt2) pos) (tS X Y fun ρ M => do
      let (ds, M) ← fs ρ M
      let ρ' ← parE [i, j] ds ρ
      some (.nx ρ' M)) := (ps_par hc hN hi hj hij hx hy ha hw hs).weak fun D σ H h => by
  obtain ⟨ρ, M, α, o, r, e, q⟩ := h
  obtain ⟨⟨ds, M1⟩, e1, e⟩ := ob e
  obtain ⟨ρ', e2, e⟩ := ob e
  cases e
  refine tIA.use r e1 fun vs H' α' n rd r1 => ?_
  match ds, e2, rd with
  | [d1, d2], e2, rd =>
    obtain ⟨v, w, rfl, h1, h2⟩ := rds2 rd
    simp only [parE, List.length_set] at e2
    split at e2 <;> try contradiction
    split at e2 <;> try contradiction
    cases e2
    exact ⟨v, w, rfl, q _ H' α' n ((r1.env.set h1 i).set h2 j)⟩
  | [], e2, _ => cases e2
  | [_], e2, _ =>
    simp only [parE] at e2
    split at e2 <;> cases e2
  | _ :: _ :: _ :: _, e2, _ =>
    simp only [parE, List.length_set] at e2
    split at e2 <;> try contradiction
    split at e2 <;> cases e2
theorem s_par3 {i j l : Nat} {x y z : Str} {a b c : Expr} {px py pz pt : Pos} {kt k2 : Nat} {pt2 : Pos} (hc : X.calm = true) (hN : X.N.Nodup) (hi : X.N[i]? = some x) (hj : X.N[j]? = some y) (hl : X.N[l]? = some z) (hij : i ≠ j) (hil : i ≠ l) (hjl : j ≠ l)
    (hx : X.env.scope.names.lookup x = some .local) (hy : X.env.scope.names.lookup y = some .local) (hz : X.env.scope.names.lookup z = some .local) (ha : PA X [a, b, c] (tIA X fs))
    (hw : swappedStores [.Tuple [.Name x px, .Name y py, .Name z pz] kt pt] (.Tuple [a, b, c] k2 pt2) X.env = pure (some [x, y, z]))
    (hs : swapsWithSole [.Tuple [.Name x px, .Name y py, .Name z pz] kt pt] (.Tuple [a, b, c] k2 pt2) pos.line X.env = pure false) :
    PS X (.Assign [.Tuple [.Name x px, .Name y py, .Name z pz] kt pt] (.Tuple [a, b, c] k2 pt2) pos) (tS X Y fun ρ M => do
      let (ds, M) ← fs ρ M
      let ρ' ← parE [i, j, l] ds ρ
      some (.nx ρ' M)) := (ps_par3 hc hN hi hj hl hij hil hjl hx hy hz ha hw hs).weak fun D σ H h => by
  obtain ⟨ρ, M, α, o, r, e, q⟩ := h
  obtain ⟨⟨ds, M1⟩, e1, e⟩ := ob e
  obtain ⟨ρ', e2, e⟩ := ob e
  cases e
  refine tIA.use r e1 fun vs H' α' n rd r1 => ?_
  match ds, e2, rd with
  | [d1, d2, d3], e2, rd =>
    match vs, rd with
    | [v, w, u], rd =>
      obtain ⟨h1, h2, h3, _⟩ := rd
      simp only [parE, List.length_set] at e2
      split at e2 <;> try contradiction
      split at e2 <;> try contradiction
      split at e2 <;> try contradiction
      cases e2
      exact ⟨v, w, u, rfl, q _ H' α' n (((r1.env.set h1 i).set h2 j).set h3 l)⟩
    | [], rd => exact rd.elim
    | [_], rd => exact rd.2.elim
    | [_, _], rd => exact rd.2.2.elim
    | _ :: _ :: _ :: _ :: _, rd => exact rd.2.2.2.elim
  | [], e2, _ => cases e2
  | [_], e2, _ =>
    simp only [parE] at e2
    split at e2 <;> cases e2
  | [_, _], e2, _ =>
    simp only [parE, List.length_set] at e2
    split at e2 <;> try contradiction
    split at e2 <;> cases e2
  | _ :: _ :: _ :: _ :: _, e2, _ =>
    simp only [parE, List.length_set] at e2
    split at e2 <;> try contradiction
    split at e2 <;> try contradiction
    split at e2 <;> cases e2
theorem seti_ok {K : PySem.W.Frag} {H : Hp} {α : List Addr} {xs ys : List P} {vs : List V} {i : Int} {x : P} {v : V} (r : RPs K H α xs vs) (rv : RP K H α x v) (h : seti xs i x = some ys) : ∃ j, ixN vs.length i = some j ∧ RPs K H α ys (vs.set j v) := by
  unfold seti at h
  obtain ⟨j, e1, rfl⟩ := Option.map_eq_some_iff.mp h
  rw [pix_eq, r.length] at e1
  exact ⟨j, e1, r.set rv⟩
theorem s_seti {o i : Expr} {pt : Pos} (he : PE X e (tI X fa)) (ho : PE X o (tI X fb)) (hi : PE X i (tI X fc))
    (ha : ∀ v, assign (.Subscript o i pt) X.env v = (do
      let ov ← holding [v] (eval o X.env)
      let iv ← holding [v, ov] (eval i X.env)
      standAt pt
      holding [v, ov, iv] (setItem ov iv v)
      release [v, ov, iv] []))
    (hs : swapsWithSole [.Subscript o i pt] e pos.line X.env = pure false) (hw : swappedStores [.Subscript o i pt] e X.env = pure none) (h1 : (assignEach [.Subscript o i pt] X.env).map (·.2) = [assign (.Subscript o i pt) X.env]) :
    PS X (.Assign [.Subscript o i pt] e pos) (tS X Y fun ρ M => do
      let (d, M) ← fa ρ M
      let (x, M) ← fb ρ M
      let (k, M) ← fc ρ M
      match x, k, d with
      | .p (.ref j), .p (.int k), .p v => do
        let xs ← M[j]?
        let ys ← seti xs k v
        some (.nx ρ (M.set j ys))
      | _, _, _ => none) := (ps_asg he (pg_sub ho hi set_list ha) hs hw h1).weak fun D σ H h => by
  obtain ⟨ρ, M, α, o, r, e, q⟩ := h
  obtain ⟨⟨d, M1⟩, e1, e⟩ := ob e
  obtain ⟨⟨x, M2⟩, e2, e⟩ := ob e
  obtain ⟨⟨k, M3⟩, e3, e⟩ := ob e
  dsimp only at e
  split at e <;> try contradiction
  obtain ⟨xs, e4, e⟩ := ob e
  obtain ⟨ys, e5, e⟩ := ob e
  cases e
  refine tI.use r e1 fun v H1 α1 n1 d1 r1 => tI.use r1 e2 fun w H2 α2 n2 d2 r2 => tI.use r2 e3 fun u H3 α3 n3 d3 r3 => ?_
  obtain ⟨p, vs, rfl, hp, s, rp⟩ := rd_list r3.mem (n3.rd r2.mem d2) e4
  obtain ⟨j, hj, rp'⟩ := seti_ok rp (show RP _ _ _ _ v from n3.rd r2.mem (n2.rd r1.mem d1)) e5
  have nn := Nx.write r3.mem r3.tab hp e4 rp'
  exact ⟨p, vs, _, j, rfl, rd_int d3, s, hj, q σ _ α3 (((n1.trans r.mem n2).trans r.mem n3).trans r.mem nn) (nn.env r3.mem r3.env)⟩
theorem augop_ok {o : BO} {x y : D} {z : P} (h : augop o x y = some z) : (o = .add ∧ ∃ a b, x = .p (.int a) ∧ y = .p (.int b) ∧ z = .int (a + b)) ∨ (o = .sub ∧ ∃ a b, x = .p (.int a) ∧ y = .p (.int b) ∧ z = .int (a - b)) ∨ (o = .mul ∧ ∃ a b, x = .p (.int a) ∧ y = .p (.int b) ∧ mulOk a b = true ∧ z = .int (a * b)) := by
  unfold augop at h
  split at h <;> try contradiction
  · cases h; exact .inl ⟨rfl, _, _, rfl, rfl, rfl⟩
  · cases h; exact .inr (.inl ⟨rfl, _, _, rfl, rfl, rfl⟩)
  · split at h <;> try contradiction
    rename_i hm
    cases h; exact .inr (.inr ⟨rfl, _, _, rfl, rfl, hm, rfl⟩)
def augTI : BO → TIp
  | .add => ipI fun i j => i + j
  | .sub => ipI fun i j => i - j
  | .mul => fun x y H Q => ∃ i j, x = .int i ∧ y = .int j ∧ IntMulOk i j ∧ Q (.int (i * j)) H
  | _ => fun _ _ _ _ => False
def boOp : BO → Operator
  | .add => .Add | .sub => .Sub | .mul => .Mult | .fdiv => .FloorDiv | .mod => .Mod | .pow => .Pow
theorem ip_mulO {X : Cx} : PIp X .Mult fun x y H Q => ∃ i j, x = .int i ∧ y = .int j ∧ IntMulOk i j ∧ Q (.int (i * j)) H := by
  intro pins s σ H x y v u Q I r1 r2 h
  obtain ⟨i, j, e1, e2, hm, q⟩ := h
  subst e1; subst e2
  obtain ⟨t, rfl⟩ := r1
  obtain ⟨t', rfl⟩ := r2
  exact imul_int ⟨.int _, H, I.tok _, ⟨_, rfl⟩, q⟩ hm
theorem aug_pip (o : BO) : PIp X (boOp o) (augTI o) := by
  cases o
  · exact ip_add
  · exact ip_sub
  · exact ip_mulO
  all_goals exact fun _ _ _ _ _ _ _ _ _ _ _ _ h => h.elim
theorem aug_ti {K : PySem.W.Frag} {H : Hp} {α : List Addr} {o : BO} {x y : D} {z : P} {v u : V} {Q : VK} (h : augop o x y = some z) (rx : RD K H α x v) (ry : RD K H α y u) (q : ∀ w, RD K H α (.p z) w → Q w H) : augTI o v u H Q := by
  rcases augop_ok h with ⟨rfl, a, b, rfl, rfl, rfl⟩ | ⟨rfl, a, b, rfl, rfl, rfl⟩ | ⟨rfl, a, b, rfl, rfl, hm, rfl⟩
  · exact ⟨a, b, rx, ry, q _ (by exact rfl)⟩
  · exact ⟨a, b, rx, ry, q _ (by exact rfl)⟩
  · exact ⟨a, b, rx, ry, mulOk_ok hm, q _ (by exact rfl)⟩
theorem s_aug {i : Nat} {x : Str} {o : BO} {pos' : Pos} (hN : X.N.Nodup) (hi : X.N[i]? = some x) (hx : Loc X.env.scope x) (he : PE X e (tI X fa)) (hf : X.fn x = true ∨ X.env.scope.names.lookup x = some .local) :
    PS X (.AugAssign (.Name x pos') (boOp o) e pos) (tS X Y fun ρ M => do
      match ρ[i]? with
      | some (some x) => do
        let (y, M) ← fa ρ M
        let z ← augop o x y
        some (.nx (ρ.set i (some (.p z))) M)
      | _ => none) := (ps_aug hN hi hx he (aug_pip o) hf).weak fun D σ H h => by
  obtain ⟨ρ, M, α, o', r, e, q⟩ := h
  dsimp only at e
  split at e <;> try contradiction
  rename_i x hx
  obtain ⟨⟨y, M1⟩, e1, e⟩ := ob e
  obtain ⟨z, e2, e⟩ := ob e
  cases e
  obtain ⟨v, e3, rv⟩ := r.env.cell i x hx
  refine ⟨v, e3, tI.use r e1 fun u H1 α1 n1 d1 r1 => ?_⟩
  exact aug_ti e2 (n1.rd r.mem rv) d1 fun w rw_ => q _ H1 α1 n1 (r1.env.set (d := .p z) rw_ i)
/-- xs[i], by values -/
def rGetL (K : PySem.W.Frag) : V → V → Hp → VK → Prop := fun x y H Q => ∃ p xs i v, x = .ref p ∧ y = .int i ∧ SqL K H p xs ∧ atI xs i = some v ∧ Q v H
theorem get_list : PGet X (rGetL X.K) := by
  intro pins s σ H x y v u Q I rx ry h
  obtain ⟨p, xs, i, z, rfl, rfl, hq, he, q⟩ := h
  cases rx
  obtain ⟨t, rfl⟩ := ry
  obtain ⟨its, r, pl, hz⟩ := I.list hq
  obtain ⟨j, h1, h2, h3, h4, h5⟩ := atI_get he
  obtain ⟨w, ew, rw'⟩ := r.get h2
  have hl := r.length
  have hn := line63
  have fin : EP X pins σ Q w s := ⟨z, H, I, rw', q⟩
  by_cases h0 : 0 ≤ i
  · have hj : i.toNat = j := by
      rw [seqIndex_of h0 h5] at h1
      exact Option.some.inj h1
    exact wpAny_getItem_list pl.isList h0 (by omega) (by rw [hj]; simpa using ew) fin
  · have hj : (i + (its.toArray.size : Int)).toNat = j := by
      rw [seqIndex_neg (by omega) h4] at h1
      rw [List.size_toArray, ← hl]
      exact Option.some.inj h1
    exact wpAny_getItem_list_neg pl.isList (by omega) (by rw [List.size_toArray] <;> omega) (by omega) (by rw [hj]; simpa using ew) fin
theorem s_augi {a i : Expr} {o : BO} {pt : Pos} (ho : PE X a (tI X fa)) (hi : PE X i (tI X fb)) (he : PE X e (tI X fc))
    (ha : ∀ ov iv new, augStore i ov iv new = (do holding [new, ov, iv] (setItem ov iv new); release [new, ov, iv] []; pure .next)) :
    PS X (.AugAssign (.Subscript a i pt) (boOp o) e pos) (tS X Y fun ρ M => do
      let (x, M) ← fa ρ M
      let (k, M) ← fb ρ M
      let old ← index x k M
      let (y, M) ← fc ρ M
      let z ← augop o (.p old) y
      match x, k with
      | .p (.ref j), .p (.int k) => do
        let xs ← M[j]?
        let ys ← seti xs k z
        some (.nx ρ (M.set j ys))
      | _, _ => none) := (ps_augS ho hi get_list he (aug_pip o) set_list ha).weak fun D σ H h => by
  obtain ⟨ρ, M, α, o', r, e, q⟩ := h
  obtain ⟨⟨x, M1⟩, e1, e⟩ := ob e
  obtain ⟨⟨k, M2⟩, e2, e⟩ := ob e
  obtain ⟨old, e3, e⟩ := ob e
  obtain ⟨⟨y, M3⟩, e4, e⟩ := ob e
  obtain ⟨z, e5, e⟩ := ob e
  split at e <;> try contradiction
  obtain ⟨xs, e6, e⟩ := ob e
  obtain ⟨ys, e7, e⟩ := ob e
  cases e
  refine tI.use r e1 fun v H1 α1 n1 d1 r1 => tI.use r1 e2 fun w H2 α2 n2 d2 r2 => ?_
  obtain ⟨xs0, e8, e9⟩ := Option.bind_eq_some_iff.mp (show (items M2 (.p (.ref _))).bind _ = some old from e3)
  obtain ⟨p, vs, rfl, hp, s, rp⟩ := rd_list r2.mem (n2.rd r1.mem d1) e8
  obtain ⟨ov, e10, rov⟩ := atx_ok rp e9
  refine ⟨p, vs, _, ov, rfl, rd_int d2, .inl (.inl s), e10, ?_⟩
  refine tI.use r2 e4 fun u H3 α3 n3 d3 r3 => ?_
  refine aug_ti e5 (n3.rd r2.mem (d := .p old) rov) d3 fun zv rz => ?_
  obtain ⟨p', vs', e11, hp', s', rp'⟩ := rd_list r3.mem (n3.rd r2.mem (n2.rd r1.mem d1)) e6
  cases e11
  obtain ⟨j, hj, rp2⟩ := seti_ok rp' (show RP _ _ _ _ zv from rz) e7
  have nn := Nx.write r3.mem r3.tab hp' e6 rp2
  exact ⟨p, vs', _, j, rfl, rd_int d2, s', hj, q σ _ α3 (((n1.trans r.mem n2).trans r.mem n3).trans r.mem nn) (nn.env r3.mem r3.env)⟩
/-- while -/
theorem s_while {c : Expr} {N : Nat} (hp : PassesOwn (model X.prog X.w) X.A X.env X.xe) (hc : PT X c (tIT X ga)) (hb : PSs X sts (tS X Y f)) : PS X (.While c sts [] pos) (tS X Y (whileL ga f N)) := (ps_while hp hc hb).weak fun D σ H h => by
  obtain ⟨ρ, M, α, o, r, e, q⟩ := h
  refine ⟨fun m σ1 H1 => ∃ ρ1 M1 α1, RS X σ1 H1 ρ1 M1 α1 ∧ Nx X.K α H α1 H1 M1 ∧ whileL ga f m ρ1 M1 = some o, ⟨N, ρ, M, α, r, Nx.refl r.mem r.tab, e⟩, ?_⟩
  rintro m σ1 H1 ⟨ρ1, M1, α1, r1, n1, e⟩
  cases m with
  | zero => cases e
  | succ m =>
    obtain ⟨⟨b, M2⟩, e1, e⟩ := ob (show (do
      let (b, M) ← ga ρ1 M1
      if b then
        match ← f ρ1 M with
        | .nx ρ M => whileL ga f m ρ M
        | .ct ρ M => whileL ga f m ρ M
        | .bk ρ M => some (.nx ρ M)
        | .rt d M => some (.rt d M)
        | .xc c xs M => some (.xc c xs M)
      else some (.nx ρ1 M)) = some o from e)
    refine tIT.use r1 e1 fun H2 α2 n2 r2 => ?_
    have n12 := n1.trans r.mem n2
    cases b with
    | false =>
      cases e
      exact q σ1 H2 α2 n12 r2.env
    | true =>
      obtain ⟨o1, e2, e⟩ := ob e
      refine ⟨fun σ' H' => ∃ ρ1 M1 α1, RS X σ' H' ρ1 M1 α1 ∧ Nx X.K α H α1 H' M1 ∧ whileL ga f m ρ1 M1 = some o, fun σ' H' h => ⟨m, Nat.lt_succ_self m, h⟩, ρ1, M2, α2, o1, r2, e2, ?_⟩
      cases o1 with
      | nx ρ3 M3 => exact fun σ' H' α' n re => ⟨ρ3, M3, α', (r2.step n).with re, n12.trans r.mem n, e⟩
      | ct ρ3 M3 => exact fun σ' H' α' n re => ⟨ρ3, M3, α', (r2.step n).with re, n12.trans r.mem n, e⟩
      | bk ρ3 M3 => cases e; exact fun σ' H' α' n re => q σ' H' α' (n12.trans r.mem n) re
      | rt d M3 => cases e; exact fun v H' α' n rd => q v H' α' (n12.trans r.mem n) rd
      | xc c xs M3 => cases e; exact fun cls d σ' H' α' n rx => q cls d σ' H' α' (n12.trans r.mem n) rx
end
end IX
end

section
set_option Elab.async false
set_option autoImplicit false
set_option linter.all false
set_option maxRecDepth 100000
set_option maxHeartbeats 4000000
/-! What a loop walks; for; list comprehensions. -/
namespace IX
open PySem PySem.Spec PyProof.Rows L2 GX RZ
theorem grow_own {H : Hp} {D : Addr} {zs : List V} : Grow [D] H (upd H D (.lst zs)) := fun b o e => by
  by_cases hb : b = D
  · exact .inl (by simp [hb])
  · exact .inr (.inl (by rw [upd_ne hb]; exact e))
theorem na_own {H : Hp} {D : Addr} {acc : List V} (h : H D = some (.lst acc)) : ∀ b ∈ [D], ∃ xs, H b = some (.lst xs) := fun b hb => by
  rw [List.mem_singleton.mp hb]; exact ⟨acc, h⟩
def nos : D → Bool
  | .scr _ => false
  | _ => true
theorem rd_own {K : PySem.W.Frag} {H : Hp} {α : List Addr} {c : Addr} {acc zs : List V} {d : D} {v : V} (h : H c = some (.lst acc)) (hn : nos d = true) (r : RD K H α d v) : RD K (upd H c (.lst zs)) α d v := by
  cases d with
  | p x => exact RP.grow (na_own h) grow_own (Pre.refl _) x v r
  | scr xs => cases hn
theorem rm_own {K : PySem.W.Frag} {H : Hp} {α : List Addr} {M : Mem} {D : Addr} {acc zs : List V} (m : RM K H α M) (h : H D = some (.lst acc)) (hn : D ∉ α) : RM K (upd H D (.lst zs)) α M := ⟨m.nd, m.len, fun i a xs e1 e2 => by
  obtain ⟨vs, q, r⟩ := m.cell i a xs e1 e2
  refine ⟨vs, ?_, RPs.grow (na_own h) grow_own (Pre.refl _) _ _ r⟩
  rw [upd_ne]
  · exact q
  · intro z; exact hn (by rw [← z]; exact List.mem_of_getElem? e1)⟩
theorem env_own {K : PySem.W.Frag} {H : Hp} {α : List Addr} {ρ : Env} {σ : L2.St} {D : Addr} {acc zs : List V} (e : REnv K H α ρ σ) (h : H D = some (.lst acc)) (hn : noScr ρ = true) : REnv K (upd H D (.lst zs)) α ρ σ := ⟨e.len, fun i d hd => by
  obtain ⟨v, q, r⟩ := e.cell i d hd
  refine ⟨v, q, rd_own h ?_ r⟩
  have := List.all_eq_true.mp hn _ (List.mem_of_getElem? hd)
  cases d <;> first | rfl | cases this⟩
theorem Nx.own {K : PySem.W.Frag} {H0 H : Hp} {α0 α : List Addr} {M : Mem} {D : Addr} {acc zs : List V} (n : Nx K α0 H0 α H M) (h0 : H0 D = none) (hD : D ∉ α) (e : H D = some (.lst acc)) : Nx K α0 H0 α (upd H D (.lst zs)) M := by
  refine ⟨fun b o hb => ?_, n.ext, rm_own n.mem e hD, tabPut n.tab (.inr ⟨acc, e⟩) fun ps z => by cases z⟩
  have hne : b ≠ D := fun z => by rw [z, h0] at hb; cases hb
  rcases n.grow b o hb with q | q | ⟨q, ps, q'⟩
  · exact .inl q
  · exact .inr (.inl (by rw [upd_ne hne]; exact q))
  · exact .inr (.inr ⟨q, ps, by rw [upd_ne hne]; exact q'⟩)
theorem Nx.notin {K : PySem.W.Frag} {H H' : Hp} {α α' : List Addr} {M' : Mem} {D : Addr} {o : HO} (n : Nx K α H α' H' M') (hD : D ∉ α) (e : H D = some o) : D ∉ α' := fun z => by
  obtain ⟨β, e1, f1⟩ := n.ext
  rw [e1] at z
  rcases List.mem_append.mp z with z | z
  · exact hD z
  · rw [f1 D z] at e; cases e
theorem Nx.keepD {K : PySem.W.Frag} {H H' : Hp} {α α' : List Addr} {M M' : Mem} {D : Addr} {acc : List V} (n : Nx K α H α' H' M') (m : RM K H α M) (hD : D ∉ α) (e : H D = some (.lst acc)) : H' D = some (.lst acc) :=
  grow_at (fun b hb => m.lst hb) n.grow e hD fun ps z => by cases z
theorem Nx.pre {K : PySem.W.Frag} {H H' : Hp} {α α' : List Addr} {M' : Mem} (n : Nx K α H α' H' M') : Pre α α' := by
  obtain ⟨β, e, _⟩ := n.ext
  rw [e]; exact Pre.app α β
theorem Nx.rps {K : PySem.W.Frag} {H H' : Hp} {α α' : List Addr} {M M' : Mem} (n : Nx K α H α' H' M') (m : RM K H α M) {xs : List P} {vs : List V} (r : RPs K H α xs vs) : RPs K H' α' xs vs := RPs.grow (fun b hb => m.lst hb) n.grow n.pre xs vs r
theorem Nx.adopt {K : PySem.W.Frag} {H0 H : Hp} {α0 α : List Addr} {M : Mem} {D : Addr} {vs : List V} {xs : List P} (n : Nx K α0 H0 α H M) (h0 : H0 D = none) (hD : D ∉ α) (e : H D = some (.lst vs)) (r : RPs K H α xs vs) : Nx K α0 H0 (α ++ [D]) H (M ++ [xs]) := by
  obtain ⟨β, e1, f1⟩ := n.ext
  refine ⟨n.grow, ⟨β ++ [D], by rw [e1, List.append_assoc], fun b hb => ?_⟩, ⟨?_, by simp [n.mem.len], fun i a ys a1 a2 => ?_⟩, n.tab⟩
  · rcases List.mem_append.mp hb with z | z
    · exact f1 b z
    · rw [List.mem_singleton.mp z]; exact h0
  · refine List.nodup_append.mpr ⟨n.mem.nd, by simp, fun a ha b hb => ?_⟩
    rw [List.mem_singleton.mp hb]
    exact fun z => hD (by rw [← z]; exact ha)
  · by_cases hi : i < α.length
    · rw [List.getElem?_append_left hi] at a1
      rw [List.getElem?_append_left (by rw [← n.mem.len]; exact hi)] at a2
      obtain ⟨ws, q, r'⟩ := n.mem.cell i a ys a1 a2
      exact ⟨ws, q, RPs.grow (α := []) (fun b hb => by simp at hb) (Grow.refl _) (Pre.app _ _) _ _ r'⟩
    · have hi' : i = α.length := by
        have := (List.getElem?_eq_some_iff.mp a1).1
        simp at this; omega
      subst hi'
      rw [List.getElem?_append_right (Nat.le_refl _)] at a1
      rw [List.getElem?_append_right (by rw [n.mem.len]; exact Nat.le_refl _)] at a2
      simp at a1
      simp [n.mem.len] at a2
      subst a1; subst a2
      exact ⟨vs, e, RPs.grow (α := []) (fun b hb => by simp at hb) (Grow.refl _) (Pre.app _ _) _ _ r⟩
structure ItOk (K : PySem.W.Frag) (J : It) (s : Src) (In : Hp → List Addr → Prop) : Prop where
  step : ∀ H α M H' α' M', In H α → RM K H α M → Nx K α H α' H' M' → In H' α'
  atI : ∀ H α M i x, In H α → RM K H α M → TabAll H → s.ok M = true → s.xs[i]? = some x → J.go i H ∧ ∀ v H', J.yld i H v H' → Nx K α H α H' M ∧ RP K H' α x v
  own : s.fr = true → ∀ (H : Hp) (α : List Addr) (M : Mem) (c : Addr) (acc zs : List V), In H α → RM K H α M → H c = some (.lst acc) → c ∉ α → In (upd H c (.lst zs)) α
  fin : ∀ H α M i, In H α → RM K H α M → TabAll H → s.ok M = true → s.xs.length ≤ i → J.stop i H
def iS (X : Cx) (k : IK) (fs : Env → Mem → Option (List D × Mem)) : TI := fun σ H R => ∃ ρ M α ds s M', RS X σ H ρ M α ∧ fs ρ M = some (ds, M') ∧ src k ds M' = some s ∧
  ∀ J H' α' In, Nx X.K α H α' H' M' → ItOk X.K J s In → In H' α' → s.ok M' = true → R J H'
theorem all1 {A : Type} {p : A → Bool} {a : A} (h : p a = true) : [a].all p = true := by simp [h]
theorem asSrc_ok {M : Mem} {d : D} {s : Src} (h : asSrc M d = some s) : s.ok M = true ∧ ∀ M', s.ok M' = true → items M' d = some s.xs := by
  unfold asSrc at h
  split at h <;> try contradiction
  · cases h; exact ⟨rfl, fun _ _ => rfl⟩
  · obtain ⟨xs, e, rfl⟩ := Option.map_eq_some_iff.mp h
    refine ⟨by simp [Src.ok, e], fun M' h' => ?_⟩
    show M'[_]? = _
    simpa [Src.ok] using h'
  · cases h; exact ⟨rfl, fun _ _ => rfl⟩
theorem asSrc_list {M M' : Mem} {d : D} {s : Src} (h : asSrc M d = some s) (hn : ∀ l, d ≠ .p (.tup l)) (ho : s.ok M' = true) : itemsL M' d = some s.xs := by
  have := (asSrc_ok h).2 M' ho
  cases d with
  | p x =>
    cases x with
    | tup l => exact absurd rfl (hn l)
    | ref i => exact this
    | _ => cases h
  | scr xs => exact this
theorem asSrc_nos {M : Mem} {d : D} {s : Src} (h : asSrc M d = some s) (hf : s.fr = true) : nos d = true := by
  cases d with
  | scr xs => cases h; cases hf
  | _ => rfl
theorem it_list {K : PySem.W.Frag} {M0 : Mem} {d : D} {s : Src} {a : Addr} (h : asSrc M0 d = some s) (hn : ∀ l, d ≠ .p (.tup l)) : ItOk K (Itl K a) s fun H α => RD K H α d (.ref a) := by
  refine ⟨fun H α M H' α' M' r m n => n.rd m r, fun H α M i x r m t ho hx => ?_, fun hf H α M D acc zs r m e _ => rd_own e (asSrc_nos h hf) r, fun H α M i r m t ho hx => ?_⟩
  · obtain ⟨b, vs, e, q, rp⟩ := itemsL_rd m r (asSrc_list h hn ho)
    cases e
    obtain ⟨v, hv, rv⟩ := rp.get hx
    refine ⟨⟨vs, v, q, hv⟩, fun w H' ⟨e1, e2⟩ => ?_⟩
    subst e1
    have := e2 vs q
    rw [hv] at this; cases this
    exact ⟨Nx.refl m t, rv⟩
  · obtain ⟨b, vs, e, q, rp⟩ := itemsL_rd m r (asSrc_list h hn ho)
    cases e
    exact ⟨vs, q, by rw [← rp.length]; exact hx⟩
theorem it_tup {K : PySem.W.Frag} {l : List P} {a : Addr} : ItOk K (Itt K a) ⟨l, [], true⟩ fun H α => RD K H α (.p (.tup l)) (.ref a) := by
  refine ⟨fun H α M H' α' M' r m n => n.rd m r, fun H α M i x r m t ho hx => ?_, fun hf H α M D acc zs r m e _ => rd_own e rfl r, fun H α M i r m t ho hx => ?_⟩
  · obtain ⟨b, vs, e, q, rp⟩ := rd_tuple r
    cases e
    obtain ⟨v, hv, rv⟩ := rp.get hx
    refine ⟨⟨vs, v, q, hv⟩, fun w H' ⟨e1, e2⟩ => ?_⟩
    subst e1
    have := e2 vs q
    rw [hv] at this; cases this
    exact ⟨Nx.refl m t, rv⟩
  · obtain ⟨b, vs, e, q, rp⟩ := rd_tuple r
    cases e
    exact ⟨vs, q, by rw [← rp.length]; exact hx⟩
theorem it_rng {K : PySem.W.Frag} (lo : Int) (n : Nat) : ItOk K (Itr lo n) ⟨rangeP lo n, [], true⟩ fun _ _ => True := by
  refine ⟨fun _ _ _ _ _ _ _ _ _ => trivial, fun H α M i x _ m t _ hx => ?_, fun _ _ _ _ _ _ _ _ _ _ _ => trivial, fun H α M i _ m t _ hx => ?_⟩
  · have hx : (rangeP lo n)[i]? = some x := hx
    rw [rangeP_eq] at hx
    rw [List.getElem?_map] at hx
    obtain ⟨k, e1, e2⟩ := Option.map_eq_some_iff.mp hx
    obtain ⟨h1, h2⟩ := List.getElem?_eq_some_iff.mp e1
    rw [List.getElem_range] at h2
    rw [List.length_range] at h1
    subst h2
    refine ⟨h1, fun w H' ⟨e3, e4⟩ => ?_⟩
    subst e3
    refine ⟨Nx.refl m t, ?_⟩
    rw [← e2, e4]
    rfl
  · show n ≤ i
    have hx : (rangeP lo n).length ≤ i := hx
    rw [rangeP_eq] at hx
    simpa using hx
theorem enumP_get : ∀ (xs : List P) (k i : Nat), (enumP k xs)[i]? = (xs[i]?).map fun x => P.tup [.int ((k + i : Nat) : Int), x]
  | [], k, i => by simp [enumP]
  | x :: xs, k, 0 => by simp [enumP]
  | x :: xs, k, i + 1 => by
    have := enumP_get xs (k + 1) i
    simp only [enumP, List.getElem?_cons_succ, this]
    rw [show k + 1 + i = k + (i + 1) from by omega]
theorem enumP_len : ∀ (xs : List P) (k : Nat), (enumP k xs).length = xs.length
  | [], _ => rfl
  | x :: xs, k => by simp [enumP, enumP_len xs]
theorem rp_pair {K : PySem.W.Frag} {H : Hp} {α : List Addr} {x y : P} {v w : V} {p : Addr} (h : H p = none) (rx : RP K H α x v) (ry : RP K H α y w) : RP K (upd H p (.tup [v, w])) α (.tup [x, y]) (.ref p) := by
  unfold RP
  refine ⟨p, _, rfl, .inl (.inl (upd_same ..)), ?_⟩
  have g := fun (z : P) (u : V) (r : RP K H α z u) => RP.grow (α := []) (fun b hb => by simp at hb) (grow_new (o := .tup [v, w]) h) (Pre.refl _) z u r
  unfold RPs
  refine ⟨g _ _ rx, ?_⟩
  unfold RPs
  refine ⟨g _ _ ry, ?_⟩
  unfold RPs
  trivial
theorem it_enm {K : PySem.W.Frag} {M0 : Mem} {d : D} {s : Src} {a : Addr} (h : asSrc M0 d = some s) (hn : ∀ l, d ≠ .p (.tup l)) : ItOk K (Ite K a) ⟨enumP 0 s.xs, s.ls, s.fr⟩ fun H α => RD K H α d (.ref a) := by
  refine ⟨fun H α M H' α' M' r m n => n.rd m r, fun H α M i x r m t ho hx => ?_, fun hf H α M D acc zs r m e _ => rd_own e (asSrc_nos h hf) r, fun H α M i r m t ho hx => ?_⟩
  · obtain ⟨b, vs, e, q, rp⟩ := itemsL_rd m r (asSrc_list h hn (show s.ok M = true from ho))
    cases e
    have hx : (enumP 0 s.xs)[i]? = some x := hx
    rw [enumP_get] at hx
    obtain ⟨y, e1, e2⟩ := Option.map_eq_some_iff.mp hx
    obtain ⟨v, hv, rv⟩ := rp.get e1
    refine ⟨⟨vs, v, q, hv⟩, fun w H' ⟨T, z, e3, e4, e5, e6⟩ => ?_⟩
    have := e6 vs q
    rw [hv] at this; cases this
    subst e5; subst e3
    refine ⟨Nx.new m t e4 (fun ps z => by cases z), ?_⟩
    rw [← e2, Nat.zero_add]
    exact rp_pair e4 (by unfold RP; rfl) rv
  · obtain ⟨b, vs, e, q, rp⟩ := itemsL_rd m r (asSrc_list h hn (show s.ok M = true from ho))
    cases e
    have hx : (enumP 0 s.xs).length ≤ i := hx
    rw [enumP_len] at hx
    exact ⟨vs, q, by rw [← rp.length]; exact hx⟩
theorem it_enmT {K : PySem.W.Frag} {l : List P} {a : Addr} : ItOk K (E1.IteT K a) ⟨enumP 0 l, [], true⟩ fun H α => RD K H α (.p (.tup l)) (.ref a) := by
  refine ⟨fun H α M H' α' M' r m n => n.rd m r, fun H α M i x r m t ho hx => ?_, fun hf H α M D acc zs r m e _ => rd_own e rfl r, fun H α M i r m t ho hx => ?_⟩
  · obtain ⟨b, vs, e, q, rp⟩ := rd_tuple r
    cases e
    have hx : (enumP 0 l)[i]? = some x := hx
    rw [enumP_get] at hx
    obtain ⟨y, e1, e2⟩ := Option.map_eq_some_iff.mp hx
    obtain ⟨v, hv, rv⟩ := rp.get e1
    refine ⟨⟨vs, v, q, hv⟩, fun w H' ⟨T, z, e3, e4, e5, e6⟩ => ?_⟩
    have := e6 vs q
    rw [hv] at this; cases this
    subst e5; subst e3
    refine ⟨Nx.new m t e4 (fun ps z => by cases z), ?_⟩
    rw [← e2, Nat.zero_add]
    exact rp_pair e4 (by unfold RP; rfl) rv
  · obtain ⟨b, vs, e, q, rp⟩ := rd_tuple r
    cases e
    have hx : (enumP 0 l).length ≤ i := hx
    rw [enumP_len] at hx
    exact ⟨vs, q, by rw [← rp.length]; exact hx⟩
theorem zipP_get : ∀ (xs ys : List P) (i : Nat), (zipP xs ys)[i]? = (xs[i]?).bind fun x => (ys[i]?).map fun y => P.tup [x, y]
  | [], _, i => by simp [zipP]
  | x :: xs, [], i => by simp [zipP]
  | x :: xs, y :: ys, 0 => by simp [zipP]
  | x :: xs, y :: ys, i + 1 => by simp [zipP, zipP_get xs ys i]
theorem zipP_len : ∀ (xs ys : List P), (zipP xs ys).length = min xs.length ys.length
  | [], _ => by simp [zipP]
  | x :: xs, [] => by simp [zipP]
  | x :: xs, y :: ys => by simp [zipP, zipP_len xs ys]
theorem ok_app {s t : Src} {M : Mem} {xs : List P} {b : Bool} : (Src.mk xs (s.ls ++ t.ls) b).ok M = (s.ok M && t.ok M) := by
  simp [Src.ok]
theorem it_zip {K : PySem.W.Frag} {M0 : Mem} {d e : D} {s t : Src} {a b : Addr} (h : asSrc M0 d = some s) (h' : asSrc M0 e = some t) (hn : ∀ l, d ≠ .p (.tup l)) (hn' : ∀ l, e ≠ .p (.tup l)) :
    ItOk K (Itz K a b) ⟨zipP s.xs t.xs, s.ls ++ t.ls, s.fr && t.fr⟩ fun H α => RD K H α d (.ref a) ∧ RD K H α e (.ref b) := by
  refine ⟨fun H α M H' α' M' r m n => ⟨n.rd m r.1, n.rd m r.2⟩, fun H α M i x r m tt ho hx => ?_, fun hf H α M D acc zs r m e _ => ?_, fun H α M i r m tt ho hx => ?_⟩
  rotate_left
  · have hf : (s.fr && t.fr) = true := hf
    rw [Bool.and_eq_true] at hf
    exact ⟨rd_own e (asSrc_nos h hf.1) r.1, rd_own e (asSrc_nos h' hf.2) r.2⟩
  rotate_left
  · rw [ok_app, Bool.and_eq_true] at ho
    obtain ⟨_, vs, e1, q1, rp1⟩ := itemsL_rd m r.1 (asSrc_list h hn ho.1)
    obtain ⟨_, us, e2, q2, rp2⟩ := itemsL_rd m r.2 (asSrc_list h' hn' ho.2)
    cases e1; cases e2
    have hx : (zipP s.xs t.xs)[i]? = some x := hx
    rw [zipP_get] at hx
    obtain ⟨x1, f1, hx⟩ := Option.bind_eq_some_iff.mp hx
    obtain ⟨y1, f2, rfl⟩ := Option.map_eq_some_iff.mp hx
    obtain ⟨v, hv, rv⟩ := rp1.get f1
    obtain ⟨u, hu, ru⟩ := rp2.get f2
    refine ⟨⟨vs, us, v, u, q1, q2, hv, hu⟩, fun w H' ⟨T, z, z', e3, e4, e5, e6, e7⟩ => ?_⟩
    have g1 := e6 vs q1
    have g2 := e7 us q2
    rw [hv] at g1; cases g1
    rw [hu] at g2; cases g2
    subst e5; subst e3
    exact ⟨Nx.new m tt e4 (fun ps z => by cases z), rp_pair e4 rv ru⟩
  · rw [ok_app, Bool.and_eq_true] at ho
    obtain ⟨_, vs, e1, q1, rp1⟩ := itemsL_rd m r.1 (asSrc_list h hn ho.1)
    obtain ⟨_, us, e2, q2, rp2⟩ := itemsL_rd m r.2 (asSrc_list h' hn' ho.2)
    cases e1; cases e2
    have hx : (zipP s.xs t.xs).length ≤ i := hx
    rw [zipP_len, rp1.length, rp2.length] at hx
    exact ⟨vs, us, q1, q2, by omega⟩
theorem it_zipT {K : PySem.W.Frag} {xs ys : List P} {a b : Addr} :
    ItOk K (ItzT K a b) ⟨zipP xs ys, [], true⟩ fun H α => RD K H α (.p (.tup xs)) (.ref a) ∧ RD K H α (.p (.tup ys)) (.ref b) := by
  refine ⟨fun H α M H' α' M' r m n => ⟨n.rd m r.1, n.rd m r.2⟩, fun H α M i x r m tt ho hx => ?_, fun hf H α M D acc zs r m e _ => ⟨rd_own e rfl r.1, rd_own e rfl r.2⟩, fun H α M i r m tt ho hx => ?_⟩
  · obtain ⟨_, vs, e1, q1, rp1⟩ := rd_tuple r.1
    obtain ⟨_, us, e2, q2, rp2⟩ := rd_tuple r.2
    cases e1; cases e2
    have hx : (zipP xs ys)[i]? = some x := hx
    rw [zipP_get] at hx
    obtain ⟨x1, f1, hx⟩ := Option.bind_eq_some_iff.mp hx
    obtain ⟨y1, f2, rfl⟩ := Option.map_eq_some_iff.mp hx
    obtain ⟨v, hv, rv⟩ := rp1.get f1
    obtain ⟨u, hu, ru⟩ := rp2.get f2
    refine ⟨⟨vs, us, v, u, q1, q2, hv, hu⟩, fun w H' ⟨T, z, z', e3, e4, e5, e6, e7⟩ => ?_⟩
    have g1 := e6 vs q1
    have g2 := e7 us q2
    rw [hv] at g1; cases g1
    rw [hu] at g2; cases g2
    subst e5; subst e3
    exact ⟨Nx.new m tt e4 (fun ps z => by cases z), rp_pair e4 rv ru⟩
  · obtain ⟨_, vs, e1, q1, rp1⟩ := rd_tuple r.1
    obtain ⟨_, us, e2, q2, rp2⟩ := rd_tuple r.2
    cases e1; cases e2
    have hx : (zipP xs ys).length ≤ i := hx
    rw [zipP_len, rp1.length, rp2.length] at hx
    exact ⟨vs, us, q1, q2, by omega⟩
section
variable {X : Cx} {tg e e2 : Expr} {pos p : Pos} {fa : Env → Mem → Option (D × Mem)} {fs : Env → Mem → Option (List D × Mem)}
def one1 (fa : Env → Mem → Option (D × Mem)) : Env → Mem → Option (List D × Mem) := fun ρ M => do
  let (x, M) ← fa ρ M
  let (xs, M) ← some ([], M)
  some (x :: xs, M)
theorem one1_ok {ρ : Env} {M M' : Mem} {ds : List D} (h : one1 fa ρ M = some (ds, M')) : ∃ d, ds = [d] ∧ fa ρ M = some (d, M') := by
  obtain ⟨⟨d, M1⟩, e1, h⟩ := ob h
  cases h
  exact ⟨d, rfl, e1⟩
theorem i_seq (he : PE X e (tI X fa)) : PI X tg e (iS X .seq (one1 fa)) := by
  refine ⟨fun pins s0 σ H R I h => ?_⟩
  obtain ⟨ρ, M, α, ds, s, M', r, e1, e2, q⟩ := h
  obtain ⟨d, rfl, e3⟩ := one1_ok e1
  have e2 : asSrc M' d = some s := e2
  have ho := (asSrc_ok e2).1
  by_cases hd : ∃ l, d = .p (.tup l)
  · obtain ⟨l, rfl⟩ := hd
    cases e2
    refine (pi_tup he).run pins s0 σ H R I (tI.use r e3 fun v H' α' n rd r1 => ?_)
    obtain ⟨a, vs, rfl, s, rp⟩ := rd_tuple rd
    exact ⟨a, rfl, ⟨vs, s⟩, q _ H' α' _ n it_tup rd ho⟩
  · have hn : ∀ l, d ≠ .p (.tup l) := fun l z => hd ⟨l, z⟩
    refine (pi_list he).run pins s0 σ H R I (tI.use r e3 fun v H' α' n rd r1 => ?_)
    obtain ⟨a, vs, rfl, s, rp⟩ := itemsL_rd r1.mem rd (asSrc_list e2 hn ho)
    exact ⟨a, rfl, ⟨vs, s⟩, q _ H' α' _ n (it_list e2 hn) rd ho⟩
theorem small_ok {i : Int} (h : small i = true) : -(2 ^ 62) ≤ i ∧ i < 2 ^ 62 := by
  unfold small at h
  simpa only [Bool.and_eq_true, decide_eq_true_eq] using h
theorem i_rng1 (hg : Gl X "range") (hm : X.mg "range" = none) (ha : PA X [e] (tIA X fs)) (hs : starEach [e] X.env = [(false, eval e X.env)]) (h1 : ∀ ρ M ds M', fs ρ M = some (ds, M') → ds.length = 1) :
    PI X tg (.Call (.Name "range" p) [e] [] pos) (iS X .rng fs) := by
  refine ⟨fun pins s0 σ H R I h => ?_⟩
  obtain ⟨ρ, M, α, ds, s, M', r, e1, e2, q⟩ := h
  have hl := h1 _ _ _ _ e1
  match ds, hl with
  | [d], _ =>
    cases d with
    | p x =>
      cases x with
      | int n =>
        have e2 : (if small n then some (Src.mk (rangeP 0 n.toNat) [] true) else none) = some s := e2
        split at e2 <;> try contradiction
        rename_i hn
        cases e2
        refine (pi_range1 hg hm ha hs).run pins s0 σ H R I (tIA.use r e1 fun vs H' α' n' rd r1 => ?_)
        obtain ⟨v, rfl, rv⟩ := rds1 rd
        exact ⟨n, by rw [rd_int rv], (small_ok hn).1, (small_ok hn).2, q _ H' α' _ n' (it_rng 0 _) trivial rfl⟩
      | _ => cases e2
    | scr xs => cases e2
theorem i_rng2 (hg : Gl X "range") (hm : X.mg "range" = none) (ha : PA X [e, e2] (tIA X fs)) (hs : starEach [e, e2] X.env = [(false, eval e X.env), (false, eval e2 X.env)]) (hs2 : starEach [e2] X.env = [(false, eval e2 X.env)])
    (h1 : ∀ ρ M ds M', fs ρ M = some (ds, M') → ds.length = 2) : PI X tg (.Call (.Name "range" p) [e, e2] [] pos) (iS X .rng fs) := by
  refine ⟨fun pins s0 σ H R I h => ?_⟩
  obtain ⟨ρ, M, α, ds, s, M', r, e1, e2, q⟩ := h
  have hl := h1 _ _ _ _ e1
  match ds, hl with
  | [d, d'], _ =>
    unfold src at e2
    split at e2 <;> try contradiction
    all_goals (rename_i hh; cases hh)
    split at e2 <;> try contradiction
    rename_i a b hn
    cases e2
    rw [Bool.and_eq_true] at hn
    refine (pi_range2 hg hm ha hs hs2).run pins s0 σ H R I (tIA.use r e1 fun vs H' α' n' rd r1 => ?_)
    obtain ⟨v, w, rfl, rv, rw_⟩ := rds2 rd
    exact ⟨_, _, by rw [rd_int rv, rd_int rw_], ⟨(small_ok hn.1).1, (small_ok hn.1).2, (small_ok hn.2).1, (small_ok hn.2).2⟩, q _ H' α' _ n' (it_rng _ _) trivial rfl⟩
theorem i_enm {elts : List Expr} {kk : Nat} {tpos : Pos} (hg : Gl X "enumerate") (hm : X.mg "enumerate" = none) (ha : PA X [e] (tIA X fs)) (hs : starEach [e] X.env = [(false, eval e X.env)]) (h1 : ∀ ρ M ds M', fs ρ M = some (ds, M') → ds.length = 1) :
    PI X (.Tuple elts kk tpos) (.Call (.Name "enumerate" p) [e] [] pos) (iS X .enm fs) := by
  refine ⟨fun pins s0 σ H R I h => ?_⟩
  obtain ⟨ρ, M, α, ds, s, M', r, e1, e2, q⟩ := h
  have hl := h1 _ _ _ _ e1
  match ds, hl with
  | [d], _ =>
    by_cases ht : ∃ l, d = .p (.tup l)
    · obtain ⟨l, rfl⟩ := ht
      have e2 : some (Src.mk (enumP 0 l) [] true) = some s := e2
      cases e2
      refine (E1.pi_enumT hg hm ha hs).run pins s0 σ H R I (tIA.use r e1 fun vs H' α' n' rd r1 => ?_)
      obtain ⟨v, rfl, rv⟩ := rds1 rd
      obtain ⟨a, us, rfl, sq, rp⟩ := rd_tuple rv
      exact ⟨a, us, rfl, sq, q _ H' α' _ n' it_enmT rv rfl⟩
    have hn : ∀ l, d ≠ .p (.tup l) := fun l z => ht ⟨l, z⟩
    have e2 : (asSrc M' d).map (fun s => (⟨enumP 0 s.xs, s.ls, s.fr⟩ : Src)) = some s := by
      cases d with
      | p x => cases x with
        | tup l => exact absurd rfl (hn l)
        | _ => exact e2
      | _ => exact e2
    obtain ⟨s', e3, rfl⟩ := Option.map_eq_some_iff.mp e2
    have ho := (asSrc_ok e3).1
    refine (pi_enum hg hm ha hs).run pins s0 σ H R I (tIA.use r e1 fun vs H' α' n' rd r1 => ?_)
    obtain ⟨v, rfl, rv⟩ := rds1 rd
    obtain ⟨a, us, rfl, sq, rp⟩ := itemsL_rd r1.mem rv (asSrc_list e3 hn ho)
    exact ⟨a, us, rfl, sq, q _ H' α' _ n' (it_enm e3 hn) rv ho⟩
theorem i_zip {elts : List Expr} {kk : Nat} {tpos : Pos} (hg : Gl X "zip") (hm : X.mg "zip" = none) (ha : PA X [e, e2] (tIA X fs)) (hs : starEach [e, e2] X.env = (false, eval e X.env) :: starEach [e2] X.env) (hpl : (backTo pos (starEach [e2] X.env)).any (·.1) = false)
    (h1 : ∀ ρ M ds M', fs ρ M = some (ds, M') → ds.length = 2) : PI X (.Tuple elts kk tpos) (.Call (.Name "zip" p) [e, e2] [] pos) (iS X .zip fs) := by
  refine ⟨fun pins s0 σ H R I h => ?_⟩
  obtain ⟨ρ, M, α, ds, s, M', r, e1, e2, q⟩ := h
  have hl := h1 _ _ _ _ e1
  match ds, hl with
  | [d, d'], _ =>
    unfold src at e2
    split at e2 <;> try contradiction
    · rename_i hh; cases hh
      cases e2
      refine (pi_zipA hg hm ha hs hpl).run pins s0 σ H R I (tIA.use r e1 fun vs H' α' n' rd r1 => ?_)
      obtain ⟨v, w, rfl, rv, rw_⟩ := rds2 rd
      obtain ⟨a, us, rfl, sq, rp⟩ := rd_tuple rv
      obtain ⟨b, us', rfl, sq', rp'⟩ := rd_tuple rw_
      exact ⟨a, b, us, us', rfl, .inr ⟨sq, sq', q _ H' α' _ n' it_zipT ⟨rv, rw_⟩ rfl⟩⟩
    · rename_i hh; cases hh
      split at e2 <;> try contradiction
      rename_i hn
      obtain ⟨s1, e3, e2⟩ := ob e2
      obtain ⟨s2, e4, e2⟩ := ob e2
      cases e2
      have hn1 : ∀ l, d ≠ .p (.tup l) := fun l z => by subst z; exact absurd hn (by simp [isTup])
      have hn2 : ∀ l, d' ≠ .p (.tup l) := fun l z => by subst z; exact absurd hn (by simp [isTup])
      have ho1 := (asSrc_ok e3).1
      have ho2 := (asSrc_ok e4).1
      refine (pi_zipA hg hm ha hs hpl).run pins s0 σ H R I (tIA.use r e1 fun vs H' α' n' rd r1 => ?_)
      obtain ⟨v, w, rfl, rv, rw_⟩ := rds2 rd
      obtain ⟨a, us, rfl, sq, rp⟩ := itemsL_rd r1.mem rv (asSrc_list e3 hn1 ho1)
      obtain ⟨b, us', rfl, sq', rp'⟩ := itemsL_rd r1.mem rw_ (asSrc_list e4 hn2 ho2)
      exact ⟨a, b, us, us', rfl, .inl ⟨sq, sq', q _ H' α' _ n' (it_zip e3 e4 hn1 hn2) ⟨rv, rw_⟩ (by rw [ok_app, ho1, ho2]; rfl)⟩⟩
/-- for -/
theorem s_for {Y : Ex} {iter : Expr} {body : List Stmt} {k : IK} {t : T} {f : Env → Mem → Option Out} (hp : PassesOwn (model X.prog X.w) X.A X.env X.xe) (hc : X.calm = true) (hi : PI X tg iter (iS X k fs)) (hg : PG X tg (tGp X t)) (hb : PSs X body (tS X Y f)) (hs : ∀ x, foldedSetIterable iter X.env x = pure x) :
    PS X (.For tg iter body [] pos) (tS X Y fun ρ M => do
      let (ds, M) ← fs ρ M
      let s ← src k ds M
      forL s (fun x ρ M => (t.put x ρ).bind fun ρ' => f ρ' M) s.xs ρ M) := (ps_for hp hc hi hg hb hs).weak fun D σ H h => by
  obtain ⟨ρ, M, α, o, r, e, q⟩ := h
  obtain ⟨⟨ds, M1⟩, e1, e⟩ := ob e
  obtain ⟨s, e2, e⟩ := ob e
  refine ⟨ρ, M, α, ds, s, M1, r, e1, e2, fun J H1 α1 In n1 it hIn ho => ?_⟩
  have r1 := r.step n1
  refine ⟨fun i m σ2 H2 => ∃ ρ2 M2 α2, RS X σ2 H2 ρ2 M2 α2 ∧ Nx X.K α H α2 H2 M2 ∧ In H2 α2 ∧ s.ok M2 = true ∧ m = (s.xs.drop i).length ∧ forL s (fun x ρ M => (t.put x ρ).bind fun ρ' => f ρ' M) (s.xs.drop i) ρ2 M2 = some o,
    ⟨_, ρ, M1, α1, r1, n1, hIn, ho, rfl, e⟩, ?_⟩
  rintro i m σ2 H2 ⟨ρ2, M2, α2, r2, n2, hIn2, ho2, hm, e⟩
  cases hx : s.xs[i]? with
  | none =>
    rw [List.getElem?_eq_none_iff] at hx
    rw [List.drop_eq_nil_of_le hx] at e
    cases e
    exact .inl ⟨it.fin H2 α2 M2 i hIn2 r2.mem r2.tab ho2 hx, q σ2 H2 α2 n2 r2.env⟩
  | some x =>
    obtain ⟨go, yl⟩ := it.atI H2 α2 M2 i x hIn2 r2.mem r2.tab ho2 hx
    obtain ⟨hlt, hxe⟩ := List.getElem?_eq_some_iff.mp hx
    rw [List.drop_eq_getElem_cons hlt, hxe] at e hm
    obtain ⟨o1, e3, e⟩ := ob (show (do
      match ← (t.put x ρ2).bind fun ρ' => f ρ' M2 with
      | .nx ρ M => if s.ok M then forL s (fun x ρ M => (t.put x ρ).bind fun ρ' => f ρ' M) (s.xs.drop (i + 1)) ρ M else none
      | .ct ρ M => if s.ok M then forL s (fun x ρ M => (t.put x ρ).bind fun ρ' => f ρ' M) (s.xs.drop (i + 1)) ρ M else none
      | .bk ρ M => some (.nx ρ M)
      | .rt d M => some (.rt d M)
      | .xc c xs M => some (.xc c xs M)) = some o from e)
    obtain ⟨ρ3, e4, e5⟩ := Option.bind_eq_some_iff.mp e3
    refine .inr ⟨go, fun σ' H' => ∃ ρ2 M2 α2, RS X σ' H' ρ2 M2 α2 ∧ Nx X.K α H α2 H' M2 ∧ In H' α2 ∧ s.ok M2 = true ∧ forL s (fun x ρ M => (t.put x ρ).bind fun ρ' => f ρ' M) (s.xs.drop (i + 1)) ρ2 M2 = some o,
      fun σ' H' ⟨a1, a2, a3, a4, a5, a6, a7, a8⟩ => ⟨_, by rw [hm, List.length_cons]; exact Nat.lt_succ_self _, a1, a2, a3, a4, a5, a6, a7, rfl, a8⟩, fun v H' hy => ?_⟩
    obtain ⟨n3, rv⟩ := yl v H' hy
    have r3 := r2.step n3
    have hIn3 := it.step _ _ _ _ _ _ hIn2 r2.mem n3
    have n23 := n2.trans r.mem n3
    refine ⟨ρ2, M2, α2, x, ρ3, r3, rv, e4, fun σ3 re3 _ => ?_⟩
    refine ⟨ρ3, M2, α2, o1, r3.with re3, e5, ?_⟩
    cases o1 with
    | nx ρ4 M4 =>
      dsimp only at e
      split at e <;> try contradiction
      rename_i h4
      exact fun σ' H4 α4 n4 re => ⟨ρ4, M4, α4, (r3.step n4).with re, n23.trans r.mem n4, it.step _ _ _ _ _ _ hIn3 r3.mem n4, h4, e⟩
    | ct ρ4 M4 =>
      dsimp only at e
      split at e <;> try contradiction
      rename_i h4
      exact fun σ' H4 α4 n4 re => ⟨ρ4, M4, α4, (r3.step n4).with re, n23.trans r.mem n4, it.step _ _ _ _ _ _ hIn3 r3.mem n4, h4, e⟩
    | bk ρ4 M4 => cases e; exact fun σ' H4 α4 n4 re => q σ' H4 α4 (n23.trans r.mem n4) re
    | rt d M4 => cases e; exact fun v H4 α4 n4 rd => q v H4 α4 (n23.trans r.mem n4) rd
    | xc c xs M4 => cases e; exact fun cls d σ' H4 α4 n4 rx => q cls d σ' H4 α4 (n23.trans r.mem n4) rx
end
end IX
end

section
set_option Elab.async false
set_option autoImplicit false
set_option linter.all false
set_option maxRecDepth 100000
set_option maxHeartbeats 4000000
/-! List comprehensions. -/
namespace IX
open PySem PySem.Spec PyProof.Rows L2 GX
section
variable {X : Cx} {fs fs1 : Env → Mem → Option (List D × Mem)} {fi fi1 : Env → Mem → Option (Bool × Mem)} {fe : Env → Mem → Option (D × Mem)} {k k1 : IK} {t t1 : T} {vs vs1 : List Nat}
def lcT (t : T) (vs : List Nat) (fi : Env → Mem → Option (Bool × Mem)) (fe : Env → Mem → Option (D × Mem)) (ρ : Env) : P → Mem → Option (List P × Mem) := fun x M => do
  let ρ' ← t.put x (wipeE ρ vs)
  let (b, M) ← fi ρ' M
  if b then do
    let (y, M) ← fe ρ' M
    match y with
    | .p r => some ([r], M)
    | _ => none
  else some ([], M)
def lcF (vs : List Nat) (t : T) (k : IK) (fs : Env → Mem → Option (List D × Mem)) (fi : Env → Mem → Option (Bool × Mem)) (fe : Env → Mem → Option (D × Mem)) : Env → Mem → Option (D × Mem) := fun ρ M => do
  let (ds, M) ← fs ρ M
  let s ← src k ds M
  let (ys, M) ← turns s (lcT t vs fi fe ρ) s.xs M
  newl ys M
def lc2T (t : T) (vs : List Nat) (fi : Env → Mem → Option (Bool × Mem)) (fs1 : Env → Mem → Option (List D × Mem)) (k1 : IK) (t1 : T) (vs1 : List Nat) (fi1 : Env → Mem → Option (Bool × Mem)) (fe : Env → Mem → Option (D × Mem)) (ρ : Env) : P → Mem → Option (List P × Mem) := fun x M => do
  let ρ' ← t.put x (wipeE ρ vs)
  let (b, M) ← fi ρ' M
  if b then do
    let (ds1, M) ← fs1 ρ' M
    let s1 ← src k1 ds1 M
    if noScr ρ' && s1.fr then turns s1 (lcT t1 vs1 fi1 fe ρ') s1.xs M else none
  else some ([], M)
def lc2F (vs : List Nat) (t : T) (k : IK) (fs : Env → Mem → Option (List D × Mem)) (fi : Env → Mem → Option (Bool × Mem)) (fs1 : Env → Mem → Option (List D × Mem)) (k1 : IK) (t1 : T) (vs1 : List Nat) (fi1 : Env → Mem → Option (Bool × Mem)) (fe : Env → Mem → Option (D × Mem)) : Env → Mem → Option (D × Mem) := fun ρ M => do
  let (ds, M) ← fs ρ M
  let s ← src k ds M
  let (ys, M) ← turns s (lc2T t vs fi fs1 k1 t1 vs1 fi1 fe ρ) s.xs M
  newl ys M
theorem turns_cons {s : Src} {F : P → Mem → Option (List P × Mem)} {x : P} {r : List P} {M Mf : Mem} {zs : List P} (h : turns s F (x :: r) M = some (zs, Mf)) : ∃ o M1 zs1, F x M = some (o, M1) ∧ s.ok M1 = true ∧ turns s F r M1 = some (zs1, Mf) ∧ zs = o ++ zs1 := by
  obtain ⟨⟨o, M1⟩, e1, h⟩ := ob (show (do
    let (o, M) ← F x M
    if s.ok M then do
      let (ys, M) ← turns s F r M
      some (o ++ ys, M)
    else none) = some (zs, Mf) from h)
  dsimp only at h
  split at h <;> try contradiction
  rename_i ho
  obtain ⟨⟨ys, M2⟩, e2, h⟩ := ob h
  cases h
  exact ⟨o, M1, ys, e1, ho, e2, rfl⟩
/-- the state of a comprehension's loop: the new list stands at c -/
structure LcW (X : Cx) (s : Src) (F : P → Mem → Option (List P × Mem)) (all : List P) (Mf : Mem) (In : Hp → List Addr → Prop) (α1 : List Addr) (H1 : Hp) (c : Addr) (i : Nat) (H : Hp) (M : Mem) (α : List Addr) (acc : List V) (ys zs : List P) : Prop where
  nx : Nx X.K α1 H1 α H M
  nin : c ∉ α
  cell : H c = some (.lst acc)
  rp : RPs X.K H α ys acc
  ok : s.ok M = true
  inn : In H α
  run : turns s F (s.xs.drop i) M = some (zs, Mf)
  tot : ys ++ zs = all
theorem lc_of (hs : ∀ i ∈ t.slots, i ∈ vs) {σ : L2.St} {H : Hp} {Q : VK} (h : tI X (lcF vs t k fs fi fe) σ H Q) : tLc (iS X k fs) (tGp X t) (tIT X fi) (tI X fe) vs σ H Q := by
  obtain ⟨ρ, M, α, d, M', r, e, q⟩ := h
  obtain ⟨⟨ds, M1⟩, e1, e⟩ := ob e
  obtain ⟨s, e2, e⟩ := ob e
  obtain ⟨⟨all, Mf⟩, e3, e⟩ := ob e
  obtain ⟨hl, rfl, rfl⟩ := newl_some e
  refine ⟨ρ, M, α, ds, s, M1, r, e1, e2, fun J H1 α1 In n1 it hIn ho c hc => ?_⟩
  have r1 := r.step n1
  have n0 : Nx X.K α1 H1 α1 (upd H1 c (.lst [])) M1 := Nx.new r1.mem r1.tab hc fun ps z => by cases z
  refine ⟨fun i m H => ∃ M α acc ys zs, LcW X s (lcT t vs fi fe ρ) all Mf In α1 H1 c i H M α acc ys zs ∧ m = (s.xs.drop i).length,
    ⟨_, M1, α1, [], [], all, ⟨n0, fun z => ?_, upd_same .., by unfold RPs; trivial, ho, it.step _ _ _ _ _ _ hIn r1.mem n0, e3, rfl⟩, rfl⟩, ?_⟩
  · obtain ⟨ws, e⟩ := r1.mem.lst z
    rw [hc] at e; cases e
  rintro i m H2 ⟨M2, α2, acc, ys, zs, w, hm⟩
  cases hx : s.xs[i]? with
  | none =>
    rw [List.getElem?_eq_none_iff] at hx
    have hr := w.run
    rw [List.drop_eq_nil_of_le hx] at hr
    cases hr
    have ht := w.tot
    rw [List.append_nil] at ht
    subst ht
    refine .inl ⟨it.fin H2 α2 _ i w.inn w.nx.mem w.nx.tab w.ok hx, ?_⟩
    have n := n1.trans r.mem (w.nx.adopt hc w.nin w.cell w.rp)
    refine q _ H2 _ n ⟨c, ?_, rfl⟩
    rw [← w.nx.mem.len, List.getElem?_append_right (Nat.le_refl _)]
    simp
  | some x =>
    obtain ⟨go, yl⟩ := it.atI H2 α2 M2 i x w.inn w.nx.mem w.nx.tab w.ok hx
    obtain ⟨hlt, hxe⟩ := List.getElem?_eq_some_iff.mp hx
    have hr := w.run
    rw [List.drop_eq_getElem_cons hlt, hxe] at hr hm
    obtain ⟨o, M3, zs1, f1, ho3, hr2, rfl⟩ := turns_cons hr
    obtain ⟨ρ', f2, f1⟩ := ob f1
    obtain ⟨⟨b, M4⟩, f3, f1⟩ := ob f1
    refine .inr ⟨go, fun H => ∃ M α acc ys zs, LcW X s (lcT t vs fi fe ρ) all Mf In α1 H1 c (i + 1) H M α acc ys zs,
      fun H' ⟨a1, a2, a3, a4, a5, a6⟩ => ⟨_, by rw [hm, List.length_cons]; exact Nat.lt_succ_self _, a1, a2, a3, a4, a5, a6, rfl⟩, fun v H' hy => ?_⟩
    obtain ⟨n3, rv⟩ := yl v H' hy
    have nn := w.nx.trans r1.mem n3
    have env : REnv X.K H' α2 (wipeE ρ vs) (L2.wipe σ vs) := (nn.env r1.mem r1.env).wipe vs
    have r3 : RS X (L2.wipe σ vs) H' (wipeE ρ vs) M2 α2 := ⟨env, nn.mem, nn.tab, r1.code.grow nn.grow fun b hb => r1.mem.lst hb, r1.trk.grow nn.grow fun b hb => r1.mem.lst hb⟩
    refine ⟨_, M2, α2, x, ρ', r3, rv, f2, fun σ3 re3 sm => ⟨sm.wipe hs, ?_⟩⟩
    have r4 := r3.with re3
    have c3 := n3.keepD w.nx.mem w.nin w.cell
    refine tIT.use r4 f3 fun H4 α4 n4 r5 => ?_
    have nn4 := nn.trans r1.mem n4
    have c4 := n4.keepD r4.mem w.nin c3
    have i4 := n4.notin w.nin c3
    have rp4 := n4.rps r4.mem (n3.rps w.nx.mem w.rp)
    have in4 := it.step _ _ _ _ _ _ (it.step _ _ _ _ _ _ w.inn w.nx.mem n3) r4.mem n4
    cases b with
    | false =>
      cases f1
      exact ⟨M3, α4, acc, ys, zs1, ⟨nn4, i4, c4, rp4, ho3, in4, hr2, by simpa using w.tot⟩⟩
    | true =>
      obtain ⟨⟨y, M5⟩, f4, f1⟩ := ob f1
      obtain ⟨ry, rfl, rfl, rfl⟩ : ∃ ry, y = .p ry ∧ o = [ry] ∧ M3 = M5 := by
        cases y with
        | p ry => cases f1; exact ⟨ry, rfl, rfl, rfl⟩
        | scr _ => cases f1
      refine tI.use r5 f4 fun u H5 α5 n5 d5 r6 => ?_
      have c5 := n5.keepD r5.mem i4 c4
      have i5 := n5.notin i4 c4
      have rp5 := n5.rps r5.mem rp4
      have hlen : acc.length < sizeLine := by
        have := w.tot
        have h2 := congrArg List.length this
        simp only [List.length_append, List.length_cons] at h2
        have h3 := w.rp.length
        omega
      have nn5 := nn4.trans r1.mem n5
      refine ⟨acc, c5, hlen, M3, α5, acc ++ [u], ys ++ [ry], zs1, ⟨nn5.own hc i5 c5, i5, upd_same .., ?_, ho3, ?_, hr2, by simpa using w.tot⟩⟩
      · refine RPs.grow (na_own c5) grow_own (Pre.refl _) _ _ (rp5.append ?_)
        show RPs _ _ _ [_] [_]
        unfold RPs
        exact ⟨d5, by unfold RPs; trivial⟩
      · have := nn5.own (zs := acc ++ [u]) hc i5 c5
        exact it.step _ _ _ _ _ _ hIn r1.mem this
end
section
variable {X : Cx} {fs fs1 : Env → Mem → Option (List D × Mem)} {fi fi1 : Env → Mem → Option (Bool × Mem)} {fe : Env → Mem → Option (D × Mem)} {k k1 : IK} {t t1 : T} {vs vs1 : List Nat}
/-- the inner loop's state -/
structure LcV (X : Cx) (s1 : Src) (F : P → Mem → Option (List P × Mem)) (mid : List P) (Mi : Mem) (In1 : Hp → List Addr → Prop) (α1 : List Addr) (H1 : Hp) (c : Addr) (ρ' : Env) (σ2 : L2.St) (i : Nat) (H : Hp) (M : Mem) (α : List Addr) (acc : List V) (ys zs : List P) : Prop where
  nx : Nx X.K α1 H1 α H M
  nin : c ∉ α
  cell : H c = some (.lst acc)
  rp : RPs X.K H α ys acc
  ok : s1.ok M = true
  inn : In1 H α
  env : REnv X.K H α ρ' σ2
  run : turns s1 F (s1.xs.drop i) M = some (zs, Mi)
  tot : ys ++ zs = mid
theorem lc2_of (hs : ∀ i ∈ t.slots, i ∈ vs) (hs1 : ∀ i ∈ t1.slots, i ∈ vs1) {σ : L2.St} {H : Hp} {Q : VK} (h : tI X (lc2F vs t k fs fi fs1 k1 t1 vs1 fi1 fe) σ H Q) :
    tLc2 (iS X k fs) (tGp X t) (tIT X fi) (iS X k1 fs1) (tGp X t1) (tIT X fi1) (tI X fe) vs vs1 σ H Q := by
  obtain ⟨ρ, M, α, d, M', r, e, q⟩ := h
  obtain ⟨⟨ds, M1⟩, e1, e⟩ := ob e
  obtain ⟨s, e2, e⟩ := ob e
  obtain ⟨⟨all, Mf⟩, e3, e⟩ := ob e
  obtain ⟨hl, rfl, rfl⟩ := newl_some e
  refine ⟨ρ, M, α, ds, s, M1, r, e1, e2, fun J H1 α1 In n1 it hIn ho c hc => ?_⟩
  have r1 := r.step n1
  have n0 : Nx X.K α1 H1 α1 (upd H1 c (.lst [])) M1 := Nx.new r1.mem r1.tab hc fun ps z => by cases z
  refine ⟨fun i m H => ∃ M α acc ys zs, LcW X s (lc2T t vs fi fs1 k1 t1 vs1 fi1 fe ρ) all Mf In α1 H1 c i H M α acc ys zs ∧ m = (s.xs.drop i).length,
    ⟨_, M1, α1, [], [], all, ⟨n0, fun z => ?_, upd_same .., by unfold RPs; trivial, ho, it.step _ _ _ _ _ _ hIn r1.mem n0, e3, rfl⟩, rfl⟩, ?_⟩
  · obtain ⟨ws, e⟩ := r1.mem.lst z
    rw [hc] at e; cases e
  rintro i m H2 ⟨M2, α2, acc, ys, zs, w, hm⟩
  cases hx : s.xs[i]? with
  | none =>
    rw [List.getElem?_eq_none_iff] at hx
    have hr := w.run
    rw [List.drop_eq_nil_of_le hx] at hr
    cases hr
    have ht := w.tot
    rw [List.append_nil] at ht
    subst ht
    refine .inl ⟨it.fin H2 α2 _ i w.inn w.nx.mem w.nx.tab w.ok hx, ?_⟩
    have n := n1.trans r.mem (w.nx.adopt hc w.nin w.cell w.rp)
    refine q _ H2 _ n ⟨c, ?_, rfl⟩
    rw [← w.nx.mem.len, List.getElem?_append_right (Nat.le_refl _)]
    simp
  | some x =>
    obtain ⟨go, yl⟩ := it.atI H2 α2 M2 i x w.inn w.nx.mem w.nx.tab w.ok hx
    obtain ⟨hlt, hxe⟩ := List.getElem?_eq_some_iff.mp hx
    have hr := w.run
    rw [List.drop_eq_getElem_cons hlt, hxe] at hr hm
    obtain ⟨o, M3, zs1, f1, ho3, hr2, rfl⟩ := turns_cons hr
    obtain ⟨ρ', f2, f1⟩ := ob f1
    obtain ⟨⟨b, M4⟩, f3, f1⟩ := ob f1
    refine .inr ⟨go, fun H => ∃ M α acc ys zs, LcW X s (lc2T t vs fi fs1 k1 t1 vs1 fi1 fe ρ) all Mf In α1 H1 c (i + 1) H M α acc ys zs,
      fun H' ⟨a1, a2, a3, a4, a5, a6⟩ => ⟨_, by rw [hm, List.length_cons]; exact Nat.lt_succ_self _, a1, a2, a3, a4, a5, a6, rfl⟩, fun v H' hy => ?_⟩
    obtain ⟨n3, rv⟩ := yl v H' hy
    have nn := w.nx.trans r1.mem n3
    have env : REnv X.K H' α2 (wipeE ρ vs) (L2.wipe σ vs) := (nn.env r1.mem r1.env).wipe vs
    have r3 : RS X (L2.wipe σ vs) H' (wipeE ρ vs) M2 α2 := ⟨env, nn.mem, nn.tab, r1.code.grow nn.grow fun b hb => r1.mem.lst hb, r1.trk.grow nn.grow fun b hb => r1.mem.lst hb⟩
    refine ⟨_, M2, α2, x, ρ', r3, rv, f2, fun σ3 re3 sm => ⟨sm.wipe hs, ?_⟩⟩
    have r4 := r3.with re3
    have c3 := n3.keepD w.nx.mem w.nin w.cell
    refine tIT.use r4 f3 fun H4 α4 n4 r5 => ?_
    have nn4 := nn.trans r1.mem n4
    have c4 := n4.keepD r4.mem w.nin c3
    have i4 := n4.notin w.nin c3
    have rp4 := n4.rps r4.mem (n3.rps w.nx.mem w.rp)
    cases b with
    | false =>
      cases f1
      have in4 := it.step _ _ _ _ _ _ hIn r1.mem nn4
      exact ⟨M3, α4, acc, ys, zs1, ⟨nn4, i4, c4, rp4, ho3, in4, hr2, by simpa using w.tot⟩⟩
    | true =>
      obtain ⟨⟨ds1, M5⟩, g1, f1⟩ := ob f1
      obtain ⟨s1, g2, f1⟩ := ob f1
      split at f1 <;> try contradiction
      rename_i hns
      rw [Bool.and_eq_true] at hns
      refine ⟨_, M4, α4, ds1, s1, M5, r5, g1, g2, fun J1 H5 α5 In1 n5 it1 hIn1 ho5 => ?_⟩
      have r6 := r5.step n5
      have c5 := n5.keepD r5.mem i4 c4
      have i5 := n5.notin i4 c4
      have rp5 := n5.rps r5.mem rp4
      have nn5 := nn4.trans r1.mem n5
      refine ⟨fun j k H => ∃ M α acc ys' zs', LcV X s1 (lcT t1 vs1 fi1 fe ρ') (ys ++ o) M3 In1 α1 H1 c ρ' σ3 j H M α acc ys' zs' ∧ k = (s1.xs.drop j).length,
        ⟨_, M5, α5, acc, ys, o, ⟨nn5, i5, c5, rp5, ho5, hIn1, r6.env, f1, rfl⟩, rfl⟩, ?_⟩
      rintro j k' H6 ⟨M6, α6, acc6, ys6, zs6, w6, hm6⟩
      have m6 := w6.nx.mem
      cases hx6 : s1.xs[j]? with
      | none =>
        rw [List.getElem?_eq_none_iff] at hx6
        have hr6 := w6.run
        rw [List.drop_eq_nil_of_le hx6] at hr6
        cases hr6
        refine .inl ⟨it1.fin H6 α6 _ j w6.inn m6 w6.nx.tab w6.ok hx6, ?_⟩
        refine ⟨_, α6, acc6, ys6, zs1, ⟨w6.nx, w6.nin, w6.cell, w6.rp, ho3, it.step _ _ _ _ _ _ hIn r1.mem w6.nx, hr2, ?_⟩⟩
        have h1 := w6.tot
        rw [List.append_nil] at h1
        rw [h1, List.append_assoc]
        exact w.tot
      | some x6 =>
        obtain ⟨go6, yl6⟩ := it1.atI H6 α6 M6 j x6 w6.inn m6 w6.nx.tab w6.ok hx6
        obtain ⟨hlt6, hxe6⟩ := List.getElem?_eq_some_iff.mp hx6
        have hr6 := w6.run
        rw [List.drop_eq_getElem_cons hlt6, hxe6] at hr6 hm6
        obtain ⟨o6, M7, zs7, p1, ho7, hr7, rfl⟩ := turns_cons hr6
        obtain ⟨ρ2, p2, p1⟩ := ob p1
        obtain ⟨⟨b6, M8⟩, p3, p1⟩ := ob p1
        refine .inr ⟨go6, fun H => ∃ M α acc ys' zs', LcV X s1 (lcT t1 vs1 fi1 fe ρ') (ys ++ o) M3 In1 α1 H1 c ρ' σ3 (j + 1) H M α acc ys' zs',
          fun H' ⟨a1, a2, a3, a4, a5, a6⟩ => ⟨_, by rw [hm6, List.length_cons]; exact Nat.lt_succ_self _, a1, a2, a3, a4, a5, a6, rfl⟩, fun v7 H7 hy7 => ?_⟩
        obtain ⟨n7, rv7⟩ := yl6 v7 H7 hy7
        have nn7 := w6.nx.trans r1.mem n7
        have env7 : REnv X.K H7 α6 ρ' σ3 := n7.env m6 w6.env
        have r7 : RS X (L2.wipe σ3 vs1) H7 (wipeE ρ' vs1) M6 α6 := ⟨env7.wipe vs1, nn7.mem, nn7.tab, r1.code.grow nn7.grow fun b hb => r1.mem.lst hb, r1.trk.grow nn7.grow fun b hb => r1.mem.lst hb⟩
        refine ⟨_, M6, α6, x6, ρ2, r7, rv7, p2, fun σ8 re8 sm8 => ⟨sm8.wipe hs1, ?_⟩⟩
        have r8 := r7.with re8
        have c7 := n7.keepD m6 w6.nin w6.cell
        refine tIT.use r8 p3 fun H8 α8 n8 r9 => ?_
        have nn8 := nn7.trans r1.mem n8
        have c8 := n8.keepD r8.mem w6.nin c7
        have i8 := n8.notin w6.nin c7
        have rp8 := n8.rps r8.mem (n7.rps m6 w6.rp)
        have in8 := it1.step _ _ _ _ _ _ (it1.step _ _ _ _ _ _ w6.inn m6 n7) r8.mem n8
        have env8 := n8.env r8.mem env7
        cases b6 with
        | false =>
          cases p1
          exact ⟨M7, α8, acc6, ys6, zs7, ⟨nn8, i8, c8, rp8, ho7, in8, env8, hr7, by simpa using w6.tot⟩⟩
        | true =>
          obtain ⟨⟨y, M9⟩, p4, p1⟩ := ob p1
          obtain ⟨ry, rfl, rfl, rfl⟩ : ∃ ry, y = .p ry ∧ o6 = [ry] ∧ M7 = M9 := by
            cases y with
            | p ry => cases p1; exact ⟨ry, rfl, rfl, rfl⟩
            | scr _ => cases p1
          refine tI.use r9 p4 fun u H9 α9 n9 d9 r10 => ?_
          have c9 := n9.keepD r9.mem i8 c8
          have i9 := n9.notin i8 c8
          have rp9 := n9.rps r9.mem rp8
          have hlen : acc6.length < sizeLine := by
            have h1 := congrArg List.length w.tot
            have h2 := congrArg List.length w6.tot
            simp only [List.length_append, List.length_cons] at h1 h2
            have h3 := w6.rp.length
            omega
          have nn9 := nn8.trans r1.mem n9
          have in9 := it1.step _ _ _ _ _ _ in8 r9.mem n9
          have env9 := n9.env r9.mem env8
          refine ⟨acc6, c9, hlen, M7, α9, acc6 ++ [u], ys6 ++ [ry], zs7, ⟨nn9.own hc i9 c9, i9, upd_same .., ?_, ho7, it1.own hns.2 _ _ _ _ _ _ in9 r10.mem c9 i9, env_own env9 c9 hns.1, hr7, by simpa using w6.tot⟩⟩
          refine RPs.grow (na_own c9) grow_own (Pre.refl _) _ _ (rp9.append ?_)
          show RPs _ _ _ [_] [_]
          unfold RPs
          exact ⟨d9, by unfold RPs; trivial⟩
end
section
variable {X : Cx} {fs fs1 : Env → Mem → Option (List D × Mem)} {fi fi1 : Env → Mem → Option (Bool × Mem)} {fe : Env → Mem → Option (D × Mem)} {k k1 : IK} {t t1 : T} {vs1 : List Nat} {elt tg iter tg1 iter1 : Expr} {ifs ifs1 : List Expr} {scope : Scope} {own : List (Str × Nat)} {pos spos : Pos}
theorem s_lc (hc : X.calm = true) (hN : X.N.Nodup) (hi : PI X tg iter (iS X k fs)) (ok : BlkOk X.N X.env.scope scope own)
    (hg : ∀ (s : Shared) (H : Hp) (C : Addr) (cl : List (Str × Addr)) (fp : List Addr), PG (X.blk s H scope (compEnvC scope cl C X.env) fp) tg (tGp (X.blk s H scope (compEnvC scope cl C X.env) fp) t))
    (ht : ∀ (s : Shared) (H : Hp) (C : Addr) (cl : List (Str × Addr)) (fp : List Addr), PTs (X.blk s H scope (compEnvC scope cl C X.env) fp) ifs (tIT (X.blk s H scope (compEnvC scope cl C X.env) fp) fi))
    (he : ∀ (s : Shared) (H : Hp) (C : Addr) (cl : List (Str × Addr)) (fp : List Addr), PE (X.blk s H scope (compEnvC scope cl C X.env) fp) elt (tI (X.blk s H scope (compEnvC scope cl C X.env) fp) fe))
    (hs : ∀ x, foldedSetIterable iter X.env x = pure x) (hv : ∀ i ∈ t.slots, i ∈ own.map (·.2)) :
    PE X (.ListComp elt [⟨tg, iter, ifs, 0⟩] scope pos) (tI X (lcF (own.map (·.2)) t k fs fi fe)) := (pe_lc (te := tI X fe) (tt := tIT X fi) (g := tGp X t) hc hN hi ok hg ht he hs).weak fun σ H Q h => lc_of hv h
theorem s_setlc {Y : Ex} {i : Nat} {y : Str} {py : Pos} (hc : X.calm = true) (hN : X.N.Nodup) (hy : X.N[i]? = some y) (hyl : X.env.scope.names.lookup y = some .local)
    (hsw : swapsWith (.ListComp elt [⟨tg, iter, ifs, 0⟩] scope pos) (some (.Name y py)) spos.line X.env = pure true) (hi : PI X tg iter (iS X k fs)) (ok : BlkOk X.N X.env.scope scope own)
    (hg : ∀ (s : Shared) (H : Hp) (C : Addr) (cl : List (Str × Addr)) (fp : List Addr), PG (X.blk s H scope (compEnvC scope cl C X.env) fp) tg (tGp (X.blk s H scope (compEnvC scope cl C X.env) fp) t))
    (ht : ∀ (s : Shared) (H : Hp) (C : Addr) (cl : List (Str × Addr)) (fp : List Addr), PTs (X.blk s H scope (compEnvC scope cl C X.env) fp) ifs (tIT (X.blk s H scope (compEnvC scope cl C X.env) fp) fi))
    (he : ∀ (s : Shared) (H : Hp) (C : Addr) (cl : List (Str × Addr)) (fp : List Addr), PE (X.blk s H scope (compEnvC scope cl C X.env) fp) elt (tI (X.blk s H scope (compEnvC scope cl C X.env) fp) fe))
    (hs : ∀ x, foldedSetIterable iter X.env x = pure x) (hv : ∀ i ∈ t.slots, i ∈ own.map (·.2)) :
    PS X (.Assign [.Name y py] (.ListComp elt [⟨tg, iter, ifs, 0⟩] scope pos) spos) (tS X Y (setF (.nm i) (lcF (own.map (·.2)) t k fs fi fe))) :=
  (ps_setLc (te := tI X fe) (tt := tIT X fi) (g := tGp X t) hc hN hy hyl hsw hi ok hg ht he hs).weak fun D σ H h => gname_of (fun _ q => lc_of hv q) h
theorem s_lc2 (hc : X.calm = true) (hN : X.N.Nodup) (hi : PI X tg iter (iS X k fs)) (ok : BlkOk X.N X.env.scope scope own) (hv1 : ∀ i ∈ vs1, i ∈ own.map (·.2))
    (hg : ∀ (s : Shared) (H : Hp) (C : Addr) (cl : List (Str × Addr)) (fp : List Addr), PG (X.blk s H scope (compEnvC scope cl C X.env) fp) tg (tGp (X.blk s H scope (compEnvC scope cl C X.env) fp) t))
    (ht : ∀ (s : Shared) (H : Hp) (C : Addr) (cl : List (Str × Addr)) (fp : List Addr), PTs (X.blk s H scope (compEnvC scope cl C X.env) fp) ifs (tIT (X.blk s H scope (compEnvC scope cl C X.env) fp) fi))
    (hi1 : ∀ (s : Shared) (H : Hp) (C : Addr) (cl : List (Str × Addr)) (fp : List Addr), PI (X.blk s H scope (compEnvC scope cl C X.env) fp) tg1 iter1 (iS (X.blk s H scope (compEnvC scope cl C X.env) fp) k1 fs1))
    (hg1 : ∀ (s : Shared) (H : Hp) (C : Addr) (cl : List (Str × Addr)) (fp : List Addr), PG (X.blk s H scope (compEnvC scope cl C X.env) fp) tg1 (tGp (X.blk s H scope (compEnvC scope cl C X.env) fp) t1))
    (ht1 : ∀ (s : Shared) (H : Hp) (C : Addr) (cl : List (Str × Addr)) (fp : List Addr), PTs (X.blk s H scope (compEnvC scope cl C X.env) fp) ifs1 (tIT (X.blk s H scope (compEnvC scope cl C X.env) fp) fi1))
    (he : ∀ (s : Shared) (H : Hp) (C : Addr) (cl : List (Str × Addr)) (fp : List Addr), PE (X.blk s H scope (compEnvC scope cl C X.env) fp) elt (tI (X.blk s H scope (compEnvC scope cl C X.env) fp) fe))
    (hs : ∀ x, foldedSetIterable iter X.env x = pure x) (hs1 : ∀ env x, foldedSetIterable iter1 env x = pure x) (hv : ∀ i ∈ t.slots, i ∈ own.map (·.2)) (hv2 : ∀ i ∈ t1.slots, i ∈ vs1) :
    PE X (.ListComp elt [⟨tg, iter, ifs, 0⟩, ⟨tg1, iter1, ifs1, 0⟩] scope pos) (tI X (lc2F (own.map (·.2)) t k fs fi fs1 k1 t1 vs1 fi1 fe)) :=
  (pe_lc2 (te := tI X fe) (tt := tIT X fi) (g := tGp X t) (g1 := tGp X t1) (tt1 := tIT X fi1) (wi1 := iS X k1 fs1) hc hN hi ok hv1 hg ht hi1 hg1 ht1 he hs hs1).weak fun σ H Q h => lc2_of hv hv2 h
theorem s_setlc2 {Y : Ex} {i : Nat} {y : Str} {py : Pos} (hc : X.calm = true) (hN : X.N.Nodup) (hy : X.N[i]? = some y) (hyl : X.env.scope.names.lookup y = some .local)
    (hsw : swapsWith (.ListComp elt [⟨tg, iter, ifs, 0⟩, ⟨tg1, iter1, ifs1, 0⟩] scope pos) (some (.Name y py)) spos.line X.env = pure true) (hi : PI X tg iter (iS X k fs)) (ok : BlkOk X.N X.env.scope scope own) (hv1 : ∀ i ∈ vs1, i ∈ own.map (·.2))
    (hg : ∀ (s : Shared) (H : Hp) (C : Addr) (cl : List (Str × Addr)) (fp : List Addr), PG (X.blk s H scope (compEnvC scope cl C X.env) fp) tg (tGp (X.blk s H scope (compEnvC scope cl C X.env) fp) t))
    (ht : ∀ (s : Shared) (H : Hp) (C : Addr) (cl : List (Str × Addr)) (fp : List Addr), PTs (X.blk s H scope (compEnvC scope cl C X.env) fp) ifs (tIT (X.blk s H scope (compEnvC scope cl C X.env) fp) fi))
    (hi1 : ∀ (s : Shared) (H : Hp) (C : Addr) (cl : List (Str × Addr)) (fp : List Addr), PI (X.blk s H scope (compEnvC scope cl C X.env) fp) tg1 iter1 (iS (X.blk s H scope (compEnvC scope cl C X.env) fp) k1 fs1))
    (hg1 : ∀ (s : Shared) (H : Hp) (C : Addr) (cl : List (Str × Addr)) (fp : List Addr), PG (X.blk s H scope (compEnvC scope cl C X.env) fp) tg1 (tGp (X.blk s H scope (compEnvC scope cl C X.env) fp) t1))
    (ht1 : ∀ (s : Shared) (H : Hp) (C : Addr) (cl : List (Str × Addr)) (fp : List Addr), PTs (X.blk s H scope (compEnvC scope cl C X.env) fp) ifs1 (tIT (X.blk s H scope (compEnvC scope cl C X.env) fp) fi1))
    (he : ∀ (s : Shared) (H : Hp) (C : Addr) (cl : List (Str × Addr)) (fp : List Addr), PE (X.blk s H scope (compEnvC scope cl C X.env) fp) elt (tI (X.blk s H scope (compEnvC scope cl C X.env) fp) fe))
    (hs : ∀ x, foldedSetIterable iter X.env x = pure x) (hs1 : ∀ env x, foldedSetIterable iter1 env x = pure x) (hv : ∀ i ∈ t.slots, i ∈ own.map (·.2)) (hv2 : ∀ i ∈ t1.slots, i ∈ vs1) :
    PS X (.Assign [.Name y py] (.ListComp elt [⟨tg, iter, ifs, 0⟩, ⟨tg1, iter1, ifs1, 0⟩] scope pos) spos) (tS X Y (setF (.nm i) (lc2F (own.map (·.2)) t k fs fi fs1 k1 t1 vs1 fi1 fe))) :=
  (ps_setLc2 (te := tI X fe) (tt := tIT X fi) (g := tGp X t) (g1 := tGp X t1) (tt1 := tIT X fi1) (wi1 := iS X k1 fs1) hc hN hy hyl hsw hi ok hv1 hg ht hi1 hg1 ht1 he hs hs1).weak fun D σ H h => gname_of (fun _ q => lc2_of hv hv2 q) h
end
end IX
end

section
set_option Elab.async false
set_option autoImplicit false
set_option linter.all false
set_option maxRecDepth 100000
set_option maxHeartbeats 4000000
/-! Generator expressions within tuple, sum, all, any. -/
namespace IX
open PySem PySem.Spec PyProof.Rows L2 GX
section
variable {K : PySem.W.Frag} {H H' : Hp} {α α' : List Addr} {M M' : Mem}
theorem Nx.of0 (m : RM K H α M) (g : Grow [] H H') (t : TabAll H') : Nx K α H α H' M := ⟨g.mono fun b hb => by simp at hb, ⟨[], by simp, fun b h => by simp at h⟩, m.grow0 g, t⟩
theorem Nx.same (m : RM K H α M) (n : Nx K α H α' H' M') (e : M' = M) : α' = α := by
  obtain ⟨β, e1, _⟩ := n.ext
  have h1 := n.mem.len
  rw [e, ← m.len, e1, List.length_append] at h1
  have : β = [] := List.length_eq_zero_iff.mp (by omega)
  rw [e1, this, List.append_nil]
end
def genT (t : T) (vs : List Nat) (fi : Env → Mem → Option (Bool × Mem)) (fe : Env → Mem → Option (D × Mem)) (ρ : Env) (M : Mem) : P → Option (Option P) := fun x => do
  let ρ' ← t.put x (wipeE ρ vs)
  let (b, M') ← fi ρ' M
  if b then do
    let (y, M'') ← fe ρ' M'
    match y with
    | .p r => if M'' = M then some (some r) else none
    | _ => none
  else if M' = M then some none else none
def genF (gk : GK) (vs : List Nat) (t : T) (k : IK) (fs : Env → Mem → Option (List D × Mem)) (fi : Env → Mem → Option (Bool × Mem)) (fe : Env → Mem → Option (D × Mem)) : Env → Mem → Option (D × Mem) := fun ρ M => do
  let (ds, M) ← fs ρ M
  let s ← src k ds M
  genEnd gk s (genT t vs fi fe ρ M) M
theorem gturns_cons {F : P → Option (Option P)} {x : P} {r : List P} {zs : List P} (h : gturns F (x :: r) = some zs) : ∃ o zs1, F x = some o ∧ gturns F r = some zs1 ∧ zs = o.toList ++ zs1 := by
  obtain ⟨o, e1, h⟩ := ob (show (do
    let o ← F x
    let ys ← gturns F r
    some (o.toList ++ ys)) = some zs from h)
  obtain ⟨ys, e2, h⟩ := ob h
  cases h
  exact ⟨o, ys, e1, e2, rfl⟩
section
variable {X : Cx} {fs : Env → Mem → Option (List D × Mem)} {fi : Env → Mem → Option (Bool × Mem)} {fe : Env → Mem → Option (D × Mem)} {k : IK} {t : T} {elt tg iter : Expr} {ifs : List Expr} {scope : Scope} {own : List (Str × Nat)} {pos cpos p : Pos}
/-- what a turn's F gives -/
theorem genT_some {vs : List Nat} {ρ : Env} {M : Mem} {x : P} {o : Option P} (h : genT t vs fi fe ρ M x = some o) : ∃ ρ' b M1, t.put x (wipeE ρ vs) = some ρ' ∧ fi ρ' M = some (b, M1) ∧ ((b = false ∧ o = none ∧ M1 = M) ∨ (b = true ∧ ∃ r, o = some r ∧ fe ρ' M1 = some (.p r, M))) := by
  obtain ⟨ρ', e1, h⟩ := ob h
  obtain ⟨⟨b, M1⟩, e2, h⟩ := ob h
  refine ⟨ρ', b, M1, e1, e2, ?_⟩
  cases b with
  | false =>
    have h : (if M1 = M then some none else none) = some o := h
    split at h
    · rename_i e; cases h; exact .inl ⟨rfl, rfl, e⟩
    · cases h
  | true =>
    obtain ⟨⟨y, M2⟩, e3, h⟩ := ob h
    cases y with
    | p r =>
      have h : (if M2 = M then some (some r) else none) = some o := h
      split at h
      · rename_i e; cases h; subst e; exact .inr ⟨rfl, r, rfl, e3⟩
      · cases h
    | scr _ => cases h
/-- the parts of the frame of a generator -/
def GenP (X : Cx) (Ac : Around) (scope : Scope) (tg elt : Expr) (ifs : List Expr) (t : T) (fi : Env → Mem → Option (Bool × Mem)) (fe : Env → Mem → Option (D × Mem)) : Prop :=
  ∀ H Xg, IsG X Xg Ac H scope → PG Xg tg (tGp Xg t) ∧ PTs Xg ifs (tIT Xg fi) ∧ PE Xg elt (tI Xg fe)
theorem reads_col {C : Con} {Ac : Around} {σ : L2.St} {J : It} {s : Src} {In : Hp → List Addr → Prop} {ρ : Env} {M : Mem} {α : List Addr} {H : Hp} {all : List P} (hp : GenP X Ac scope tg elt ifs t fi fe) (hs : ∀ i ∈ t.slots, i ∈ own.map (·.2))
    (r : RS X σ H ρ M α) (it : ItOk X.K J s In) (hIn : In H α) (ho : s.ok M = true) (hr : gturns (genT t (own.map (·.2)) fi fe ρ M) s.xs = some all) (hlen : all.length + 1 < sizeLine)
    (hY : ∀ zs r rest ys y H', all = zs ++ r :: rest → RPs X.K H' α (zs ++ [r]) (ys ++ [y]) → C.Yl (ys ++ [y]) H') (hD : ∀ ys H', Nx X.K α H α H' M → RPs X.K H' α all ys → C.Dn ys H') : GX.Reads X C Ac H J elt tg ifs scope own σ := by
  intro Xg hg
  obtain ⟨pg, pt, pe⟩ := hp H Xg hg
  obtain ⟨s4, cl, L, cv, fp, pn, rfl, hcv⟩ := hg
  refine ⟨_, _, _, fun i m ys H' => ∃ zs rest, Nx X.K α H α H' M ∧ In H' α ∧ RPs X.K H' α zs ys ∧ gturns (genT t (own.map (·.2)) fi fe ρ M) (s.xs.drop i) = some rest ∧ all = zs ++ rest ∧ m = (s.xs.drop i).length, _, pg, pt, pe, ?_,
    [], all, Nx.refl r.mem r.tab, hIn, by unfold RPs; trivial, hr, rfl, rfl⟩
  rintro i m ys H2 ⟨zs, rest, n2, in2, rp2, hr2, ha, hm⟩
  cases hx : s.xs[i]? with
  | none =>
    rw [List.getElem?_eq_none_iff] at hx
    rw [List.drop_eq_nil_of_le hx] at hr2
    cases hr2
    rw [List.append_nil] at ha
    subst ha
    exact .inl ⟨it.fin H2 α M i in2 n2.mem n2.tab ho hx, hD _ _ n2 rp2⟩
  | some x =>
    obtain ⟨go, yl⟩ := it.atI H2 α M i x in2 n2.mem n2.tab ho hx
    obtain ⟨hlt, hxe⟩ := List.getElem?_eq_some_iff.mp hx
    rw [List.drop_eq_getElem_cons hlt, hxe] at hr2 hm
    obtain ⟨o, rest1, f1, hr3, rfl⟩ := gturns_cons hr2
    obtain ⟨ρ', b, M1, f2, f3, f4⟩ := genT_some f1
    refine .inr ⟨go, fun ys H' => ∃ zs rest, Nx X.K α H α H' M ∧ In H' α ∧ RPs X.K H' α zs ys ∧ gturns (genT t (own.map (·.2)) fi fe ρ M) (s.xs.drop (i + 1)) = some rest ∧ all = zs ++ rest,
      fun ys' H' ⟨a1, a2, a3, a4, a5, a6, a7⟩ => ⟨_, by rw [hm, List.length_cons]; exact Nat.lt_succ_self _, a1, a2, a3, a4, a5, a6, a7, rfl⟩, fun v H' hy => ?_⟩
    obtain ⟨n3, rv⟩ := yl v H' hy
    have nn := n2.trans r.mem n3
    have in3 := it.step _ _ _ _ _ _ in2 n2.mem n3
    have env : REnv X.K H' α (wipeE ρ (own.map (·.2))) (L2.wipe σ (own.map (·.2))) := (nn.env r.mem r.env).wipe _
    have r3 : RSt X.K X.base cv (L2.wipe σ (own.map (·.2))) H' (wipeE ρ (own.map (·.2))) M α := ⟨env, nn.mem, nn.tab, hcv.grow nn.grow fun b hb => r.mem.lst hb, r.trk.grow nn.grow fun b hb => r.mem.lst hb⟩
    refine ⟨_, M, α, x, ρ', r3, rv, f2, fun σ3 re3 sm => ⟨sm.wipe hs, ?_⟩⟩
    have r4 := r3.with re3
    refine tIT.use (X := Cxg X Ac s4 H scope (gEnv scope cl L cv builtinsNs X.env) fp pn) r4 f3 fun H4 α4 n4 r5 => ?_
    have rp3 := n3.rps n2.mem rp2
    have rp4 := n4.rps r4.mem rp3
    rcases f4 with ⟨rfl, rfl, rfl⟩ | ⟨rfl, rr, rfl, f5⟩
    · obtain rfl := n4.same nn.mem rfl
      exact ⟨zs, rest1, nn.trans r.mem n4, it.step _ _ _ _ _ _ in3 nn.mem n4, rp4, hr3, ha⟩
    · refine tI.use (X := Cxg X Ac s4 H scope (gEnv scope cl L cv builtinsNs X.env) fp pn) r5 f5 fun u H5 α5 n5 d5 r6 => ?_
      have n45 := n4.trans nn.mem n5
      obtain rfl := n45.same nn.mem rfl
      have rp5 : RPs X.K H5 α5 (zs ++ [rr]) (ys ++ [u]) := (n5.rps r5.mem rp4).append (by
        show RPs _ _ _ [_] [_]
        unfold RPs
        exact ⟨d5, by unfold RPs; trivial⟩)
      refine ⟨?_, hY zs rr rest1 ys u H5 ha rp5, fun _ => ⟨zs ++ [rr], rest1, nn.trans r.mem n45, it.step _ _ _ _ _ _ in3 nn.mem n45, rp5, hr3, by simpa using ha⟩⟩
      have h1 := congrArg List.length ha
      simp only [List.length_append, Option.toList_some, List.length_cons] at h1
      have := rp2.length
      omega
theorem truth_any {y : P} {b : Bool} {M : Mem} (h : truth [] (.p y) = some b) : truth M (.p y) = some b := by
  cases y with
  | ref i => simp [truth] at h
  | _ => exact h
/-- how many yield ahead of the first that stops -/
def gcount (st : Bool) (F : P → Option (Option P)) : List P → Nat
  | [] => 0
  | x :: r => match F x with
    | some (some y) => match truth [] (.p y) with
      | some b => if b = st then 0 else gcount st F r + 1
      | none => 0
    | _ => gcount st F r
theorem reads_test {st : Bool} {Q : VK} {Ac : Around} {σ : L2.St} {J : It} {s : Src} {In : Hp → List Addr → Prop} {ρ : Env} {M : Mem} {α : List Addr} {H : Hp} {b0 : Bool} (hp : GenP X Ac scope tg elt ifs t fi fe) (hs : ∀ i ∈ t.slots, i ∈ own.map (·.2))
    (r : RS X σ H ρ M α) (it : ItOk X.K J s In) (hIn : In H α) (ho : s.ok M = true) (hr : gtest st (genT t (own.map (·.2)) fi fe ρ M) s.xs = some b0) (hlen : s.xs.length + 1 < sizeLine)
    (hQ : ∀ H', Nx X.K α H α H' M → Q (.bl b0) H') : GX.Reads X (cTest X.K st (fun zs => zs.length ≤ gcount st (genT t (own.map (·.2)) fi fe ρ M) s.xs) fun b H' => Q (.bl b) H') Ac H J elt tg ifs scope own σ := by
  intro Xg hg
  obtain ⟨pg, pt, pe⟩ := hp H Xg hg
  obtain ⟨s4, cl, L, cv, fp, pn, rfl, hcv⟩ := hg
  refine ⟨_, _, _, fun i m ys H' => Nx X.K α H α H' M ∧ In H' α ∧ ys.length ≤ i ∧ ys.length + gcount st (genT t (own.map (·.2)) fi fe ρ M) (s.xs.drop i) = gcount st (genT t (own.map (·.2)) fi fe ρ M) s.xs ∧ gtest st (genT t (own.map (·.2)) fi fe ρ M) (s.xs.drop i) = some b0 ∧ m = (s.xs.drop i).length, _, pg, pt, pe, ?_,
    Nx.refl r.mem r.tab, hIn, Nat.le_refl _, Nat.zero_add _, hr, rfl⟩
  rintro i m ys H2 ⟨n2, in2, hl2, hc2, hr2, hm⟩
  cases hx : s.xs[i]? with
  | none =>
    rw [List.getElem?_eq_none_iff] at hx
    rw [List.drop_eq_nil_of_le hx] at hr2
    cases hr2
    exact .inl ⟨it.fin H2 α M i in2 n2.mem n2.tab ho hx, hQ _ n2⟩
  | some x =>
    obtain ⟨go, yl⟩ := it.atI H2 α M i x in2 n2.mem n2.tab ho hx
    obtain ⟨hlt, hxe⟩ := List.getElem?_eq_some_iff.mp hx
    rw [List.drop_eq_getElem_cons hlt, hxe] at hr2 hm hc2
    obtain ⟨o, f1, hr3⟩ := ob (show (do
      let o ← genT t (own.map (·.2)) fi fe ρ M x
      match o with
      | none => gtest st (genT t (own.map (·.2)) fi fe ρ M) (s.xs.drop (i + 1))
      | some y => do
        let b ← truth [] (.p y)
        if b = st then some st else gtest st (genT t (own.map (·.2)) fi fe ρ M) (s.xs.drop (i + 1))) = some b0 from hr2)
    simp only [gcount, f1] at hc2
    obtain ⟨ρ', b, M1, f2, f3, f4⟩ := genT_some f1
    refine .inr ⟨go, fun ys H' => Nx X.K α H α H' M ∧ In H' α ∧ ys.length ≤ i + 1 ∧ ys.length + gcount st (genT t (own.map (·.2)) fi fe ρ M) (s.xs.drop (i + 1)) = gcount st (genT t (own.map (·.2)) fi fe ρ M) s.xs ∧ gtest st (genT t (own.map (·.2)) fi fe ρ M) (s.xs.drop (i + 1)) = some b0,
      fun ys' H' ⟨a1, a2, a3, a4, a5⟩ => ⟨_, by rw [hm, List.length_cons]; exact Nat.lt_succ_self _, a1, a2, a3, a4, a5, rfl⟩, fun v H' hy => ?_⟩
    obtain ⟨n3, rv⟩ := yl v H' hy
    have nn := n2.trans r.mem n3
    have in3 := it.step _ _ _ _ _ _ in2 n2.mem n3
    have env : REnv X.K H' α (wipeE ρ (own.map (·.2))) (L2.wipe σ (own.map (·.2))) := (nn.env r.mem r.env).wipe _
    have r3 : RSt X.K X.base cv (L2.wipe σ (own.map (·.2))) H' (wipeE ρ (own.map (·.2))) M α := ⟨env, nn.mem, nn.tab, hcv.grow nn.grow fun b hb => r.mem.lst hb, r.trk.grow nn.grow fun b hb => r.mem.lst hb⟩
    refine ⟨_, M, α, x, ρ', r3, rv, f2, fun σ3 re3 sm => ⟨sm.wipe hs, ?_⟩⟩
    have r4 := r3.with re3
    refine tIT.use (X := Cxg X Ac s4 H scope (gEnv scope cl L cv builtinsNs X.env) fp pn) r4 f3 fun H4 α4 n4 r5 => ?_
    rcases f4 with ⟨rfl, rfl, rfl⟩ | ⟨rfl, rr, rfl, f5⟩
    · obtain rfl := n4.same nn.mem rfl
      exact ⟨nn.trans r.mem n4, it.step _ _ _ _ _ _ in3 nn.mem n4, Nat.le_succ_of_le hl2, hc2, hr3⟩
    · refine tI.use (X := Cxg X Ac s4 H scope (gEnv scope cl L cv builtinsNs X.env) fp pn) r5 f5 fun u H5 α5 n5 d5 r6 => ?_
      have n45 := n4.trans nn.mem n5
      obtain rfl := n45.same nn.mem rfl
      obtain ⟨tb, g1, g2⟩ := ob hr3
      have htru : TruV X.K u H5 tb := truth_ok n45.mem d5 (truth_any g1)
      have n5t := nn.trans r.mem n45
      simp only [g1] at hc2
      by_cases e : tb = st
      · rw [if_pos e] at hc2 g2
        cases g2
        exact ⟨by omega, ⟨u, tb, by simp, htru, .inr ⟨e, hQ _ n5t⟩⟩, fun hz => absurd (show (ys ++ [u]).length ≤ _ from hz) (by rw [List.length_append, List.length_singleton]; omega)⟩
      · rw [if_neg e] at hc2 g2
        refine ⟨by omega, ⟨u, tb, by simp, htru, .inl ⟨?_, ?_⟩⟩, fun _ => ⟨n5t, it.step _ _ _ _ _ _ in3 nn.mem n45, by rw [List.length_append, List.length_singleton]; omega, by rw [List.length_append, List.length_singleton]; omega, g2⟩⟩
        · cases tb <;> cases st <;> simp_all
        · show (ys ++ [u]).length ≤ _
          rw [List.length_append, List.length_singleton]; omega
/-- f(generator) of a built-in function, of a type -/
theorem gen_callB {kk : Nat} {x : Str} {id : String} {Q' : Value → Shared → Prop} {pins : List (Addr × Obj)} {σ : L2.St} {H : Hp} {s : Shared} {wi : TI} {R : It → Hp → Prop}
    (hg : Gl X x) (hm : X.mg x = none) (hv : bootBuiltins x = some (.builtin id)) (hn : x ≠ "__name__") (hdb : (x == ("__debug__" : Str)) = false)
    (he : starEach [.GeneratorExp elt [⟨tg, iter, ifs, 0⟩] scope pos] X.env = [(false, eval (.GeneratorExp elt [⟨tg, iter, ifs, 0⟩] scope pos) X.env)]) (he0 : starEach [] X.env = [])
    (hN : X.N.Nodup) (hr : Room kk X.A) (bm : BmAt X.base X.mg) (ok : GenOk X.N X.env.scope scope own) (hcalm : X.calm = true) (hi : PI X tg iter wi) (hs : ∀ x, genFold iter X.env x = pure x)
    (I : Inv X pins σ H s) (h : wi σ H fun J H1 => CodeAt X.base H1 X.env.code ∧ TabAll H1 ∧ R J H1)
    (hQ : ∀ J H1 H2 a gn s5, R J H1 → Grow [] H1 H2 → TabAll H2 → MadeAt X pins σ H2 J elt tg iter ifs scope own pos a gn s5 → wpAny (model X.prog X.w) X.A (call (.builtin id) [.ref a]) Q' X.xe s5) :
    wpAny (model X.prog X.w) X.A (eval (.Call (.Name x p) [.GeneratorExp elt [⟨tg, iter, ifs, 0⟩] scope pos] [] cpos) X.env) Q' X.xe s := by
  refine wpAny_Call_Name_kw (ld_blt I hg hm hv ?_ hn hdb)
  refine PyProof.Rows.callWith_builtin1 ?_ (by rw [he, he0]) (by rw [he0]; rfl)
  rw [he]
  show wpAny _ _ (spliced [(false, _)]) _ _ s
  exact Calls.spliced_cons (gen_made hN hr bm ok hcalm hi hs I h fun J H1 H2 a gn s5 q1 q2 q3 q4 => Calls.spliced_nil (hQ J H1 H2 a gn s5 q1 q2 q3 q4))
theorem gen_callT {kk : Nat} {x : Str} {id : String} {Q' : Value → Shared → Prop} {pins : List (Addr × Obj)} {σ : L2.St} {H : Hp} {s : Shared} {wi : TI} {R : It → Hp → Prop}
    (hg : Gl X x) (hm : X.mg x = none) (hv : bootBuiltins x = some (.type id)) (hn : x ≠ "__name__") (hdb : (x == ("__debug__" : Str)) = false)
    (he : starEach [.GeneratorExp elt [⟨tg, iter, ifs, 0⟩] scope pos] X.env = [(false, eval (.GeneratorExp elt [⟨tg, iter, ifs, 0⟩] scope pos) X.env)]) (he0 : starEach [] X.env = [])
    (hN : X.N.Nodup) (hr : Room kk X.A) (bm : BmAt X.base X.mg) (ok : GenOk X.N X.env.scope scope own) (hcalm : X.calm = true) (hi : PI X tg iter wi) (hs : ∀ x, genFold iter X.env x = pure x)
    (I : Inv X pins σ H s) (h : wi σ H fun J H1 => CodeAt X.base H1 X.env.code ∧ TabAll H1 ∧ R J H1)
    (hQ : ∀ J H1 H2 a gn s5, R J H1 → Grow [] H1 H2 → TabAll H2 → MadeAt X pins σ H2 J elt tg iter ifs scope own pos a gn s5 → wpAny (model X.prog X.w) X.A (call (.type id) [.ref a]) Q' X.xe s5) :
    wpAny (model X.prog X.w) X.A (eval (.Call (.Name x p) [.GeneratorExp elt [⟨tg, iter, ifs, 0⟩] scope pos] [] cpos) X.env) Q' X.xe s := by
  refine wpAny_Call_Name_kw (ld_blt I hg hm hv ?_ hn hdb)
  refine PyProof.Rows.callWith_type1 ?_ (by rw [he, he0]) (by rw [he0]; rfl)
  rw [he]
  show wpAny _ _ (spliced [(false, _)]) _ _ s
  exact Calls.spliced_cons (gen_made hN hr bm ok hcalm hi hs I h fun J H1 H2 a gn s5 q1 q2 q3 q4 => Calls.spliced_nil (hQ J H1 H2 a gn s5 q1 q2 q3 q4))
theorem ints_eq : ∀ {xs : List P} {is : List Int}, intsP xs = some is → xs = is.map P.int
  | [], _, h => by cases h; rfl
  | .int i :: xs, is, h => by
    obtain ⟨is', e1, rfl⟩ := Option.map_eq_some_iff.mp (show (intsP xs).map (i :: ·) = some is from h)
    rw [ints_eq e1]; rfl
  | .non :: _, _, h => by cases h
  | .bl _ :: _, _, h => by cases h
  | .str _ :: _, _, h => by cases h
  | .tup _ :: _, _, h => by cases h
theorem isum_ints (is : List Int) : isum (is.map V.int) = is.sum := by
  unfold isum
  rw [List.map_map]
  show (is.map _).sum = _
  rw [show (vint ∘ V.int) = id from rfl, List.map_id]
/-- the around of a consumer's turns -/
def GKA (A : Around) : GK → Around
  | .tuple => A.in4
  | _ => A.in1.in1
def GKn : GK → Str
  | .tuple => "tuple" | .sum => "sum" | .all => "all" | .any => "any"
theorem s_gen {gk : GK} {kk : Nat} (hg : Gl X (GKn gk)) (hm : X.mg (GKn gk) = none)
    (he : starEach [.GeneratorExp elt [⟨tg, iter, ifs, 0⟩] scope pos] X.env = [(false, eval (.GeneratorExp elt [⟨tg, iter, ifs, 0⟩] scope pos) X.env)]) (he0 : starEach [] X.env = [])
    (hN : X.N.Nodup) (hr : Room kk X.A) (bm : BmAt X.base X.mg) (ok : GenOk X.N X.env.scope scope own) (hcalm : X.calm = true) (hi : PI X tg iter (iS X k fs)) (hs : ∀ x, genFold iter X.env x = pure x)
    (hv : ∀ i ∈ t.slots, i ∈ own.map (·.2)) (hp : GenP X (GKA X.A gk) scope tg elt ifs t fi fe) :
    PE X (.Call (.Name (GKn gk) p) [.GeneratorExp elt [⟨tg, iter, ifs, 0⟩] scope pos] [] cpos) (tI X (genF gk (own.map (·.2)) t k fs fi fe)) := by
  refine ⟨fun pins s0 σ H Q I h => ?_⟩
  obtain ⟨ρ, M, α, d, M', r, e, q⟩ := h
  obtain ⟨⟨ds, M1⟩, e1, e⟩ := ob e
  obtain ⟨s, e2, e⟩ := ob e
  let Rr : It → Hp → Prop := fun J H1 => ∃ α1 In, Nx X.K α H α1 H1 M1 ∧ ItOk X.K J s In ∧ In H1 α1 ∧ s.ok M1 = true
  have hw : iS X k fs σ H fun J H1 => CodeAt X.base H1 X.env.code ∧ TabAll H1 ∧ Rr J H1 :=
    ⟨ρ, M, α, ds, s, M1, r, e1, e2, fun J H1 α1 In n1 it hIn ho => ⟨(r.step n1).code, n1.tab, α1, In, n1, it, hIn, ho⟩⟩
  have nn : ∀ {J H1 H2}, Rr J H1 → Grow [] H1 H2 → TabAll H2 → ∃ α1 In, Nx X.K α H α1 H2 M1 ∧ RS X σ H2 ρ M1 α1 ∧ ItOk X.K J s In ∧ In H2 α1 ∧ s.ok M1 = true := fun {J H1 H2} hR g2 t2 => by
    obtain ⟨α1, In, n1, it, hIn, ho⟩ := hR
    have n2 := Nx.of0 n1.mem g2 t2
    exact ⟨α1, In, n1.trans r.mem n2, r.step (n1.trans r.mem n2), it, it.step _ _ _ _ _ _ hIn n1.mem n2, ho⟩
  cases gk with
  | tuple =>
    obtain ⟨all, e3, e⟩ := Option.bind_eq_some_iff.mp (show (gturns _ s.xs).bind _ = some (d, M') from e)
    split at e <;> try contradiction
    rename_i hl
    cases e
    refine gen_callT (x := "tuple") hg hm PyProof.Rows.boot_tuple (by decide) (by decide) he he0 hN hr bm ok hcalm hi hs I hw fun J H1 H2 a gn s5 hR g2 t2 made => ?_
    obtain ⟨α1, In, n2, r2, it, hIn, ho⟩ := nn hR g2 t2
    refine call_tuple_g hr made fun S => reads_col (C := cTup S _) hp hv r2 it hIn ho e3 hl (fun _ _ _ _ _ _ _ _ => trivial) fun ys H' n3 rp => ?_
    intro pp hpp
    exact new_tup n3.mem n3.tab rp (fun w H'' α'' n4 d4 => q w H'' α'' ((n2.trans r.mem n3).trans r.mem n4) d4) pp hpp
  | sum =>
    obtain ⟨all, e3, e⟩ := Option.bind_eq_some_iff.mp (show (gturns _ s.xs).bind _ = some (d, M') from e)
    obtain ⟨is, e4, e⟩ := Option.bind_eq_some_iff.mp e
    split at e <;> try contradiction
    rename_i hl
    cases e
    refine gen_callB (x := "sum") hg hm PyProof.Rows.boot_sum (by decide) (by decide) he he0 hN hr bm ok hcalm hi hs I hw fun J H1 H2 a gn s5 hR g2 t2 made => ?_
    obtain ⟨α1, In, n2, r2, it, hIn, ho⟩ := nn hR g2 t2
    refine call_sum_g hr made fun S => reads_col (C := cSum S _) hp hv r2 it hIn ho e3 hl (fun zs rr rest ys y H' ha rp => ?_) fun ys H' n3 rp => ?_
    · have h1 := ints_eq e4
      rw [ha] at h1
      have h2 : rr ∈ is.map P.int := by rw [← h1]; simp
      obtain ⟨i, _, rfl⟩ := List.mem_map.mp h2
      refine ⟨i, ?_⟩
      have hl2 := rp.length
      obtain ⟨v, hv1, hv2⟩ := rp.get (i := zs.length) (x := .int i) (by simp)
      simp only [List.length_append, List.length_singleton] at hl2
      rw [List.getElem?_append_right (by omega), show zs.length - ys.length = 0 from by omega] at hv1
      simp at hv1
      subst hv1
      rw [List.getLast?_append]
      simp
      exact hv2
    · rw [ints_ok rp e4]
      show Q (.int (isum _)) H'
      rw [isum_ints]
      exact q _ H' α1 (n2.trans r.mem n3) (by exact rfl)
  | all =>
    have e : (if s.xs.length + 1 < sizeLine then (gtest false (genT t (own.map (·.2)) fi fe ρ M1) s.xs).map fun b => (D.p (.bl b), M1) else none) = some (d, M') := e
    split at e <;> try contradiction
    rename_i hl
    obtain ⟨b0, e3, e⟩ := Option.map_eq_some_iff.mp e
    cases e
    refine gen_callB (x := "all") hg hm PyProof.Rows.boot_all (by decide) (by decide) he he0 hN hr bm ok hcalm hi hs I hw fun J H1 H2 a gn s5 hR g2 t2 made => ?_
    obtain ⟨α1, In, n2, r2, it, hIn, ho⟩ := nn hR g2 t2
    exact call_all_g hr made (reads_test hp hv r2 it hIn ho e3 hl fun H' n3 => q _ H' α1 (n2.trans r.mem n3) (by exact rfl))
  | any =>
    have e : (if s.xs.length + 1 < sizeLine then (gtest true (genT t (own.map (·.2)) fi fe ρ M1) s.xs).map fun b => (D.p (.bl b), M1) else none) = some (d, M') := e
    split at e <;> try contradiction
    rename_i hl
    obtain ⟨b0, e3, e⟩ := Option.map_eq_some_iff.mp e
    cases e
    refine gen_callB (x := "any") hg hm PyProof.Rows.boot_any (by decide) (by decide) he he0 hN hr bm ok hcalm hi hs I hw fun J H1 H2 a gn s5 hR g2 t2 made => ?_
    obtain ⟨α1, In, n2, r2, it, hIn, ho⟩ := nn hR g2 t2
    exact call_any_g hr made (reads_test hp hv r2 it hIn ho e3 hl fun H' n3 => q _ H' α1 (n2.trans r.mem n3) (by exact rfl))
end
end IX
end

section
set_option Elab.async false
set_option autoImplicit false
set_option linter.all false
set_option maxRecDepth 100000
set_option maxHeartbeats 4000000
/-! tuple of a generator expression with two clauses; list and tuple of a range. -/
namespace IX
open PySem PySem.Spec PyProof.Rows L2 GX
def gen2T (t : T) (vs : List Nat) (fi : Env → Mem → Option (Bool × Mem)) (fs1 : Env → Mem → Option (List D × Mem)) (k1 : IK) (t1 : T) (vs1 : List Nat) (fi1 : Env → Mem → Option (Bool × Mem)) (fe : Env → Mem → Option (D × Mem)) (ρ : Env) (M : Mem) : P → Option (List P) := fun x => do
  let ρ' ← t.put x (wipeE ρ vs)
  let (b, M1) ← fi ρ' M
  if b then do
    let (ds1, M2) ← fs1 ρ' M1
    let s1 ← src k1 ds1 M2
    if M2 = M then gturns (genT t1 vs1 fi1 fe ρ' M) s1.xs else none
  else if M1 = M then some [] else none
def gen2F (vs : List Nat) (t : T) (k : IK) (fs : Env → Mem → Option (List D × Mem)) (fi : Env → Mem → Option (Bool × Mem)) (fs1 : Env → Mem → Option (List D × Mem)) (k1 : IK) (t1 : T) (vs1 : List Nat) (fi1 : Env → Mem → Option (Bool × Mem)) (fe : Env → Mem → Option (D × Mem)) : Env → Mem → Option (D × Mem) := fun ρ M => do
  let (ds, M) ← fs ρ M
  let s ← src k ds M
  let ys ← cturns (gen2T t vs fi fs1 k1 t1 vs1 fi1 fe ρ M) s.xs
  if ys.length + 1 < sizeLine then some (.p (.tup ys), M) else none
theorem cturns_cons {F : P → Option (List P)} {x : P} {r : List P} {zs : List P} (h : cturns F (x :: r) = some zs) : ∃ o zs1, F x = some o ∧ cturns F r = some zs1 ∧ zs = o ++ zs1 := by
  obtain ⟨o, e1, h⟩ := ob (show (do
    let o ← F x
    let ys ← cturns F r
    some (o ++ ys)) = some zs from h)
  obtain ⟨ys, e2, h⟩ := ob h
  cases h
  exact ⟨o, ys, e1, e2, rfl⟩
section
variable {X : Cx} {fs fs1 : Env → Mem → Option (List D × Mem)} {fi fi1 : Env → Mem → Option (Bool × Mem)} {fe : Env → Mem → Option (D × Mem)} {k k1 : IK} {t t1 : T} {elt tg iter tg1 iter1 : Expr} {ifs ifs1 : List Expr} {scope : Scope} {own : List (Str × Nat)} {vs1 : List Nat} {pos cpos p : Pos}
theorem gen2T_some {vs : List Nat} {ρ : Env} {M : Mem} {x : P} {o : List P} (h : gen2T t vs fi fs1 k1 t1 vs1 fi1 fe ρ M x = some o) : ∃ ρ' b M1, t.put x (wipeE ρ vs) = some ρ' ∧ fi ρ' M = some (b, M1) ∧
    ((b = false ∧ o = [] ∧ M1 = M) ∨ (b = true ∧ ∃ ds1 s1, fs1 ρ' M1 = some (ds1, M) ∧ src k1 ds1 M = some s1 ∧ gturns (genT t1 vs1 fi1 fe ρ' M) s1.xs = some o)) := by
  obtain ⟨ρ', e1, h⟩ := ob h
  obtain ⟨⟨b, M1⟩, e2, h⟩ := ob h
  refine ⟨ρ', b, M1, e1, e2, ?_⟩
  cases b with
  | false =>
    have h : (if M1 = M then some [] else none) = some o := h
    split at h
    · rename_i e; cases h; exact .inl ⟨rfl, rfl, e⟩
    · cases h
  | true =>
    obtain ⟨⟨ds1, M2⟩, e3, h⟩ := ob h
    obtain ⟨s1, e4, h⟩ := ob h
    split at h
    · rename_i e
      subst e
      exact .inr ⟨rfl, ds1, s1, e3, e4, h⟩
    · cases h
def GenP2 (X : Cx) (Ac : Around) (scope : Scope) (tg tg1 iter1 elt : Expr) (ifs ifs1 : List Expr) (t : T) (fi : Env → Mem → Option (Bool × Mem)) (k1 : IK) (fs1 : Env → Mem → Option (List D × Mem)) (t1 : T) (fi1 : Env → Mem → Option (Bool × Mem)) (fe : Env → Mem → Option (D × Mem)) : Prop :=
  ∀ H Xg, IsG X Xg Ac H scope → PG Xg tg (tGp Xg t) ∧ PTs Xg ifs (tIT Xg fi) ∧ PI Xg tg1 iter1 (iS Xg k1 fs1) ∧ PG Xg tg1 (tGp Xg t1) ∧ PTs Xg ifs1 (tIT Xg fi1) ∧ PE Xg elt (tI Xg fe)
theorem reads_col2 {C : Con} {Ac : Around} {σ : L2.St} {J : It} {s : Src} {In : Hp → List Addr → Prop} {ρ : Env} {M : Mem} {α : List Addr} {H : Hp} {all : List P} (hp : GenP2 X Ac scope tg tg1 iter1 elt ifs ifs1 t fi k1 fs1 t1 fi1 fe) (hs : ∀ i ∈ t.slots, i ∈ own.map (·.2)) (hs1 : ∀ i ∈ t1.slots, i ∈ vs1)
    (r : RS X σ H ρ M α) (it : ItOk X.K J s In) (hIn : In H α) (ho : s.ok M = true) (hr : cturns (gen2T t (own.map (·.2)) fi fs1 k1 t1 vs1 fi1 fe ρ M) s.xs = some all) (hlen : all.length + 1 < sizeLine)
    (hY : ∀ zs r rest ys y H', all = zs ++ r :: rest → RPs X.K H' α (zs ++ [r]) (ys ++ [y]) → C.Yl (ys ++ [y]) H') (hD : ∀ ys H', Nx X.K α H α H' M → RPs X.K H' α all ys → C.Dn ys H') : GX.Reads2 X C Ac H J elt tg tg1 iter1 ifs ifs1 scope own vs1 σ := by
  intro Xg hg
  obtain ⟨pg, pt, pi1, pg1, pt1, pe⟩ := hp H Xg hg
  obtain ⟨s4, cl, L, cv, fp, pn, rfl, hcv⟩ := hg
  refine ⟨_, _, _, _, _, _, fun i m ys H' => ∃ zs rest, Nx X.K α H α H' M ∧ In H' α ∧ RPs X.K H' α zs ys ∧ cturns (gen2T t (own.map (·.2)) fi fs1 k1 t1 vs1 fi1 fe ρ M) (s.xs.drop i) = some rest ∧ all = zs ++ rest ∧ m = (s.xs.drop i).length, _, pg, pt, pi1, pg1, pt1, pe, ?_,
    [], all, Nx.refl r.mem r.tab, hIn, by unfold RPs; trivial, hr, rfl, rfl⟩
  rintro i m ys H2 ⟨zs, rest, n2, in2, rp2, hr2, ha, hm⟩
  cases hx : s.xs[i]? with
  | none =>
    rw [List.getElem?_eq_none_iff] at hx
    rw [List.drop_eq_nil_of_le hx] at hr2
    cases hr2
    rw [List.append_nil] at ha
    subst ha
    exact .inl ⟨it.fin H2 α M i in2 n2.mem n2.tab ho hx, hD _ _ n2 rp2⟩
  | some x =>
    obtain ⟨go, yl⟩ := it.atI H2 α M i x in2 n2.mem n2.tab ho hx
    obtain ⟨hlt, hxe⟩ := List.getElem?_eq_some_iff.mp hx
    rw [List.drop_eq_getElem_cons hlt, hxe] at hr2 hm
    obtain ⟨o, rest1, f1, hr3, rfl⟩ := cturns_cons hr2
    obtain ⟨ρ', b, M1, f2, f3, f4⟩ := gen2T_some f1
    refine .inr ⟨go, fun ys H' => ∃ zs rest, Nx X.K α H α H' M ∧ In H' α ∧ RPs X.K H' α zs ys ∧ cturns (gen2T t (own.map (·.2)) fi fs1 k1 t1 vs1 fi1 fe ρ M) (s.xs.drop (i + 1)) = some rest ∧ all = zs ++ rest,
      fun ys' H' ⟨a1, a2, a3, a4, a5, a6, a7⟩ => ⟨_, by rw [hm, List.length_cons]; exact Nat.lt_succ_self _, a1, a2, a3, a4, a5, a6, a7, rfl⟩, fun v H' hy => ?_⟩
    obtain ⟨n3, rv⟩ := yl v H' hy
    have nn := n2.trans r.mem n3
    have in3 := it.step _ _ _ _ _ _ in2 n2.mem n3
    have env : REnv X.K H' α (wipeE ρ (own.map (·.2))) (L2.wipe σ (own.map (·.2))) := (nn.env r.mem r.env).wipe _
    have r3 : RSt X.K X.base cv (L2.wipe σ (own.map (·.2))) H' (wipeE ρ (own.map (·.2))) M α := ⟨env, nn.mem, nn.tab, hcv.grow nn.grow fun b hb => r.mem.lst hb, r.trk.grow nn.grow fun b hb => r.mem.lst hb⟩
    refine ⟨_, M, α, x, ρ', r3, rv, f2, fun σ3 re3 sm => ⟨sm.wipe hs, ?_⟩⟩
    have r4 := r3.with re3
    refine tIT.use (X := Cxg X Ac s4 H scope (gEnv scope cl L cv builtinsNs X.env) fp pn) r4 f3 fun H4 α4 n4 r5 => ?_
    have rp3 := n3.rps n2.mem rp2
    have rp4 := n4.rps r4.mem rp3
    rcases f4 with ⟨rfl, rfl, rfl⟩ | ⟨rfl, ds1, s1, f5, f6, f7⟩
    · obtain rfl := n4.same nn.mem rfl
      exact ⟨zs, rest1, nn.trans r.mem n4, it.step _ _ _ _ _ _ in3 nn.mem n4, rp4, hr3, ha⟩
    · rw [if_pos rfl]
      refine ⟨ρ', M1, α4, ds1, s1, M, r5, f5, f6, fun J1 H5 α5 In1 n5 it1 hIn1 ho1 => ?_⟩
      have n45 := n4.trans nn.mem n5
      obtain rfl := n45.same nn.mem rfl
      have r6 := r5.step n5
      have nn5 := nn.trans r.mem n45
      have in5 := it.step _ _ _ _ _ _ in3 nn.mem n45
      have rp5 := n5.rps n4.mem rp4
      refine ⟨fun j m ys H' => ∃ zs rest2, Nx X.K α5 H5 α5 H' M ∧ In H' α5 ∧ In1 H' α5 ∧ RPs X.K H' α5 zs ys ∧ gturns (genT t1 vs1 fi1 fe ρ' M) (s1.xs.drop j) = some rest2 ∧ all = zs ++ (rest2 ++ rest1) ∧ m = (s1.xs.drop j).length,
        ⟨_, zs, o, Nx.refl r6.mem r6.tab, in5, hIn1, rp5, f7, ha, rfl⟩, ?_⟩
      rintro j m1 ys1 H6 ⟨zs1, rest2, n6, in6, in61, rp6, hr6, ha6, hm6⟩
      have nn6 := nn5.trans r.mem n6
      cases hx1 : s1.xs[j]? with
      | none =>
        rw [List.getElem?_eq_none_iff] at hx1
        rw [List.drop_eq_nil_of_le hx1] at hr6
        cases hr6
        exact .inl ⟨it1.fin H6 α5 M j in61 n6.mem n6.tab ho1 hx1, zs1, rest1, nn6, in6, rp6, hr3, ha6⟩
      | some x1 =>
        obtain ⟨go1, yl1⟩ := it1.atI H6 α5 M j x1 in61 n6.mem n6.tab ho1 hx1
        obtain ⟨hlt1, hxe1⟩ := List.getElem?_eq_some_iff.mp hx1
        rw [List.drop_eq_getElem_cons hlt1, hxe1] at hr6 hm6
        obtain ⟨o1, rest3, g1, hr7, rfl⟩ := gturns_cons hr6
        obtain ⟨ρ2, b1, M2, g2, g3, g4⟩ := genT_some g1
        refine .inr ⟨go1, fun ys H' => ∃ zs rest2, Nx X.K α5 H5 α5 H' M ∧ In H' α5 ∧ In1 H' α5 ∧ RPs X.K H' α5 zs ys ∧ gturns (genT t1 vs1 fi1 fe ρ' M) (s1.xs.drop (j + 1)) = some rest2 ∧ all = zs ++ (rest2 ++ rest1),
          fun ys' H' ⟨a1, a2, a3, a4, a5, a6, a7, a8⟩ => ⟨_, by rw [hm6, List.length_cons]; exact Nat.lt_succ_self _, a1, a2, a3, a4, a5, a6, a7, a8, rfl⟩, fun v H' hy => ?_⟩
        obtain ⟨n7, rv1⟩ := yl1 v H' hy
        have nn7 := n6.trans r6.mem n7
        have in7 := it.step _ _ _ _ _ _ in6 n6.mem n7
        have in71 := it1.step _ _ _ _ _ _ in61 n6.mem n7
        have env1 : REnv X.K H' α5 (wipeE ρ' vs1) (L2.wipe σ3 vs1) := (nn7.env r6.mem r6.env).wipe _
        have r7 : RSt X.K X.base cv (L2.wipe σ3 vs1) H' (wipeE ρ' vs1) M α5 := ⟨env1, nn7.mem, nn7.tab, r6.code.grow nn7.grow fun b hb => r6.mem.lst hb, r6.trk.grow nn7.grow fun b hb => r6.mem.lst hb⟩
        refine ⟨_, M, α5, x1, ρ2, r7, rv1, g2, fun σ5 re5 sm1 => ⟨sm1.wipe hs1, ?_⟩⟩
        have r8 := r7.with re5
        refine tIT.use (X := Cxg X Ac s4 H scope (gEnv scope cl L cv builtinsNs X.env) fp pn) r8 g3 fun H8 α8 n8 r9 => ?_
        have rp7 := n7.rps n6.mem rp6
        have rp8 := n8.rps r8.mem rp7
        rcases g4 with ⟨rfl, rfl, rfl⟩ | ⟨rfl, rr, rfl, g5⟩
        · obtain rfl := n8.same nn7.mem rfl
          exact ⟨zs1, rest3, nn7.trans r6.mem n8, it.step _ _ _ _ _ _ in7 nn7.mem n8, it1.step _ _ _ _ _ _ in71 nn7.mem n8, rp8, hr7, ha6⟩
        · refine tI.use (X := Cxg X Ac s4 H scope (gEnv scope cl L cv builtinsNs X.env) fp pn) r9 g5 fun u H9 α9 n9 d9 r10 => ?_
          have n89 := n8.trans nn7.mem n9
          obtain rfl := n89.same nn7.mem rfl
          have rp9 : RPs X.K H9 α9 (zs1 ++ [rr]) (ys1 ++ [u]) := (n9.rps r9.mem rp8).append (by
            show RPs _ _ _ [_] [_]
            unfold RPs
            exact ⟨d9, by unfold RPs; trivial⟩)
          refine ⟨?_, hY zs1 rr (rest3 ++ rest1) ys1 u H9 (by simpa using ha6) rp9, fun _ => ⟨zs1 ++ [rr], rest3, nn7.trans r6.mem n89, it.step _ _ _ _ _ _ in7 nn7.mem n89, it1.step _ _ _ _ _ _ in71 nn7.mem n89, rp9, hr7, by simpa using ha6⟩⟩
          have h1 := congrArg List.length ha6
          simp only [List.length_append, Option.toList_some, List.length_cons] at h1
          have := rp6.length
          omega
theorem gen_callT2 {kk : Nat} {x : Str} {id : String} {Q' : Value → Shared → Prop} {pins : List (Addr × Obj)} {σ : L2.St} {H : Hp} {s : Shared} {wi : TI} {R : It → Hp → Prop}
    (hg : Gl X x) (hm : X.mg x = none) (hv : bootBuiltins x = some (.type id)) (hn : x ≠ "__name__") (hdb : (x == ("__debug__" : Str)) = false)
    (he : starEach [.GeneratorExp elt [⟨tg, iter, ifs, 0⟩, ⟨tg1, iter1, ifs1, 0⟩] scope pos] X.env = [(false, eval (.GeneratorExp elt [⟨tg, iter, ifs, 0⟩, ⟨tg1, iter1, ifs1, 0⟩] scope pos) X.env)]) (he0 : starEach [] X.env = [])
    (hN : X.N.Nodup) (hr : Room kk X.A) (bm : BmAt X.base X.mg) (ok : GenOk X.N X.env.scope scope own) (hcalm : X.calm = true) (hi : PI X tg iter wi) (hs : ∀ x, genFold iter X.env x = pure x) (hs1 : ∀ env x, foldedSetIterable iter1 env x = pure x) (hv1 : ∀ i ∈ vs1, i ∈ own.map (·.2))
    (I : Inv X pins σ H s) (h : wi σ H fun J H1 => CodeAt X.base H1 X.env.code ∧ TabAll H1 ∧ R J H1)
    (hQ : ∀ J H1 H2 a gn s5, R J H1 → Grow [] H1 H2 → TabAll H2 → MadeAt2 X pins σ H2 J elt tg iter tg1 iter1 ifs ifs1 scope own vs1 pos a gn s5 → wpAny (model X.prog X.w) X.A (call (.type id) [.ref a]) Q' X.xe s5) :
    wpAny (model X.prog X.w) X.A (eval (.Call (.Name x p) [.GeneratorExp elt [⟨tg, iter, ifs, 0⟩, ⟨tg1, iter1, ifs1, 0⟩] scope pos] [] cpos) X.env) Q' X.xe s := by
  refine wpAny_Call_Name_kw (ld_blt I hg hm hv ?_ hn hdb)
  refine PyProof.Rows.callWith_type1 ?_ (by rw [he, he0]) (by rw [he0]; rfl)
  rw [he]
  show wpAny _ _ (spliced [(false, _)]) _ _ s
  exact Calls.spliced_cons (gen_made2 hN hr bm ok hcalm hi hs hs1 hv1 I h fun J H1 H2 a gn s5 q1 q2 q3 q4 => Calls.spliced_nil (hQ J H1 H2 a gn s5 q1 q2 q3 q4))
theorem s_gen2 {kk : Nat} (hg : Gl X "tuple") (hm : X.mg "tuple" = none)
    (he : starEach [.GeneratorExp elt [⟨tg, iter, ifs, 0⟩, ⟨tg1, iter1, ifs1, 0⟩] scope pos] X.env = [(false, eval (.GeneratorExp elt [⟨tg, iter, ifs, 0⟩, ⟨tg1, iter1, ifs1, 0⟩] scope pos) X.env)]) (he0 : starEach [] X.env = [])
    (hN : X.N.Nodup) (hr : Room kk X.A) (bm : BmAt X.base X.mg) (ok : GenOk X.N X.env.scope scope own) (hcalm : X.calm = true) (hi : PI X tg iter (iS X k fs)) (hs : ∀ x, genFold iter X.env x = pure x) (hs1 : ∀ env x, foldedSetIterable iter1 env x = pure x)
    (hv : ∀ i ∈ t.slots, i ∈ own.map (·.2)) (hv1 : ∀ i ∈ t1.slots, i ∈ own.map (·.2)) (hp : GenP2 X X.A.in4 scope tg tg1 iter1 elt ifs ifs1 t fi k1 fs1 t1 fi1 fe) :
    PE X (.Call (.Name "tuple" p) [.GeneratorExp elt [⟨tg, iter, ifs, 0⟩, ⟨tg1, iter1, ifs1, 0⟩] scope pos] [] cpos) (tI X (gen2F (own.map (·.2)) t k fs fi fs1 k1 t1 t1.slots fi1 fe)) := by
  refine ⟨fun pins s0 σ H Q I h => ?_⟩
  obtain ⟨ρ, M, α, d, M', r, e, q⟩ := h
  obtain ⟨⟨ds, M1⟩, e1, e⟩ := ob e
  obtain ⟨s, e2, e⟩ := ob e
  let Rr : It → Hp → Prop := fun J H1 => ∃ α1 In, Nx X.K α H α1 H1 M1 ∧ ItOk X.K J s In ∧ In H1 α1 ∧ s.ok M1 = true
  have hw : iS X k fs σ H fun J H1 => CodeAt X.base H1 X.env.code ∧ TabAll H1 ∧ Rr J H1 :=
    ⟨ρ, M, α, ds, s, M1, r, e1, e2, fun J H1 α1 In n1 it hIn ho => ⟨(r.step n1).code, n1.tab, α1, In, n1, it, hIn, ho⟩⟩
  have nn : ∀ {J H1 H2}, Rr J H1 → Grow [] H1 H2 → TabAll H2 → ∃ α1 In, Nx X.K α H α1 H2 M1 ∧ RS X σ H2 ρ M1 α1 ∧ ItOk X.K J s In ∧ In H2 α1 ∧ s.ok M1 = true := fun {J H1 H2} hR g2 t2 => by
    obtain ⟨α1, In, n1, it, hIn, ho⟩ := hR
    have n2 := Nx.of0 n1.mem g2 t2
    exact ⟨α1, In, n1.trans r.mem n2, r.step (n1.trans r.mem n2), it, it.step _ _ _ _ _ _ hIn n1.mem n2, ho⟩
  obtain ⟨all, e3, e⟩ := ob e
  split at e <;> try contradiction
  rename_i hl
  cases e
  refine gen_callT2 (x := "tuple") hg hm PyProof.Rows.boot_tuple (by decide) (by decide) he he0 hN hr bm ok hcalm hi hs hs1 hv1 I hw fun J H1 H2 a gn s5 hR g2 t2 made => ?_
  obtain ⟨α1, In, n2, r2, it, hIn, ho⟩ := nn hR g2 t2
  refine call_tuple_g2 hr made fun S => reads_col2 (C := cTup S _) hp hv (fun i hi => hi) r2 it hIn ho e3 hl (fun _ _ _ _ _ _ _ _ => trivial) fun ys H' n3 rp => ?_
  intro pp hpp
  exact new_tup n3.mem n3.tab rp (fun w H'' α'' n4 d4 => q w H'' α'' ((n2.trans r.mem n3).trans r.mem n4) d4) pp hpp
/-! list(range(..)), tuple(range(..)) -/
theorem rg_rps {K : PySem.W.Frag} {H : Hp} {α : List Addr} (a b : Int) : RPs K H α (rangeP a (b - a).toNat) (rgV a b) := by
  have key : ∀ (n : Nat) (a : Int), RPs K H α (rangeP a n) ((List.range n).map fun i => V.int (a + (i : Nat))) := by
    intro n
    induction n with
    | zero => intro a; simp [rangeP, RPs]
    | succ n ih =>
      intro a
      rw [List.range_succ_eq_map, List.map_cons, List.map_map]
      show RPs K H α (.int a :: rangeP (a + 1) n) _
      unfold RPs
      refine ⟨?_, ?_⟩
      · show V.int _ = V.int _
        simp
      · have := ih (a + 1)
        have e : ((fun i : Nat => V.int (a + (i : Nat))) ∘ Nat.succ) = fun i : Nat => V.int (a + 1 + (i : Nat)) := by
          funext i
          show V.int (a + ((i + 1 : Nat) : Int)) = _
          congr 1; omega
        rw [e]; exact this
  exact key _ a
theorem rg_len (a b : Int) : (rangeP a (b - a).toNat).length = (b - a).toNat := by rw [rangeP_eq]; simp
def rngOf (ds : List D) : Option (Int × Int) := match ds with
  | [.p (.int n)] => some (0, n)
  | [.p (.int a), .p (.int n)] => some (a, n)
  | _ => none
theorem rangeL_some {b : Bool} {ds : List D} {M M' : Mem} {d : D} (h : rangeL b ds M = some (d, M')) : ∃ lo hi, rngOf ds = some (lo, hi) ∧ RgOk lo hi ∧ (if b then newl (rangeP lo (hi - lo).toNat) M else one (.tup (rangeP lo (hi - lo).toNat)) M) = some (d, M') := by
  have sm : ∀ {i : Int}, small i = true → -(2 ^ 62) ≤ i ∧ i < 2 ^ 62 := fun {i} h => by
    unfold small at h
    rw [Bool.and_eq_true, decide_eq_true_eq, decide_eq_true_eq] at h; exact h
  unfold rangeL at h
  split at h <;> try contradiction
  · split at h <;> try contradiction
    rename_i n hc
    rw [Bool.and_eq_true, decide_eq_true_eq] at hc
    have e : (n - 0).toNat = n.toNat := by rw [Int.sub_zero]
    refine ⟨0, n, rfl, ⟨by decide, by decide, (sm hc.1).1, (sm hc.1).2, by rw [e]; exact hc.2⟩, by rw [e]; exact h⟩
  · split at h <;> try contradiction
    rename_i a n hc
    simp only [Bool.and_eq_true, decide_eq_true_eq] at hc
    exact ⟨a, n, rfl, ⟨(sm hc.1.1).1, (sm hc.1.1).2, (sm hc.1.2).1, (sm hc.1.2).2, hc.2⟩, h⟩
theorem s_rl1 {V : Wd} {G : Str → Option P} {A : E} {a : Expr} {p2 pos2 : Pos} (hc : X.calm = true) (hg : Gl X "list") (hm : X.mg "list" = none) (hgr : Gl X "range") (hmr : X.mg "range" = none) (he : PE X a (tI X (evE V G A))) (na : starEach [a] X.env = (false, eval a X.env) :: starEach [] X.env) :
    PE X (.Call (.Name "list" p) [.Call (.Name "range" p2) [a] [] pos2] [] pos) (tI X (evE V G (.rl true [A]))) := (pe_listRg hc hg hm (prg_1 hgr hmr he na)).weak fun σ H Q h => by
  obtain ⟨ρ, M, α, d, M', r0, e, q⟩ := h
  obtain ⟨⟨ds, M1⟩, e1, e⟩ := ob e
  obtain ⟨⟨x, M2⟩, f1, e1⟩ := ob (show (do
      let (x, M) ← evE V G A ρ M
      let (xs, M) ← evEs V G [] ρ M
      some (x :: xs, M)) = some (ds, M1) from e1)
  cases e1
  obtain ⟨lo, hi, e2, ok, e3⟩ := rangeL_some e
  have ex : x = .p (.int hi) ∧ lo = 0 := by
    unfold rngOf at e2
    split at e2 <;> try contradiction
    · rename_i n hx
      cases hx; cases e2; exact ⟨rfl, rfl⟩
    · rename_i hx; cases hx
  obtain ⟨rfl, rfl⟩ := ex
  refine tI.use r0 f1 fun v H1 α1 n1 d1 r1 => ⟨hi, rd_int d1, ok, ?_⟩
  obtain ⟨hl, rfl, rfl⟩ := newl_some (show newl _ _ = some (d, M') from e3)
  exact new_lst r1.mem r1.tab (rg_rps _ _) fun w H' α' n d => q w H' α' (n1.trans r0.mem n) d
theorem s_rl2 {V : Wd} {G : Str → Option P} {A B : E} {a b : Expr} {p2 pos2 : Pos} (hc : X.calm = true) (hg : Gl X "list") (hm : X.mg "list" = none) (hgr : Gl X "range") (hmr : X.mg "range" = none) (he : PE X a (tI X (evE V G A))) (hb : PE X b (tI X (evE V G B))) (na : starEach [a, b] X.env = (false, eval a X.env) :: starEach [b] X.env) (nb : starEach [b] X.env = (false, eval b X.env) :: starEach [] X.env) (hp : (backTo pos2 (starEach [b] X.env)).any (·.1) = false) :
    PE X (.Call (.Name "list" p) [.Call (.Name "range" p2) [a, b] [] pos2] [] pos) (tI X (evE V G (.rl true [A, B]))) := (pe_listRg hc hg hm (prg_2 hgr hmr he hb na nb hp)).weak fun σ H Q h => by
  obtain ⟨ρ, M, α, d, M', r0, e, q⟩ := h
  obtain ⟨⟨ds, M1⟩, e1, e⟩ := ob e
  obtain ⟨⟨x, M2⟩, f1, e1⟩ := ob (show (do
      let (x, M) ← evE V G A ρ M
      let (xs, M) ← evEs V G [B] ρ M
      some (x :: xs, M)) = some (ds, M1) from e1)
  obtain ⟨⟨xs, M3⟩, f2, e1⟩ := ob e1
  cases e1
  obtain ⟨⟨y, M4⟩, f3, f2⟩ := ob (show (do
      let (x, M) ← evE V G B ρ M2
      let (xs, M) ← evEs V G [] ρ M
      some (x :: xs, M)) = some (xs, _) from f2)
  cases f2
  obtain ⟨lo, hi, e2, ok, e3⟩ := rangeL_some e
  have ex : x = .p (.int lo) ∧ y = .p (.int hi) := by
    unfold rngOf at e2
    split at e2 <;> try contradiction
    · rename_i hx; cases hx
    · rename_i u v hx
      cases hx; cases e2; exact ⟨rfl, rfl⟩
  obtain ⟨rfl, rfl⟩ := ex
  refine tI.use r0 f1 fun v H1 α1 n1 d1 r1 => ?_
  refine tI.use r1 f3 fun v2 H2 α2 n2 d2 r2 => ⟨lo, hi, rd_int (n2.rd r1.mem d1), rd_int d2, ok, ?_⟩
  obtain ⟨hl, rfl, rfl⟩ := newl_some (show newl _ _ = some (d, M') from e3)
  exact new_lst r2.mem r2.tab (rg_rps _ _) fun w H' α' n d => q w H' α' ((n1.trans r0.mem n2).trans r0.mem n) d
theorem s_rt1 {V : Wd} {G : Str → Option P} {A : E} {a : Expr} {p2 pos2 : Pos} (hc : X.calm = true) (hg : Gl X "tuple") (hm : X.mg "tuple" = none) (hgr : Gl X "range") (hmr : X.mg "range" = none) (he : PE X a (tI X (evE V G A))) (na : starEach [a] X.env = (false, eval a X.env) :: starEach [] X.env) :
    PE X (.Call (.Name "tuple" p) [.Call (.Name "range" p2) [a] [] pos2] [] pos) (tI X (evE V G (.rl false [A]))) := (pe_tupRg hc hg hm (prg_1 hgr hmr he na)).weak fun σ H Q h => by
  obtain ⟨ρ, M, α, d, M', r0, e, q⟩ := h
  obtain ⟨⟨ds, M1⟩, e1, e⟩ := ob e
  obtain ⟨⟨x, M2⟩, f1, e1⟩ := ob (show (do
      let (x, M) ← evE V G A ρ M
      let (xs, M) ← evEs V G [] ρ M
      some (x :: xs, M)) = some (ds, M1) from e1)
  cases e1
  obtain ⟨lo, hi, e2, ok, e3⟩ := rangeL_some e
  have ex : x = .p (.int hi) ∧ lo = 0 := by
    unfold rngOf at e2
    split at e2 <;> try contradiction
    · rename_i n hx
      cases hx; cases e2; exact ⟨rfl, rfl⟩
    · rename_i hx; cases hx
  obtain ⟨rfl, rfl⟩ := ex
  refine tI.use r0 f1 fun v H1 α1 n1 d1 r1 => ⟨hi, rd_int d1, ok, ?_⟩
  obtain ⟨rfl, rfl⟩ := one_some (show one _ _ = some (d, M') from e3)
  exact new_tup r1.mem r1.tab (rg_rps _ _) fun w H' α' n d => q w H' α' (n1.trans r0.mem n) d
theorem s_rt2 {V : Wd} {G : Str → Option P} {A B : E} {a b : Expr} {p2 pos2 : Pos} (hc : X.calm = true) (hg : Gl X "tuple") (hm : X.mg "tuple" = none) (hgr : Gl X "range") (hmr : X.mg "range" = none) (he : PE X a (tI X (evE V G A))) (hb : PE X b (tI X (evE V G B))) (na : starEach [a, b] X.env = (false, eval a X.env) :: starEach [b] X.env) (nb : starEach [b] X.env = (false, eval b X.env) :: starEach [] X.env) (hp : (backTo pos2 (starEach [b] X.env)).any (·.1) = false) :
    PE X (.Call (.Name "tuple" p) [.Call (.Name "range" p2) [a, b] [] pos2] [] pos) (tI X (evE V G (.rl false [A, B]))) := (pe_tupRg hc hg hm (prg_2 hgr hmr he hb na nb hp)).weak fun σ H Q h => by
  obtain ⟨ρ, M, α, d, M', r0, e, q⟩ := h
  obtain ⟨⟨ds, M1⟩, e1, e⟩ := ob e
  obtain ⟨⟨x, M2⟩, f1, e1⟩ := ob (show (do
      let (x, M) ← evE V G A ρ M
      let (xs, M) ← evEs V G [B] ρ M
      some (x :: xs, M)) = some (ds, M1) from e1)
  obtain ⟨⟨xs, M3⟩, f2, e1⟩ := ob e1
  cases e1
  obtain ⟨⟨y, M4⟩, f3, f2⟩ := ob (show (do
      let (x, M) ← evE V G B ρ M2
      let (xs, M) ← evEs V G [] ρ M
      some (x :: xs, M)) = some (xs, _) from f2)
  cases f2
  obtain ⟨lo, hi, e2, ok, e3⟩ := rangeL_some e
  have ex : x = .p (.int lo) ∧ y = .p (.int hi) := by
    unfold rngOf at e2
    split at e2 <;> try contradiction
    · rename_i hx; cases hx
    · rename_i u v hx
      cases hx; cases e2; exact ⟨rfl, rfl⟩
  obtain ⟨rfl, rfl⟩ := ex
  refine tI.use r0 f1 fun v H1 α1 n1 d1 r1 => ?_
  refine tI.use r1 f3 fun v2 H2 α2 n2 d2 r2 => ⟨lo, hi, rd_int (n2.rd r1.mem d1), rd_int d2, ok, ?_⟩
  obtain ⟨rfl, rfl⟩ := one_some (show one _ _ = some (d, M') from e3)
  exact new_tup r2.mem r2.tab (rg_rps _ _) fun w H' α' n d => q w H' α' ((n1.trans r0.mem n2).trans r0.mem n) d
end
end IX
end

section
set_option Elab.async false
set_option autoImplicit false
set_option linter.all false
set_option maxRecDepth 100000
set_option maxHeartbeats 4000000
/-! a display of two int keys, indexed at once. -/
namespace IX
open PySem PySem.Spec PyProof.Rows L2 GX
section
variable {K : PySem.W.Frag} {H : Hp} {p : Addr} {kvs kvs' : List (Key × V)}
theorem at_dk {a : Addr} {o o' : HO} (hp : H p = some (.dK kvs)) (e : H a = some o) (hn : ∀ m, o ≠ .dK m) : upd H p o' a = some o := by
  rw [upd_ne]
  · exact e
  · intro z
    rw [z, hp] at e
    cases e
    exact hn kvs rfl
theorem sqt_dk {a : Addr} {xs : List V} {o' : HO} (hp : H p = some (.dK kvs)) (h : SqT K H a xs) : SqT K (upd H p o') a xs := by
  rcases h with (h | ⟨o, h⟩) | h
  · exact .inl (.inl (at_dk hp h fun m z => by cases z))
  · exact .inl (.inr ⟨o, at_dk hp h fun m z => by cases z⟩)
  · exact .inr h
mutual
theorem RP.dk {α : List Addr} {o' : HO} (hp : H p = some (.dK kvs)) : ∀ (x : P) (v : V), RP K H α x v → RP K (upd H p o') α x v
  | .non, _, h => h
  | .bl _, _, h => h
  | .int _, _, h => h
  | .str _, _, h => h
  | .tup l, v, h => by
    unfold RP at h ⊢
    obtain ⟨a, vs, e, q, r⟩ := h
    exact ⟨a, vs, e, sqt_dk hp q, RPs.dk hp l vs r⟩
  | .ref i, v, h => by
    unfold RP at h ⊢
    exact h
theorem RPs.dk {α : List Addr} {o' : HO} (hp : H p = some (.dK kvs)) : ∀ (xs : List P) (vs : List V), RPs K H α xs vs → RPs K (upd H p o') α xs vs
  | [], [], _ => by unfold RPs; trivial
  | x :: xs, v :: vs, h => by
    unfold RPs at h ⊢
    exact ⟨RP.dk hp x v h.1, RPs.dk hp xs vs h.2⟩
  | [], _ :: _, h => by unfold RPs at h; exact h.elim
  | _ :: _, [], h => by unfold RPs at h; exact h.elim
end
theorem rd_dk {α : List Addr} {o' : HO} (hp : H p = some (.dK kvs)) {d : D} {v : V} (h : RD K H α d v) : RD K (upd H p o') α d v := by
  cases d with
  | p x => exact RP.dk hp x v h
  | scr xs =>
    obtain ⟨a, vs, e, q, r⟩ := h
    refine ⟨a, vs, e, ?_, RPs.dk hp _ _ r⟩
    rcases q with ⟨q | ⟨o, q⟩, hn⟩ | q
    · exact .inl ⟨.inl (at_dk hp q fun m z => by cases z), hn⟩
    · exact .inl ⟨.inr ⟨o, at_dk hp q fun m z => by cases z⟩, hn⟩
    · exact .inr q
theorem rm_dk {α : List Addr} {M : Mem} {o' : HO} (m : RM K H α M) (hp : H p = some (.dK kvs)) : RM K (upd H p o') α M := ⟨m.nd, m.len, fun i a xs e1 e2 => by
  obtain ⟨vs, q, r⟩ := m.cell i a xs e1 e2
  exact ⟨vs, at_dk hp q (fun m z => by cases z), RPs.dk hp _ _ r⟩⟩
theorem tab_dk (t : TabAll H) (hp : H p = some (.dK kvs)) : TabAll (upd H p (.dK kvs')) := fun Pa ps e => by
  by_cases h : Pa = p
  · rw [h, upd_same] at e; cases e
  · rw [upd_ne h] at e
    obtain ⟨t1, t2⟩ := t Pa ps e
    refine ⟨t1, fun pos cv hc => ?_⟩
    obtain ⟨c, P', o, e1, e2, e3, e4, ps', e5⟩ := t2 pos cv hc
    exact ⟨c, P', o, e1, e2, at_dk hp e3 (fun m z => by cases z), e4, ps', at_dk hp e5 (fun m z => by cases z)⟩
theorem Nx.ownD {H0 : Hp} {α0 α : List Addr} {M : Mem} (n : Nx K α0 H0 α H M) (h0 : H0 p = none) (e : H p = some (.dK kvs)) : Nx K α0 H0 α (upd H p (.dK kvs')) M := by
  refine ⟨fun b o hb => ?_, n.ext, rm_dk n.mem e, tab_dk n.tab e⟩
  have hne : b ≠ p := fun z => by rw [z, h0] at hb; cases hb
  rcases n.grow b o hb with q | q | ⟨q, ps, q'⟩
  · exact .inl q
  · exact .inr (.inl (by rw [upd_ne hne]; exact q))
  · exact .inr (.inr ⟨q, ps, by rw [upd_ne hne]; exact q'⟩)
theorem Nx.keepK {H' : Hp} {α α' : List Addr} {M M' : Mem} (n : Nx K α H α' H' M') (m : RM K H α M) (e : H p = some (.dK kvs)) : H' p = some (.dK kvs) :=
  grow_at (fun b hb => m.lst hb) n.grow e (fun z => by
    obtain ⟨vs, q⟩ := m.lst z
    rw [e] at q; cases q) fun ps z => by cases z
end
section
variable {X : Cx} {k1 k2 e1 e2 i : Expr} {dp sp : Pos} {f1 f2 fi : Env → Mem → Option (D × Mem)} {a b : Int}
def dsubF (a b : Int) (f1 f2 fi : Env → Mem → Option (D × Mem)) : Env → Mem → Option (D × Mem) := fun ρ M => do
  let (x, M) ← f1 ρ M
  let (y, M) ← f2 ρ M
  let (k, M) ← fi ρ M
  match k with
  | .p (.int n) => if n = a then some (x, M) else if n = b then some (y, M) else none
  | _ => none
theorem s_dsub (hu : X.A.units + 1 < cLine) (hab : a ≠ b) (hk1 : PE X k1 (tC (.int a))) (hk2 : PE X k2 (tC (.int b))) (h1 : PE X e1 (tI X f1)) (h2 : PE X e2 (tI X f2)) (hi : PE X i (tI X fi)) (hs : NoSl i) :
    PE X (.Subscript (.Dict [some k1, some k2] [e1, e2] dp) i sp) (tI X (dsubF a b f1 f2 fi)) := by
  refine (pe_dget hu (pe_disp (pps_cons hk1 h1 (pps_cons hk2 h2 pps_nil)) rfl rfl (by simp) (by simp)) hi hs).weak fun σ H Q h => ?_
  obtain ⟨ρ, M, α, d, M', r, e, q⟩ := h
  obtain ⟨⟨x, M1⟩, x1, e⟩ := ob e
  obtain ⟨⟨y, M2⟩, x2, e⟩ := ob e
  obtain ⟨⟨k, M3⟩, x3, e⟩ := ob e
  dsimp only at x2 x3 e
  intro p hp
  have n0 := Nx.new r.mem r.tab (o := .dK []) hp fun ps z => by cases z
  have r0 := r.step n0
  show tI X f1 σ _ _
  refine tI.use r0 x1 fun v1 H1 α1 n1 d1 r1 => ?_
  show tI X f2 σ _ _
  refine tI.use r1 x2 fun v2 H2 α2 n2 d2 r2 => ?_
  have hp1 : H1 p = some (.dK []) := Nx.keepK n1 r0.mem (upd_same ..)
  have hp2 : H2 p = some (.dK []) := Nx.keepK n2 r1.mem hp1
  refine ⟨hp2, [(.inl a, v1), (.inl b, v2)], rfl, by simp, ?_⟩
  have N2 : Nx X.K α H α2 H2 M2 := ((n0.trans r.mem n1).trans r.mem n2)
  have N3 := N2.ownD (kvs' := mergeK [] [(.inl a, v1), (.inl b, v2)]) hp hp2
  have r3 := r.step N3
  have d1' := n2.rd r1.mem d1
  refine tI.use r3 x3 fun kv H4 α4 n4 dk r4 => ?_
  have hp4 : H4 p = some (.dK (mergeK [] [(.inl a, v1), (.inl b, v2)])) := Nx.keepK n4 r3.mem (upd_same ..)
  have w1 : RD X.K H4 α4 x v1 := n4.rd r3.mem (rd_dk hp2 d1')
  have w2 : RD X.K H4 α4 y v2 := n4.rd r3.mem (rd_dk hp2 d2)
  have g1 : valV (mergeK [] [(Sum.inl a, v1), (Sum.inl b, v2)] : List (Key × V)) (.inl a) = some v1 := by simp [mergeK, putK, valV, hab]
  have g2 : valV (mergeK [] [(Sum.inl a, v1), (Sum.inl b, v2)] : List (Key × V)) (.inl b) = some v2 := by simp [mergeK, putK, valV, hab]
  split at e <;> try contradiction
  rename_i n
  have ek := rd_int dk
  subst ek
  split at e
  · rename_i hn
    cases e
    subst hn
    exact ⟨p, v1, rfl, .inl ⟨_, .inl n, .inl hp4, rfl, g1.symm⟩, q v1 H4 α4 (N3.trans r.mem n4) w1⟩
  · split at e <;> try contradiction
    rename_i hn
    cases e
    subst hn
    exact ⟨p, v2, rfl, .inl ⟨_, .inl n, .inl hp4, rfl, g2.symm⟩, q v2 H4 α4 (N3.trans r.mem n4) w2⟩
end
end IX
end

section
set_option Elab.async false
set_option autoImplicit false
set_option linter.all false
set_option maxRecDepth 100000
set_option maxHeartbeats 4000000
/-! Calls of the text's own defs; a def's promise. -/
namespace IX
open PySem PySem.Spec PyProof.Rows L2 GX
/-- the promise of a def that gives what w gives -/
def spI (K : PySem.W.Frag) (np : Nat) (w : List D → Mem → Option (D × Mem)) : Sp := fun vs H Q _ => vs.length = np ∧ ∃ α ds M d M', RM K H α M ∧ TabAll H ∧ Trk K H ∧ RDs K H α ds vs ∧ w ds M = some (d, M') ∧
  ∀ v H' α', Nx K α H α' H' M' → RD K H' α' d v → Q v H'
section
variable {K : PySem.W.Frag} {H H' : Hp} {α α' : List Addr} {M M' : Mem}
theorem getAll_len {A : Type} {xs : List A} : ∀ {is : List Nat} {ys : List A}, getAll xs is = some ys → ys.length = is.length
  | [], ys, h => by cases h; rfl
  | i :: is, ys, h => by
    obtain ⟨x, e1, h⟩ := ob (show (do
      let x ← xs[i]?
      let rs ← getAll xs is
      some (x :: rs)) = some ys from h)
    obtain ⟨rs, e2, h⟩ := ob h
    cases h
    rw [List.length_cons, List.length_cons, getAll_len e2]
theorem getAll_get {A : Type} {xs : List A} : ∀ {is : List Nat} {ys : List A} {j i : Nat}, getAll xs is = some ys → is[j]? = some i → ys[j]? = xs[i]? ∧ ∃ y, xs[i]? = some y
  | [], _, _, _, _, h' => by simp at h'
  | i :: is, ys, j, i', h, h' => by
    obtain ⟨x, e1, h⟩ := ob (show (do
      let x ← xs[i]?
      let rs ← getAll xs is
      some (x :: rs)) = some ys from h)
    obtain ⟨rs, e2, h⟩ := ob h
    cases h
    cases j with
    | zero => simp at h'; subst h'; exact ⟨by simp [e1], x, e1⟩
    | succ j =>
      rw [List.getElem?_cons_succ] at h' ⊢
      exact getAll_get e2 h'
theorem getAll_mem {A : Type} {xs : List A} {is : List Nat} {ys : List A} (h : getAll xs is = some ys) : ∀ y ∈ ys, y ∈ xs := fun y hy => by
  obtain ⟨j, hj, e⟩ := List.mem_iff_getElem.mp hy
  have hj' : j < is.length := by rw [← getAll_len h]; exact hj
  obtain ⟨e1, z, e2⟩ := getAll_get (j := j) (i := is[j]) h (List.getElem?_eq_getElem hj')
  rw [List.getElem?_eq_getElem hj, e, e2] at e1
  cases e1
  exact List.mem_of_getElem? e2
theorem getAll_nodup {A : Type} {xs : List A} (hx : xs.Nodup) {is : List Nat} {ys : List A} (h : getAll xs is = some ys) (hi : is.Nodup) : ys.Nodup := by
  induction is generalizing ys with
  | nil => cases h; exact List.nodup_nil
  | cons i is ih =>
    obtain ⟨x, e1, h⟩ := ob (show (do
      let x ← xs[i]?
      let rs ← getAll xs is
      some (x :: rs)) = some ys from h)
    obtain ⟨rs, e2, h⟩ := ob h
    cases h
    rw [List.nodup_cons] at hi ⊢
    refine ⟨fun hm => ?_, ih e2 hi.2⟩
    obtain ⟨j, hj, e⟩ := List.mem_iff_getElem.mp hm
    have hj' : j < is.length := by rw [← getAll_len e2]; exact hj
    obtain ⟨e3, z, e4⟩ := getAll_get (j := j) (i := is[j]) e2 (List.getElem?_eq_getElem hj')
    rw [List.getElem?_eq_getElem hj, e, e4] at e3
    cases e3
    have : is[j] = i := (List.getElem?_inj (List.getElem?_eq_some_iff.mp e4).1 hx).mp (e4.trans e1.symm)
    exact hi.1 (by rw [← this]; exact List.getElem_mem hj')
mutual
theorem rp_und : ∀ (x : P) (v : V), RP K H α x v → x.und α.length = true
  | .non, _, _ => by simp [P.und]
  | .bl _, _, _ => by simp [P.und]
  | .int _, _, _ => by simp [P.und]
  | .str _, _, _ => by simp [P.und]
  | .tup l, v, h => by
    unfold RP at h
    obtain ⟨a, vs, _, _, r⟩ := h
    unfold P.und
    exact rps_und l vs r
  | .ref i, v, h => by
    unfold RP at h
    obtain ⟨a, e, _⟩ := h
    unfold P.und
    exact decide_eq_true (List.getElem?_eq_some_iff.mp e).1
theorem rps_und : ∀ (xs : List P) (vs : List V), RPs K H α xs vs → P.unds α.length xs = true
  | [], _, _ => by simp [P.unds]
  | x :: xs, v :: vs, h => by
    unfold RPs at h
    unfold P.unds
    rw [rp_und x v h.1, rps_und xs vs h.2]; rfl
  | _ :: _, [], h => by unfold RPs at h; exact h.elim
end
mutual
theorem rp_back (hp : Pre α α') : ∀ (x : P) (v : V), x.und α.length = true → RP K H α' x v → RP K H α x v
  | .non, _, _, h => h
  | .bl _, _, _, h => h
  | .int _, _, _, h => h
  | .str _, _, _, h => h
  | .tup l, v, u, h => by
    unfold P.und at u
    unfold RP at h ⊢
    obtain ⟨a, vs, e, q, r⟩ := h
    exact ⟨a, vs, e, q, rps_back hp l vs u r⟩
  | .ref i, v, u, h => by
    unfold P.und at u
    have hi := of_decide_eq_true u
    unfold RP at h ⊢
    obtain ⟨a, e, q⟩ := h
    have e2 := hp i _ (List.getElem?_eq_getElem hi)
    rw [e] at e2
    cases e2
    exact ⟨_, List.getElem?_eq_getElem hi, q⟩
theorem rps_back (hp : Pre α α') : ∀ (xs : List P) (vs : List V), P.unds α.length xs = true → RPs K H α' xs vs → RPs K H α xs vs
  | [], [], _, _ => by unfold RPs; trivial
  | x :: xs, v :: vs, u, h => by
    unfold P.unds at u
    rw [Bool.and_eq_true] at u
    unfold RPs at h ⊢
    exact ⟨rp_back hp x v u.1 h.1, rps_back hp xs vs u.2 h.2⟩
  | [], _ :: _, _, h => by unfold RPs at h; exact h.elim
  | _ :: _, [], _, h => by unfold RPs at h; exact h.elim
end
theorem unds_all : ∀ {n : Nat} {xs : List P}, xs.all (P.und n) = true → P.unds n xs = true
  | _, [], _ => by simp [P.unds]
  | n, x :: xs, h => by
    rw [List.all_cons, Bool.and_eq_true] at h
    unfold P.unds
    rw [h.1, unds_all h.2]; rfl
theorem back_ok {d0 d : D} {M1 : Mem} {H1 : Hp} {α1 : List Addr} (m : RM K H α M) (n : Nx K α H α1 H1 M1) (ho : back M d0 M1 = (d, M')) : d = d0 ∧ ∃ α2, Nx K α H α2 H1 M' ∧ Pre α2 α1 ∧ (α2 = α1 ∨ (α2 = α ∧ d0.und α2.length = true)) := by
  unfold back at ho
  split at ho
  · rename_i hc
    cases ho
    rw [Bool.and_eq_true] at hc
    obtain ⟨c1, c2⟩ := hc
    rw [← m.len] at c1
    have hle : α.length ≤ α1.length := by
      obtain ⟨β, e, _⟩ := n.ext
      rw [e, List.length_append]; omega
    have hM1 : M.length ≤ M1.length := by rw [← m.len, ← n.mem.len]; exact hle
    refine ⟨rfl, α, ⟨n.grow, ⟨[], by simp, fun b h => by simp at h⟩, ⟨m.nd, by rw [List.length_take, m.len]; omega, fun i a xs e1 e2 => ?_⟩, n.tab⟩, n.pre, .inr ⟨rfl, c1⟩⟩
    have hi : i < M.length := by rw [← m.len]; exact (List.getElem?_eq_some_iff.mp e1).1
    rw [List.getElem?_take_of_lt hi] at e2
    obtain ⟨us, g1, g2⟩ := n.mem.cell i a xs (n.pre i a e1) e2
    refine ⟨us, g1, rps_back n.pre xs us ?_ g2⟩
    have c3 := List.all_eq_true.mp c2 i (List.mem_range.mpr hi)
    rw [Bool.or_eq_true] at c3
    rcases c3 with c3 | c3
    · have c3 := of_decide_eq_true c3
      rw [e2] at c3
      obtain ⟨ws, _, g3⟩ := m.cell i a xs e1 c3.symm
      exact rps_und xs ws g3
    · rw [e2] at c3
      rw [m.len]
      exact unds_all c3
  · cases ho
    exact ⟨rfl, α1, n, Pre.refl _, .inl rfl⟩
theorem rd_back {d0 : D} {α2 : List Addr} {v : V} (hp : Pre α2 α') (h : α2 = α' ∨ (α2 = α ∧ d0.und α2.length = true)) (hs : α2 = α → ∀ a, a ∈ α2 → a ∈ α') (rd : RD K H α' d0 v) : RD K H α2 d0 v := by
  rcases h with rfl | ⟨e0, c1⟩
  · exact rd
  · cases d0 with
    | p x => exact rp_back hp x v c1 rd
    | scr xs =>
      obtain ⟨a, vs, e, h, r⟩ := rd
      refine ⟨a, vs, e, ?_, rps_back hp xs vs c1 r⟩
      rcases h with ⟨h, hn⟩ | h
      · exact .inl ⟨h, fun z => hn (hs e0 a z)⟩
      · exact .inr h
theorem call_ok {as : List D} {vs : List V} {w : List D → Mem → Option (D × Mem)} {d0 d : D} {M1 : Mem} {Q : VK} {E : XK} {np : Nat} (m : RM K H α M) (t : TabAll H) (tk : Trk K H) (r : RDs K H α as vs) (hl : vs.length = np)
    (hw : w as M = some (d0, M1)) (ho : back M d0 M1 = (d, M')) (q : ∀ v H' α', Nx K α H α' H' M' → RD K H' α' d v → Q v H') : spI K np w vs H Q E := by
  refine ⟨hl, α, as, M, d0, M1, m, t, tk, r, hw, fun v H' α' n rd => ?_⟩
  obtain ⟨rfl, α2, n2, hp, h⟩ := back_ok m n ho
  refine q v H' α2 n2 (rd_back hp h (fun e a z => ?_) rd)
  obtain ⟨β, e2, _⟩ := n.ext
  rw [e2]; rw [e] at z; exact List.mem_append_left _ z
/-! a def that may raise -/
/-- what its end gives: a datum, or an error -/
def EndX (K : PySem.W.Frag) (mg : Str → Option Value) (L : List (Str × List Str)) (α : List Addr) (H : Hp) (Q : VK) (E : XK) (d : D) (M' : Mem) : Prop := match d with
  | .p (.tup [.bl true, x]) => ∀ v H' α', Nx K α H α' H' M' → RD K H' α' (.p x) v → Q v H'
  | .p (.tup [.bl false, .str c, .tup xs]) => ∀ cls dd H' α', Nx K α H α' H' M' → XR L mg K H' α' c xs cls dd → E cls dd H'
  | _ => False
def spX (K : PySem.W.Frag) (mg : Str → Option Value) (L : List (Str × List Str)) (np : Nat) (w : List D → Mem → Option (D × Mem)) : Sp := fun vs H Q E => vs.length = np ∧ ∃ α ds M d M', RM K H α M ∧ TabAll H ∧ Trk K H ∧ RDs K H α ds vs ∧ w ds M = some (d, M') ∧ EndX K mg L α H Q E d M'
theorem EndX.step {mg : Str → Option Value} {L : List (Str × List Str)} {Q : VK} {E : XK} {d : D} {M1 : Mem} (m : RM K H α M) (n : Nx K α H α' H' M1) (h : EndX K mg L α H Q E d M') : EndX K mg L α' H' Q E d M' := by
  unfold EndX at h ⊢
  split at h
  · exact fun v H2 α2 n2 r => h v H2 α2 (n.trans m n2) r
  · exact fun c dd H2 α2 n2 r => h c dd H2 α2 (n.trans m n2) r
  · exact h.elim
theorem xr_back {mg : Str → Option Value} {L : List (Str × List Str)} {α2 : List Addr} {c : Str} {xs : List P} {cls : Value} {dd : Option Addr} (hp : Pre α2 α') (h : α2 = α' ∨ (α2 = α ∧ P.unds α2.length xs = true)) (x : XR L mg K H α' c xs cls dd) : XR L mg K H α2 c xs cls dd := by
  rcases h with rfl | ⟨_, h⟩
  · exact x
  · obtain ⟨C, fl, h1, h2, h3, h4, h5⟩ := x
    refine ⟨C, fl, h1, h2, h3, h4, fun z => ?_⟩
    obtain ⟨da, fs, g1, g2, g3⟩ := h5 z
    refine ⟨da, fs, g1, g2, fun j f x e1 e2 => ?_⟩
    obtain ⟨v, k1, k2⟩ := g3 j f x e1 e2
    refine ⟨v, k1, rp_back hp x v ?_ k2⟩
    have key : ∀ (ys : List P), P.unds α2.length ys = true → ∀ y ∈ ys, y.und α2.length = true := by
      intro ys
      induction ys with
      | nil => intro _ y hy; simp at hy
      | cons a ys ih =>
        intro hu y hy
        unfold P.unds at hu
        rw [Bool.and_eq_true] at hu
        rcases List.mem_cons.mp hy with rfl | hy
        · exact hu.1
        · exact ih hu.2 y hy
    exact key xs h x (List.mem_of_getElem? e2)
theorem call_okX {mg : Str → Option Value} {L : List (Str × List Str)} {as : List D} {vs : List V} {w : List D → Mem → Option (D × Mem)} {d0 : D} {M1 : Mem} {Q : VK} {E : XK} {np : Nat} (m : RM K H α M) (t : TabAll H) (tk : Trk K H) (r : RDs K H α as vs) (hl : vs.length = np)
    (hw : w as M = some (d0, M1)) (q : EndX K mg L α H Q E (back M d0 M1).1 (back M d0 M1).2) : spX K mg L np w vs H Q E := by
  refine ⟨hl, α, as, M, d0, M1, m, t, tk, r, hw, ?_⟩
  obtain ⟨d, M', ho⟩ : ∃ d M', back M d0 M1 = (d, M') := ⟨_, _, rfl⟩
  rw [ho] at q
  have hd : d = d0 := by
    unfold back at ho
    split at ho <;> (cases ho; rfl)
  subst hd
  unfold EndX at q ⊢
  split at q
  · rename_i x hd
    have hd : d = .p (.tup [.bl true, x]) := hd
    subst hd
    intro v H' α' n rd
    obtain ⟨_, α2, n2, hp, h⟩ := back_ok m n ho
    refine q v H' α2 n2 ?_
    rcases h with rfl | ⟨_, h⟩
    · exact rd
    · refine rp_back hp x v ?_ rd
      have h : P.und α2.length (.tup [.bl true, x]) = true := h
      simp only [P.und, P.unds, Bool.and_true, Bool.true_and] at h
      exact h
  · rename_i c xs hd
    have hd : d = .p (.tup [.bl false, .str c, .tup xs]) := hd
    subst hd
    intro cls dd H' α' n rx
    obtain ⟨_, α2, n2, hp, h⟩ := back_ok m n ho
    refine q cls dd H' α2 n2 (xr_back (α := α) hp ?_ rx)
    rcases h with h | ⟨h0, h⟩
    · exact .inl h
    · refine .inr ⟨h0, ?_⟩
      have h : P.und α2.length (.tup [.bl false, .str c, .tup xs]) = true := h
      simp only [P.und, P.unds, Bool.and_true, Bool.true_and] at h
      exact h
  · exact q.elim
end
/-- no exception comes out -/
theorem passF {X : Cx} : Passes (L2.CX X.prog X.w) X (fun _ _ _ => False) := fun _ _ _ _ _ _ _ h => by
  obtain ⟨_, _, _, _, _, _, _, _, _, _, _, _, z⟩ := h
  exact z.elim
section
variable {X : Cx} {fs : Env → Mem → Option (List D × Mem)} {e : Expr} {es : List Expr} {p pos : Pos} {k : Nat} {f : Addr} {fd : FuncData} {ps ks : List Str} {x : Str} {w : List D → Mem → Option (D × Mem)}
def callF (w : List D → Mem → Option (D × Mem)) (ix : List Nat) (fs : Env → Mem → Option (List D × Mem)) : Env → Mem → Option (D × Mem) := fun ρ M => do
  let (ds, M) ← fs ρ M
  let as ← getAll ds ix
  let (d, M') ← w as M
  some (back M d M')
theorem rds_len {K : PySem.W.Frag} {H : Hp} {α : List Addr} : ∀ {ds : List D} {vs : List V}, RDs K H α ds vs → ds.length = vs.length
  | [], [], _ => rfl
  | _ :: ds, _ :: vs, h => by rw [List.length_cons, List.length_cons, rds_len h.2]
  | [], _ :: _, h => h.elim
  | _ :: _, [], h => h.elim
theorem rds_get {K : PySem.W.Frag} {H : Hp} {α : List Addr} : ∀ {ds : List D} {vs : List V} {i : Nat} {d : D}, RDs K H α ds vs → ds[i]? = some d → ∃ v, vs[i]? = some v ∧ RD K H α d v
  | [], _, _, _, _, e => by simp at e
  | d :: ds, v :: vs, 0, d', h, e => by simp at e; subst e; exact ⟨v, rfl, h.1⟩
  | d :: ds, v :: vs, i + 1, d', h, e => by simpa using rds_get h.2 (by simpa using e)
  | _ :: _, [], _, _, h, _ => h.elim
theorem rds_all {K : PySem.W.Frag} {H : Hp} {α : List Addr} {ds : List D} {vs : List V} (h : RDs K H α ds vs) : ∀ {ix : List Nat} {as : List D}, getAll ds ix = some as → ∃ us, getAll vs ix = some us ∧ RDs K H α as us
  | [], as, e => by cases e; exact ⟨[], rfl, trivial⟩
  | i :: ix, as, e => by
    obtain ⟨d, e1, e⟩ := ob (show (do
      let x ← ds[i]?
      let rs ← getAll ds ix
      some (x :: rs)) = some as from e)
    obtain ⟨rs, e2, e⟩ := ob e
    cases e
    obtain ⟨v, g1, g2⟩ := rds_get h e1
    obtain ⟨us, g3, g4⟩ := rds_all h e2
    exact ⟨v :: us, by show (vs[i]? >>= _) = _; rw [g1]; show (getAll vs ix >>= _) = _; rw [g3]; rfl, g2, g4⟩
theorem getAll_id {A : Type} (xs : List A) : getAll xs (List.range xs.length) = some xs := by
  have key : ∀ (ys pre : List A), getAll (pre ++ ys) (List.range' pre.length ys.length) = some ys := by
    intro ys
    induction ys with
    | nil => intro pre; rfl
    | cons y ys ih =>
      intro pre
      rw [List.length_cons, List.range'_succ]
      show ((pre ++ y :: ys)[pre.length]? >>= _) = _
      rw [List.getElem?_append_right (Nat.le_refl _), Nat.sub_self]
      have := ih (pre ++ [y])
      rw [List.append_assoc, List.singleton_append, List.length_append, List.length_singleton] at this
      show (getAll (pre ++ y :: ys) (List.range' (pre.length + 1) ys.length) >>= _) = _
      rw [this]; rfl
  have := key xs []
  rw [List.nil_append] at this
  rw [List.range_eq_range']
  exact this
/-- f(a, ..) all by place -/
theorem s_call (F : FnOk X.prog X.w X.K X.mg X.base (L2.CX X.prog X.w) k f fd ps (spI X.K ps.length w)) (hr : Room k X.A) (hg : Gl X x) (hm : X.mg x = some (.ref f)) (hk : PySem.W.keepIn X.K (.ref f) = true) (hb : Binds X.K fd ps [])
    (ha : PA X (e :: es) (tIA X fs)) (hdb : (x == ("__debug__" : Str)) = false) (he : starEach (e :: es) X.env = (false, eval e X.env) :: starEach es X.env) (hpl : (backTo pos (starEach es X.env)).any (·.1) = false)
    (hn : (e :: es).length = ps.length) (h1 : ∀ ρ M ds M', fs ρ M = some (ds, M') → ds.length = (e :: es).length) :
    PE X (.Call (.Name x p) (e :: es) [] pos) (tI X (callF w (List.range ps.length) fs)) := (pe_call (E := fun _ _ _ => False) F hr hg hm hk hb .nil passF ha hdb he hpl).weak fun σ H Q h => by
  obtain ⟨ρ, M, α, d, M', r, e0, q⟩ := h
  obtain ⟨⟨ds, M1⟩, e1, e0⟩ := ob e0
  obtain ⟨as, e2, e0⟩ := ob e0
  obtain ⟨⟨d0, Mc⟩, e4, e0⟩ := ob e0
  have e9 := Option.some.inj e0
  have hl := h1 _ _ _ _ e1
  rw [← hn, ← hl, getAll_id] at e2
  cases e2
  refine tIA.use r e1 fun vs H1 α1 n1 rd r1 => ?_
  rw [List.append_nil]
  refine call_ok r1.mem r1.tab r1.trk rd ?_ e4 e9 fun v H' α' n d => q v H' α' (n1.trans r.mem n) d
  rw [← rds_len rd, hl, hn]
/-- f(k = a, ..) all by name -/
theorem pe_callK0 {CX : CXT} {E : XK} {sp : Sp} {kws : List Keyword} {tk : TA} {g : List Value → List Value → List Value} {gV : List V → List V → List V} (F : FnOk X.prog X.w X.K X.mg X.base CX k f fd ps sp) (hr : Room k X.A) (hg : Gl X x) (hm : X.mg x = some (.ref f)) (hk : PySem.W.keepIn X.K (.ref f) = true) (hb : KBinds X.K fd ps ks g gV) (hx : Passes CX X E)
    (hkw : PK X kws tk) (hall : (backToKw pos (keywordEach kws X.env)).all (·.1.isSome) = true) (hks : (backToKw pos (keywordEach kws X.env)).filterMap (·.1) = ks)
    (hdb : (x == ("__debug__" : Str)) = false) (hpl : ((backTo pos (starEach [] X.env)).any (·.1) || (backToKw pos (keywordEach kws X.env)).any (·.1.isNone)) = false) :
    PE X (.Call (.Name x p) [] kws pos) (tCallK sp gV E tNil tk) := by
  refine ⟨fun pins s σ H Q I h => ?_⟩
  refine wpAny_Call_Name_kw (ld_glob I hg hm ?_ hdb)
  refine PySem.W.callWith_KW0 (h₀ := X.base) I.ok.mod.kin hk hall (thn (hkw.run pos pins s σ H _ I h) fun ws s2 ⟨zs, H2, I2, rz, q2⟩ => ⟨I2.kIn, ?_⟩) hpl
  rw [hks]
  exact run_fnk (us := []) (vs := []) F hr hb hx I2 .nil rz q2
def tIK := @tIA
theorem k_nil : PK X [] (tIA X fun _ M => some ([], M)) := ⟨fun pos pins s σ H Q I h => pk_nil.run pos pins s σ H Q I (by
  obtain ⟨ρ, M, α, d, M', r0, e, q⟩ := h
  cases e
  exact q [] H α (Nx.refl r0.mem r0.tab) trivial)⟩
theorem k_cons {fa : Env → Mem → Option (D × Mem)} {kws : List Keyword} {nm : Option Str} {kpos : Pos} (ha : PE X e (tI X fa)) (hs : PK X kws (tIA X fs)) : PK X (⟨nm, e, kpos⟩ :: kws) (tIA X fun ρ M => do
      let (x, M) ← fa ρ M
      let (xs, M) ← fs ρ M
      some (x :: xs, M)) := ⟨fun pos pins s σ H Q I h => (pk_cons ha hs).run pos pins s σ H Q I (by
  obtain ⟨ρ, M, α, d, M', r0, e, q⟩ := h
  obtain ⟨⟨x, M1⟩, e1, e⟩ := ob e
  obtain ⟨⟨xs, M2⟩, e2, e⟩ := ob e
  cases e
  exact tI.use r0 e1 fun v H1 α1 n1 d1 r1 => tIA.use r1 e2 fun vs H2 α2 n2 d2 r2 => q _ H2 α2 (n1.trans r0.mem n2) ⟨n2.rd r1.mem d1, d2⟩)⟩
/-- the keywords ks, each parameter once: the order -/
def ixOf (ps ks : List Str) : List Nat := ps.map fun p => ks.findIdx (· == p)
def gKs (ps ks : List Str) {A : Type} (us ws : List A) : List A := match us with
  | [] => (getAll ws (ixOf ps ks)).getD []
  | _ => []
theorem s_callk {kws : List Keyword} (F : FnOk X.prog X.w X.K X.mg X.base (L2.CX X.prog X.w) k f fd ps (spI X.K ps.length w)) (hr : Room k X.A) (hg : Gl X x) (hm : X.mg x = some (.ref f)) (hk : PySem.W.keepIn X.K (.ref f) = true)
    (hb : KBinds X.K fd ps ks (gKs ps ks) (gKs ps ks))
    (hkw : PK X kws (tIA X fs)) (hall : (backToKw pos (keywordEach kws X.env)).all (·.1.isSome) = true) (hks : (backToKw pos (keywordEach kws X.env)).filterMap (·.1) = ks)
    (hdb : (x == ("__debug__" : Str)) = false) (hpl : ((backTo pos (starEach [] X.env)).any (·.1) || (backToKw pos (keywordEach kws X.env)).any (·.1.isNone)) = false) :
    PE X (.Call (.Name x p) [] kws pos) (tI X (callF w (ixOf ps ks) fs)) := (pe_callK0 (E := fun _ _ _ => False) F hr hg hm hk hb passF hkw hall hks hdb hpl).weak fun σ H Q h => by
  obtain ⟨ρ, M, α, d, M', r, e0, q⟩ := h
  obtain ⟨⟨ds, M1⟩, e1, e0⟩ := ob e0
  obtain ⟨as, e2, e0⟩ := ob e0
  obtain ⟨⟨d0, Mc⟩, e4, e0⟩ := ob e0
  have e9 := Option.some.inj e0
  refine tIA.use r e1 fun vs H1 α1 n1 rd r1 => ?_
  obtain ⟨us, g1, g2⟩ := rds_all rd e2
  show spI X.K ps.length w ((getAll vs (ixOf ps ks)).getD []) H1 Q _
  rw [g1]
  refine call_ok r1.mem r1.tab r1.trk g2 ?_ e4 e9 fun v H' α' n d => q v H' α' (n1.trans r.mem n) d
  show us.length = _
  rw [getAll_len g1]
  simp [ixOf]
end
/-- a def's promise from its body -/
theorem fn_I {P : Program} {w : World} {K : PySem.W.Frag} {mg : Str → Option Value} {base : Heap} {k : Nat} {f : Addr} {name qual : Str} {params : Arguments} {body : List Stmt} {scope : Scope} {dV kV doc pm cdv ct oc : Value} {an od : Option Addr}
    {osl : Array (Option Value)} {N ps : List Str} {W : List D → Mem → Option (D × Mem)} {fb : Env → Mem → Option Out} (lk : K.lookup f = some ⟨oc, od, .func (PySem.W.fnOf name qual params body scope dV kV doc pm an cdv ct), osl⟩) (hcd : PySem.W.codeIn K cdv qual = true) (S : FnScope N ps scope)
    (hbase : K.In base) {c Pt : Addr} (hcd2 : cdv = .ref c) (hct : PySem.W.codeHdIn K c Pt = true)
    (hW : ∀ ds M d M', ds.length = ps.length → W ds M = some (d, M') → ∃ o, fb (ds.map some ++ List.replicate (N.length - ps.length) none) M = some o ∧ fin o = some (d, M'))
    {L : List (Str × List Str)} (hbody : ∀ (A : Around) (outer : List PySem.Env) (s : Shared) (H : Hp) (E : XK), Room k (A.deeper (envOfC qual scope s.heap.objs.size f cdv)) →
      PSs (cxOf (L2.CX P w) P w K mg base N qual scope f cdv A outer s H E) body (tS (cxOf (L2.CX P w) P w K mg base N qual scope f cdv A outer s H E) ⟨L, fun cls d _ H => E cls d H⟩ fb)) :
    FnOk P w K mg base (L2.CX P w) (k + 1) f (PySem.W.fnOf name qual params body scope dV kV doc pm an cdv ct) ps (spI K ps.length W) := by
  refine fn_of lk hcd S (fun vs H Q E h => h.1) fun A outer s H vs Q E hr h => ?_
  refine ⟨_, hbody A outer s H E hr, ?_⟩
  obtain ⟨hl, α, ds, M, d, M', m, t, tk, rd, hw, q⟩ := h
  have hdl := rds_len rd
  have hch := PySem.W.codeHd_of_K hbase hct
  have hne : c ≠ Pt := by obtain ⟨_, _, _, _, _, _, _, _, _, _, _, _, _, _, _, _, _, _, hne⟩ := hch; exact hne
  obtain ⟨o, h1, h2⟩ := hW ds M d M' (by rw [hdl, hl]) hw
  refine ⟨_, M, α, o, ⟨?_, m, t, ⟨c, Pt, hcd2, hne, tk c Pt hct, .inl hch⟩, tk⟩, h1, ?_⟩
  · have hpl : ps.length ≤ N.length := by have := congrArg List.length S.pre; rw [List.length_take] at this; omega
    refine ⟨?_, fun i d' hi => ?_⟩
    · unfold L2.start
      simp only [List.length_append, List.length_map, List.length_replicate, hdl, hl]
    · by_cases hlt : i < ds.length
      · rw [List.getElem?_append_left (by simpa using hlt), List.getElem?_map] at hi
        obtain ⟨d2, e1, e2⟩ := Option.map_eq_some_iff.mp hi
        cases e2
        obtain ⟨v, g1, g2⟩ := rds_get rd e1
        refine ⟨v, ?_, g2⟩
        unfold L2.start
        rw [List.getElem?_append_left (by rw [List.length_map, ← hdl]; exact hlt), List.getElem?_map, g1]
        rfl
      · rw [List.getElem?_append_right (by simpa using hlt), List.getElem?_replicate] at hi
        split at hi <;> cases hi
  · cases o with
    | rt d2 M2 => cases h2; exact q
    | nx ρ2 M2 => cases h2; exact fun σ' H' α' n _ => q .non H' α' n rfl
    | bk _ _ => cases h2
    | ct _ _ => cases h2
    | xc _ _ _ => cases h2

/-- .. that may raise -/
theorem fn_X {P : Program} {w : World} {K : PySem.W.Frag} {mg : Str → Option Value} {base : Heap} {k : Nat} {f : Addr} {name qual : Str} {params : Arguments} {body : List Stmt} {scope : Scope} {dV kV doc pm cdv ct oc : Value} {an od : Option Addr}
    {osl : Array (Option Value)} {N ps : List Str} {W : List D → Mem → Option (D × Mem)} {fb : Env → Mem → Option Out} (lk : K.lookup f = some ⟨oc, od, .func (PySem.W.fnOf name qual params body scope dV kV doc pm an cdv ct), osl⟩) (hcd : PySem.W.codeIn K cdv qual = true) (S : FnScope N ps scope)
    (hbase : K.In base) {c Pt : Addr} (hcd2 : cdv = .ref c) (hct : PySem.W.codeHdIn K c Pt = true)
    (hW : ∀ ds M d M', ds.length = ps.length → W ds M = some (d, M') → ∃ o, fb (ds.map some ++ List.replicate (N.length - ps.length) none) M = some o ∧ finx o = some (d, M'))
    {L : List (Str × List Str)} (hbody : ∀ (A : Around) (outer : List PySem.Env) (s : Shared) (H : Hp) (E : XK), Room k (A.deeper (envOfC qual scope s.heap.objs.size f cdv)) →
      PSs (cxOf (L2.CX P w) P w K mg base N qual scope f cdv A outer s H E) body (tS (cxOf (L2.CX P w) P w K mg base N qual scope f cdv A outer s H E) ⟨L, fun cls d _ H => E cls d H⟩ fb)) :
    FnOk P w K mg base (L2.CX P w) (k + 1) f (PySem.W.fnOf name qual params body scope dV kV doc pm an cdv ct) ps (spX K mg L ps.length W) := by
  refine fn_of lk hcd S (fun vs H Q E h => h.1) fun A outer s H vs Q E hr h => ?_
  refine ⟨_, hbody A outer s H E hr, ?_⟩
  obtain ⟨hl, α, ds, M, d, M', m, t, tk, rd, hw, q⟩ := h
  have hdl := rds_len rd
  have hch := PySem.W.codeHd_of_K hbase hct
  have hne : c ≠ Pt := by obtain ⟨_, _, _, _, _, _, _, _, _, _, _, _, _, _, _, _, _, _, hne⟩ := hch; exact hne
  obtain ⟨o, h1, h2⟩ := hW ds M d M' (by rw [hdl, hl]) hw
  refine ⟨_, M, α, o, ⟨?_, m, t, ⟨c, Pt, hcd2, hne, tk c Pt hct, .inl hch⟩, tk⟩, h1, ?_⟩
  · have hpl : ps.length ≤ N.length := by have := congrArg List.length S.pre; rw [List.length_take] at this; omega
    refine ⟨?_, fun i d' hi => ?_⟩
    · unfold L2.start
      simp only [List.length_append, List.length_map, List.length_replicate, hdl, hl]
    · by_cases hlt : i < ds.length
      · rw [List.getElem?_append_left (by simpa using hlt), List.getElem?_map] at hi
        obtain ⟨d2, e1, e2⟩ := Option.map_eq_some_iff.mp hi
        cases e2
        obtain ⟨v, g1, g2⟩ := rds_get rd e1
        refine ⟨v, ?_, g2⟩
        unfold L2.start
        rw [List.getElem?_append_left (by rw [List.length_map, ← hdl]; exact hlt), List.getElem?_map, g1]
        rfl
      · rw [List.getElem?_append_right (by simpa using hlt), List.getElem?_replicate] at hi
        split at hi <;> cases hi
  · cases o with
    | rt d2 M2 =>
      cases d2 with
      | p x => cases h2; exact q
      | scr _ => cases h2
    | nx ρ2 M2 => cases h2; exact fun σ' H' α' n _ => q .non H' α' n rfl
    | bk _ _ => cases h2
    | ct _ _ => cases h2
    | xc c xs M2 => cases h2; exact fun cls d σ' H' α' n rx => q cls d H' α' n rx
section
variable {X : Cx} {Y : Ex} {fs : Env → Mem → Option (List D × Mem)} {e : Expr} {es : List Expr} {p pos pos' : Pos} {k : Nat} {f : Addr} {fd : FuncData} {ps ks : List Str} {x : Str} {w : List D → Mem → Option (D × Mem)}
/-! calls that may raise, as statements -/
def tX (X : Cx) (Y : Ex) (w : List D → Mem → Option (D × Mem)) (ix : List Nat) (fs : Env → Mem → Option (List D × Mem)) : TE := fun σ H Q => ∃ ρ M α ds M1 as d0 Mc, RS X σ H ρ M α ∧ fs ρ M = some (ds, M1) ∧ getAll ds ix = some as ∧ w as M1 = some (d0, Mc) ∧
  EndX X.K X.mg Y.L α H Q (fun cls dd H' => Y.out cls dd σ H') (back M1 d0 Mc).1 (back M1 d0 Mc).2
theorem s_callX (F : FnOk X.prog X.w X.K X.mg X.base (L2.CX X.prog X.w) k f fd ps (spX X.K X.mg Y.L ps.length w)) (hr : Room k X.A) (hg : Gl X x) (hm : X.mg x = some (.ref f)) (hk : PySem.W.keepIn X.K (.ref f) = true) (hb : Binds X.K fd ps []) (tk : Takes X Y.out)
    (ha : PA X (e :: es) (tIA X fs)) (hdb : (x == ("__debug__" : Str)) = false) (he : starEach (e :: es) X.env = (false, eval e X.env) :: starEach es X.env) (hpl : (backTo pos (starEach es X.env)).any (·.1) = false)
    (hn : (e :: es).length = ps.length) (h1 : ∀ ρ M ds M', fs ρ M = some (ds, M') → ds.length = (e :: es).length) :
    PE X (.Call (.Name x p) (e :: es) [] pos) (tX X Y w (List.range ps.length) fs) := (pe_callS (E := WE Y.out) F hr hg hm hk hb (fun σ => passAt tk σ) ha hdb he hpl).weak fun σ H Q h => by
  obtain ⟨ρ, M, α, ds, M1, as, d0, Mc, r, e1, e2, e4, q⟩ := h
  have hl := h1 _ _ _ _ e1
  rw [← hn, ← hl, getAll_id] at e2
  cases e2
  refine tIA.use r e1 fun vs H1 α1 n1 rd r1 => ?_
  refine call_okX r1.mem r1.tab r1.trk rd ?_ e4 (q.step r.mem n1)
  rw [← rds_len rd, hl, hn]
theorem run_fnkS {g : List Value → List Value → List Value} {gV : List V → List V → List V} {sp : Sp} {E : L2.St → XK} {pins : List (Addr × Obj)} {σ : L2.St} {H : Hp} {s : Shared} {Q : VK} {us ws : List Value} {vs zs : List V} (F : FnOk X.prog X.w X.K X.mg X.base (L2.CX X.prog X.w) k f fd ps sp) (hr : Room k X.A) (hb : KBinds X.K fd ps ks g gV) (hx : PassesAt (L2.CX X.prog X.w) X σ (E σ))
    (I : Inv X pins σ H s) (r : Vals vs us) (rz : Vals zs ws) (h : sp (gV vs zs) H Q (E σ)) : wpAny (model X.prog X.w) X.A (call (.ref f) us (ks.zip ws)) (EP X pins σ Q) X.xe s := by
  have r2 := hb.rel r rz
  have hl : (g us ws).length = ps.length := by rw [← r2.length]; exact F.len _ _ _ _ h
  refine wpAny_call (codeAny_mono (F.run X.A X.stack s H ⟨us, ks.zip ws⟩ (g us ws) (gV vs zs) Q (E σ) hr I.env0 (hb.to s us ws I.kIn hl) r2 h) fun r s' hq => ?_)
  cases r with
  | error e => exact hx pins H s e s' I hq
  | ok fl =>
    cases fl with
    | ret u => exact I.after hq
    | next => exact False.elim hq
    | brk => exact False.elim hq
    | cont => exact False.elim hq
theorem s_callkX {kws : List Keyword} (F : FnOk X.prog X.w X.K X.mg X.base (L2.CX X.prog X.w) k f fd ps (spX X.K X.mg Y.L ps.length w)) (hr : Room k X.A) (hg : Gl X x) (hm : X.mg x = some (.ref f)) (hk : PySem.W.keepIn X.K (.ref f) = true)
    (hb : KBinds X.K fd ps ks (gKs ps ks) (gKs ps ks)) (tk : Takes X Y.out)
    (hkw : PK X kws (tIA X fs)) (hall : (backToKw pos (keywordEach kws X.env)).all (·.1.isSome) = true) (hks : (backToKw pos (keywordEach kws X.env)).filterMap (·.1) = ks)
    (hdb : (x == ("__debug__" : Str)) = false) (hpl : ((backTo pos (starEach [] X.env)).any (·.1) || (backToKw pos (keywordEach kws X.env)).any (·.1.isNone)) = false) :
    PE X (.Call (.Name x p) [] kws pos) (tX X Y w (ixOf ps ks) fs) := by
  refine ⟨fun pins s σ H Q I h => ?_⟩
  obtain ⟨ρ, M, α, ds, M1, as, d0, Mc, r, e1, e2, e4, q⟩ := h
  refine wpAny_Call_Name_kw (ld_glob I hg hm ?_ hdb)
  have hA : tIA X fs σ H fun zs H2 => spX X.K X.mg Y.L ps.length w (gKs ps ks [] zs) H2 Q (WE Y.out σ) := tIA.use r e1 fun vs H1 α1 n1 rd r1 => by
    obtain ⟨us, g1, g2⟩ := rds_all rd e2
    show spX X.K X.mg Y.L ps.length w ((getAll vs (ixOf ps ks)).getD []) H1 Q _
    rw [g1]
    refine call_okX r1.mem r1.tab r1.trk g2 ?_ e4 (q.step r.mem n1)
    show us.length = _
    rw [getAll_len g1]
    simp [ixOf]
  refine PySem.W.callWith_KW0 (h₀ := X.base) I.ok.mod.kin hk hall (thn (hkw.run pos pins s σ H _ I hA) fun ws s2 ⟨zs, H2, I2, rz, q2⟩ => ⟨I2.kIn, ?_⟩) hpl
  rw [hks]
  exact run_fnkS (us := []) (vs := []) F hr hb (passAt tk σ) I2 .nil rz q2
def xF (k : XC) (w : List D → Mem → Option (D × Mem)) (ix : List Nat) (fs : Env → Mem → Option (List D × Mem)) : Env → Mem → Option Out := fun ρ M => do
  let (ds, M) ← fs ρ M
  let as ← getAll ds ix
  let (d, M') ← w as M
  callS k ρ (back M d M').1 (back M d M').2
def outK (k : XC) (ρ : Env) (x : P) (M : Mem) : Out := match k with
  | .ex => .nx ρ M
  | .ret => .rt (.p x) M
  | .retc c => .rt (.p (.tup [c, x])) M
theorem callS_ok {k : XC} {ρ : Env} {d : D} {M : Mem} {o : Out} (h : callS k ρ d M = some o) : (∃ x, d = .p (.tup [.bl true, x]) ∧ o = outK k ρ x M) ∨ ∃ c xs, d = .p (.tup [.bl false, .str c, .tup xs]) ∧ o = .xc c xs M := by
  unfold callS at h
  split at h
  · rename_i x
    refine .inl ⟨x, rfl, ?_⟩
    cases k <;> (cases h; rfl)
  · cases h; exact .inr ⟨_, _, rfl, rfl⟩
  · cases h
theorem tX.of {k : XC} {ix : List Nat} {σ : L2.St} {H : Hp} {ρ : Env} {M : Mem} {α : List Addr} {o : Out} {D : Ends} {Q : VK} (r : RS X σ H ρ M α) (e : xF k w ix fs ρ M = some o) (q : EndsI X Y α H D o)
    (ok : ∀ x M', o = outK k ρ x M' → ∀ v H' α', Nx X.K α H α' H' M' → RD X.K H' α' (.p x) v → Q v H') : tX X Y w ix fs σ H Q := by
  obtain ⟨⟨ds, M1⟩, e1, e⟩ := ob e
  obtain ⟨as, e2, e⟩ := ob e
  obtain ⟨⟨d0, Mc⟩, e4, e⟩ := ob e
  refine ⟨ρ, M, α, ds, M1, as, d0, Mc, r, e1, e2, e4, ?_⟩
  rcases callS_ok e with ⟨x, hd, ho⟩ | ⟨c, xs, hd, ho⟩
  · rw [hd]
    exact ok x _ ho
  · rw [hd]
    subst ho
    exact fun cls dd H' α' n rx => q cls dd σ H' α' n rx
theorem s_xex {ix : List Nat} (he : PE X e (tX X Y w ix fs)) (hs : swapsWith e none pos.line X.env = pure false) : PS X (.Expr e pos) (tS X Y (xF .ex w ix fs)) := (ps_expr he hs).weak fun D σ H h => by
  obtain ⟨ρ, M, α, o, r, e, q⟩ := h
  refine tX.of r e q fun x M' ho v H' α' n rd => ?_
  subst ho
  exact q σ H' α' n (n.env r.mem r.env)
theorem s_xret {ix : List Nat} (he : PE X e (tX X Y w ix fs)) : PS X (.Return (some e) pos) (tS X Y (xF .ret w ix fs)) := (ps_ret he).weak fun D σ H h => by
  obtain ⟨ρ, M, α, o, r, e, q⟩ := h
  refine tX.of r e q fun x M' ho v H' α' n rd => ?_
  subst ho
  exact q v H' α' n rd
theorem s_xretc {ix : List Nat} {c : P} {cv : V} {ce : Expr} {kk : Nat} (hc : PE X ce (tC cv)) (hcr : ∀ H α, RP X.K H α c cv) (he : PE X e (tX X Y w ix fs)) (h1 : starEach [ce, e] X.env = (false, eval ce X.env) :: starEach [e] X.env) (h2 : starEach [e] X.env = (false, eval e X.env) :: starEach [] X.env) :
    PS X (.Return (some (.Tuple [ce, e] kk pos')) pos) (tS X Y (xF (.retc c) w ix fs)) := (ps_ret (pe_tup (pa_cons hc (pa_cons he pa_nil h2) h1))).weak fun D σ H h => by
  obtain ⟨ρ, M, α, o, r, e, q⟩ := h
  refine tX.of (Q := fun v H' => [cv, v].length ≤ sizeLine ∧ ∀ p, H' p = none → D.rt (.ref p) (upd H' p (.tup [cv, v]))) r e q fun x M' ho v H' α' n rd => ?_
  subst ho
  refine ⟨by show 2 ≤ sizeLine; rw [sizeLine_eq]; omega, ?_⟩
  have rps : RPs X.K H' α' [c, x] [cv, v] := by
    unfold RPs; refine ⟨hcr _ _, ?_⟩
    unfold RPs; refine ⟨rd, ?_⟩
    unfold RPs; trivial
  exact new_tup n.mem n.tab rps fun w H2 α2 n2 rd2 => q w H2 α2 (n.trans r.mem n2) rd2
end
end IX
end

section
set_option Elab.async false
set_option autoImplicit false
set_option linter.all false
set_option maxRecDepth 100000
set_option maxHeartbeats 4000000
/-! From the program's text to the small language. -/
namespace IX
open PySem PySem.Spec PyProof.Rows L2 GX
/-- what is known of the module: constants; defs by number, with parameters and the keyword orders that are called -/
structure Pg where
  G : List (Str × P)
  F : List (Str × (Nat × List Str × List (List Str)))
  X : List (Str × List Str) := []
  R : List Str := []
def bltN : List Str := ["len", "abs", "int", "bool", "max", "min", "sum", "tuple", "list", "isinstance", "all", "any", "range", "enumerate", "zip", "str"]
def slotOf (N : List Str) (x : Str) : Option Nat := N.findIdx? (· == x)
def okName (x : Str) : Bool := !(x == ("__debug__" : Str)) && !(x == ("__classdict__" : Str))
def isVis (sc : Scope) (x : Str) : Bool := match sc.names.lookup x with
  | some .local | some .cell | some .free => true
  | _ => false
def isLoc (sc : Scope) (x : Str) : Bool := match sc.names.lookup x with
  | some .local | some .cell => true
  | _ => false
def isGl (sc : Scope) (x : Str) : Bool := match sc.names.lookup x with
  | some .globalImplicit => true
  | _ => false
def cstP : Const → Option P
  | .none => some .non
  | .bool b => some (.bl b)
  | .int i => some (.int i)
  | .str x => some (.str x)
  | _ => none
def opB : Operator → Option BO
  | .Add => some .add | .Sub => some .sub | .Mult => some .mul | .FloorDiv => some .fdiv | .Mod => some .mod | .Pow => some .pow
  | _ => none
def opC : CmpOp → CO
  | .Eq => .eq | .NotEq => .ne | .Lt => .lt | .LtE => .le | .Gt => .gt | .GtE => .ge | .Is => .is | .IsNot => .isnot | .In => .isin | .NotIn => .notin
def notStar : Expr → Bool
  | .Starred _ _ => false
  | _ => true
def twoKeys : Expr → Option (Int × Int × Expr × Expr)
  | .Dict [some (.Constant (.int a) _ _), some (.Constant (.int b) _ _)] [x, y] _ => some (a, b, x, y)
  | _ => none
def notSlice : Expr → Bool
  | .Slice _ _ _ _ => false
  | _ => true
def notSet : Expr → Bool
  | .Set _ _ _ => false
  | .List _ _ => false
  | _ => true
def notSetF : Expr → Bool
  | .Set _ _ _ => false
  | _ => true
def plainT : Expr → Bool
  | .Name _ _ | .Call _ _ _ _ | .Subscript _ _ _ | .BinOp _ _ _ _ | .Constant _ _ _ => true
  | _ => false
def ownOf (N : List Str) (scope : Scope) : List (Str × Nat) := scope.names.filterMap fun y => match y.2 with
  | .local | .cell => (slotOf N y.1).map fun i => (y.1, i)
  | _ => none
def isM1 : Expr → Bool
  | .UnaryOp .USub (.Constant (.int i) _ _) _ => i == 1
  | _ => false
def biOf (x : Str) : Option BI := (List.lookup x ([("len", .len), ("abs", .abs), ("int", .int), ("bool", .bool), ("max", .max), ("min", .min), ("sum", .sum), ("tuple", .tuple), ("list", .list), ("all", .all)] : List (Str × BI)))
def gkOf (x : Str) : Option GK := (List.lookup x ([("tuple", .tuple), ("sum", .sum), ("all", .all), ("any", .any)] : List (Str × GK)))
def tyOf (x : Str) : Option BI := (List.lookup x ([("int", .isint), ("bool", .isbool), ("tuple", .istup), ("str", .isstr)] : List (Str × BI)))
def subB (t : T) (own : List (Str × Nat)) : Bool := t.slots.all fun i => (own.map (·.2)).contains i
mutual
def trG (N : List Str) (sc : Scope) : Nat → Expr → Option T
  | 0, _ => none
  | n + 1, e => match e with
    | .Name x _ => if isLoc sc x then (slotOf N x).map .nm else none
    | .Tuple es _ _ => (trGs N sc n es).map .tp
    | _ => none
termination_by structural n => n
def trGs (N : List Str) (sc : Scope) : Nat → List Expr → Option (List T)
  | 0, _ => none
  | _ + 1, [] => some []
  | n + 1, e :: es => if notStar e then (trG N sc n e).bind fun t => (trGs N sc n es).map fun ts => t :: ts else none
termination_by structural n => n
end
def okBase : Expr → Bool
  | .Name _ _ => true
  | .Subscript _ _ _ => true
  | _ => false
def mtOf (x : Str) (k : Nat) : Option MT := if x == ("pop" : Str) then (if k = 0 then some .pop else some .popi) else (List.lookup x ([("append", .append), ("extend", .extend), ("insert", .insert), ("reverse", .reverse), ("remove", .remove)] : List (Str × MT)))
mutual
def trE (π : Pg) : Nat → Nat → List Str → Scope → Expr → Option E
  | 0, _, _, _, _ => none
  | n + 1, g, N, sc, e => match e with
    | .Constant c _ _ => (cstP c).map .c
    | .Name x _ => if okName x then (if isVis sc x then (slotOf N x).map .v else if isGl sc x then (π.G.lookup x).map fun _ => .g x else none) else none
    | .BinOp a o b _ => (opB o).bind fun o => (trE π n g N sc a).bind fun A => (trE π n g N sc b).map fun B => .bin o A B
    | .UnaryOp .USub a _ => (trE π n g N sc a).map .neg
    | .UnaryOp .Not a _ => (trE π n g N sc a).map .not
    | .BoolOp .And (e :: es) _ => (trEs π n g N sc (e :: es)).map .and
    | .BoolOp .Or (e :: es) _ => (trEs π n g N sc (e :: es)).map .or
    | .Compare a [o] [b] _ => if behindInMarks (coOp (opC o)) b then none else (trE π n g N sc a).bind fun A => (trE π n g N sc b).map fun B => .cmp (opC o) A B
    | .Compare a [o, o'] [b, c] _ => if lastMarks [coOp (opC o), coOp (opC o')] [b, c] then none else (trE π n g N sc a).bind fun A => (trE π n g N sc b).bind fun B => (trE π n g N sc c).map fun C => .cmp2 (opC o) (opC o') A B C
    | .IfExp c a b _ => (trT π n g N sc c).bind fun C => (trE π n g N sc a).bind fun A => (trE π n g N sc b).map fun B => .ife C A B
    | .Tuple es _ _ => (trEs π n g N sc es).map .tup
    | .List es _ => (trEs π n g N sc es).map .lst
    | .Subscript a (.Slice lo hi (some st) _) _ => if lo.isNone && hi.isNone && isM1 st then (trE π n g N sc a).map fun A => .bi .rv [A] else none
    | .Subscript a (.Slice lo hi none _) _ => (trE π n g N sc a).bind fun A => (trO π n g N sc lo).bind fun L => (trO π n g N sc hi).map fun H => .slc A L H
    | .Subscript a b _ => if notSlice b then (match twoKeys a with
      | some q => if q.1 = q.2.1 then none else (trE π n g N sc q.2.2.1).bind fun A => (trE π n g N sc q.2.2.2).bind fun B => (trE π n g N sc b).map fun I => .dsub q.1 q.2.1 A B I
      | none => (trE π n g N sc a).bind fun A => (trE π n g N sc b).map fun B => .idx A B) else none
    | .Call (.Attribute o x apos) args [] pos => if apos.endLine == pos.line && okBase o then (mtOf x args.length).bind fun m => if okM m args.length && mtNm m == x then (trE π n g N sc o).bind fun O => (trEs π n g N sc args).map fun l => .mt m O l else none else none
    | .Call (.Name x _) args kws _ => if isGl sc x && okName x then trC π n g N sc x args kws else none
    | .ListComp elt [⟨tg, iter, ifs, 0⟩] scope _ =>
      let own := ownOf N scope
      if blkC N sc scope own && notSet iter then (trI π n g N sc tg iter).bind fun q => (trG N scope n tg).bind fun t => (trTs π n g N (relS scope sc) ifs).bind fun is => (trE π n g N (relS scope sc) elt).bind fun A => if subB t own then some (.lc (own.map (·.2)) A t q.1 q.2 is) else none else none
    | .ListComp elt [⟨tg, iter, ifs, 0⟩, ⟨tg1, iter1, ifs1, 0⟩] scope _ =>
      let own := ownOf N scope
      if blkC N sc scope own && notSet iter && notSet iter1 then (trI π n g N sc tg iter).bind fun q => (trG N scope n tg).bind fun t => (trTs π n g N (relS scope sc) ifs).bind fun is => (trI π n g N (relS scope sc) tg1 iter1).bind fun q1 => (trG N scope n tg1).bind fun t1 =>
        (trTs π n g N (relS scope sc) ifs1).bind fun is1 => (trE π n g N (relS scope sc) elt).bind fun A => if subB t own && subB t1 own then some (.lc2 (own.map (·.2)) A t q.1 q.2 is t1.slots t1 q1.1 q1.2 is1) else none else none
    | _ => none
termination_by structural n => n
def trC (π : Pg) : Nat → Nat → List Str → Scope → Str → List Expr → List Keyword → Option E
  | 0, _, _, _, _, _, _ => none
  | n + 1, g, N, sc, x, args, kws => match π.F.lookup x with
    | some (i, ps, kss) => match args, kws with
      | e :: es, [] => if (e :: es).length == ps.length then (trEs π n g N sc (e :: es)).map fun l => .call i l (List.range ps.length) else none
      | [], kws => if kws.all (fun k => k.arg.isSome) && kss.contains (kws.filterMap (·.arg)) then (trKs π n g N sc kws).map fun l => .call i l (ixOf ps (kws.filterMap (·.arg))) else none
      | _, _ => none
    | none => match args, kws with
      | [a, .Name t _], [] => if x == ("isinstance" : Str) then (if isGl sc t && okName t && notStar a then (tyOf t).bind fun b => (trE π n g N sc a).map fun A => .bi b [A] else none)
          else (biOf x).bind fun b => (trEs π n g N sc args).map fun l => .bi b l
      | [.GeneratorExp elt [⟨tg, iter, ifs, 0⟩] scope _], [] => match g with
        | 0 => none
        | g + 1 =>
          let own := ownOf N scope
          if blkC N sc scope own && notSet iter && !scope.isCoroutine && decide (scope.names.lookup (".0" : Str) = some NameKind.local) then (gkOf x).bind fun gk => (trI π n (g + 1) N sc tg iter).bind fun q => (trG N scope n tg).bind fun t => (trTs π n g N scope ifs).bind fun is => (trE π n g N scope elt).bind fun A =>
            if subB t own then some (.gen gk (own.map (·.2)) A t q.1 q.2 is) else none else none
      | [.GeneratorExp elt [⟨tg, iter, ifs, 0⟩, ⟨tg1, iter1, ifs1, 0⟩] scope _], [] => match g with
        | 0 => none
        | g + 1 =>
          let own := ownOf N scope
          if x == ("tuple" : Str) && blkC N sc scope own && notSet iter && notSet iter1 && !scope.isCoroutine && decide (scope.names.lookup (".0" : Str) = some NameKind.local) then (trI π n (g + 1) N sc tg iter).bind fun q => (trG N scope n tg).bind fun t => (trTs π n g N scope ifs).bind fun is => (trI π n g N scope tg1 iter1).bind fun q1 => (trG N scope n tg1).bind fun t1 =>
            (trTs π n g N scope ifs1).bind fun is1 => (trE π n g N scope elt).bind fun A => if subB t own && subB t1 own then some (.gen2 (own.map (·.2)) A t q.1 q.2 is t1.slots t1 q1.1 q1.2 is1) else none else none
      | [.Call (.Name r p) as [] q], [] => if x == ("list" : Str) && r == ("range" : Str) && isGl sc r && (π.F.lookup r).isNone then (match as with
          | [a] => (trEs π n g N sc [a]).map fun l => .rl true l
          | [a, b] => (trEs π n g N sc [a, b]).map fun l => .rl true l
          | _ => none)
        else if x == ("tuple" : Str) && r == ("range" : Str) && isGl sc r && (π.F.lookup r).isNone then (match as with
          | [a] => (trEs π n g N sc [a]).map fun l => .rl false l
          | [a, b] => (trEs π n g N sc [a, b]).map fun l => .rl false l
          | _ => none)
        else (biOf x).bind fun b => (trEs π n g N sc [.Call (.Name r p) as [] q]).map fun l => .bi b l
      | e :: es, [] => (biOf x).bind fun b => (trEs π n g N sc (e :: es)).map fun l => .bi b l
      | _, _ => none
termination_by structural n => n
def trT (π : Pg) : Nat → Nat → List Str → Scope → Expr → Option E
  | 0, _, _, _, _ => none
  | n + 1, g, N, sc, e => match e with
    | .BoolOp .And (e :: es) _ => (trTl π n g N sc (e :: es)).map .and
    | .BoolOp .Or (e :: es) _ => (trTl π n g N sc (e :: es)).map .or
    | .UnaryOp .Not a _ => (trT π n g N sc a).map .not
    | .Compare a [o] [b] _ => if behindInMarks (coOp (opC o)) b then none else (trE π n g N sc a).bind fun A => (trE π n g N sc b).map fun B => .cmp (opC o) A B
    | .Compare a [o, o'] [b, c] _ => if lastMarks [coOp (opC o), coOp (opC o')] [b, c] then none else (trE π n g N sc a).bind fun A => (trE π n g N sc b).bind fun B => (trE π n g N sc c).map fun C => .cmp2 (opC o) (opC o') A B C
    | e => if plainT e then (trE π n g N sc e).map .tru else none
termination_by structural n => n
def trEs (π : Pg) : Nat → Nat → List Str → Scope → List Expr → Option (List E)
  | 0, _, _, _, _ => none
  | _ + 1, _, _, _, [] => some []
  | n + 1, g, N, sc, e :: es => if notStar e then (trE π n g N sc e).bind fun A => (trEs π n g N sc es).map fun l => A :: l else none
termination_by structural n => n
def trKs (π : Pg) : Nat → Nat → List Str → Scope → List Keyword → Option (List E)
  | 0, _, _, _, _ => none
  | _ + 1, _, _, _, [] => some []
  | n + 1, g, N, sc, ⟨_, e, _⟩ :: es => (trE π n g N sc e).bind fun A => (trKs π n g N sc es).map fun l => A :: l
termination_by structural n => n
def trTl (π : Pg) : Nat → Nat → List Str → Scope → List Expr → Option (List E)
  | 0, _, _, _, _ => none
  | _ + 1, _, _, _, [] => some []
  | n + 1, g, N, sc, e :: es => (trT π n g N sc e).bind fun A => (trTl π n g N sc es).map fun l => A :: l
termination_by structural n => n
def trTs (π : Pg) : Nat → Nat → List Str → Scope → List Expr → Option (List E)
  | 0, _, _, _, _ => none
  | _ + 1, _, _, _, [] => some []
  | n + 1, g, N, sc, [c] => (trT π n g N sc c).map fun A => [A]
  | _ + 1, _, _, _, _ => none
termination_by structural n => n
def trO (π : Pg) : Nat → Nat → List Str → Scope → Option Expr → Option (Option E)
  | 0, _, _, _, _ => none
  | _ + 1, _, _, _, none => some none
  | n + 1, g, N, sc, some e => (trE π n g N sc e).map some
termination_by structural n => n
def trI (π : Pg) : Nat → Nat → List Str → Scope → Expr → Expr → Option (IK × List E)
  | 0, _, _, _, _, _ => none
  | n + 1, g, N, sc, tg, iter => match iter with
    | .Call (.Name x _) args [] _ =>
      if x == ("range" : Str) && isGl sc x && (π.F.lookup x).isNone then (match args with
        | [a] => (trEs π n g N sc [a]).map fun l => (.rng, l)
        | [a, b] => (trEs π n g N sc [a, b]).map fun l => (.rng, l)
        | _ => none)
      else if x == ("enumerate" : Str) && isGl sc x && (π.F.lookup x).isNone then (match tg, args with
        | .Tuple _ _ _, [a] => (trEs π n g N sc [a]).map fun l => (.enm, l)
        | _, _ => none)
      else if x == ("zip" : Str) && isGl sc x && (π.F.lookup x).isNone then (match tg, args with
        | .Tuple _ _ _, [a, b] => (trEs π n g N sc [a, b]).map fun l => (.zip, l)
        | _, _ => none)
      else (trE π n g N sc iter).map fun A => (.seq, [A])
    | iter => (trE π n g N sc iter).map fun A => (.seq, [A])
termination_by structural n => n
end
/-! statements -/
def notComp : Expr → Bool
  | .ListComp _ _ _ _ | .SetComp _ _ _ _ | .DictComp _ _ _ _ _ => false
  | _ => true
def swB (sc : Scope) (t : Str) (p : Pos) (e : Expr) : Bool := match e with
  | .ListComp _ _ s q => (match sc.names.lookup t with | some .local => true | _ => false) && p.line == q.line && !(s.names.any fun (n, k) => n == t && (k == .local || k == .cell))
  | _ => false
def locN (sc : Scope) (l : Nat) : Expr → Option Str
  | .Name id pos => if (match sc.names.lookup id with | some .local => true | _ => false) && pos.line == l then some id else none
  | _ => none
/-- a pair, a triple of plain names, stored from the right -/
def trP (π : Pg) (n g : Nat) (N : List Str) (sc : Scope) (ts vs : List Expr) : Option S := match ts, vs with
  | [.Name x px, .Name y py], [a, b] =>
    (slotOf N x).bind fun i => (slotOf N y).bind fun j => if i != j && (locN sc px.line (.Name x px)).isSome && (locN sc px.line (.Name y py)).isSome && notStar a && notStar b && !(foldedForSure 8 a && foldedForSure 8 b) && !(constantsAlone 8 a && constantsAlone 8 b) then
      (trEs π n g N sc [a, b]).map fun l => .par [i, j] l else none
  | [.Name x px, .Name y py, .Name z pz], [a, b, c] =>
    (slotOf N x).bind fun i => (slotOf N y).bind fun j => (slotOf N z).bind fun l => if i != j && i != l && j != l && (locN sc px.line (.Name x px)).isSome && (locN sc px.line (.Name y py)).isSome && (locN sc px.line (.Name z pz)).isSome && notStar a && notStar b && notStar c &&
        !(foldedForSure 8 a && foldedForSure 8 b && foldedForSure 8 c) && !(constantsAlone 8 a && constantsAlone 8 b && constantsAlone 8 c) then
      (trEs π n g N sc [a, b, c]).map fun q => .par [i, j, l] q else none
  | _, _ => none
/-- one of the names is no plain local -/
def anyOff (sc : Scope) (ts : List Expr) : Bool := ts.any fun t => (locN sc ((ts.head?.map (·.pos.line)).getD 0) t).isNone
/-- target = e -/
def trA (π : Pg) (n g : Nat) (N : List Str) (sc : Scope) (tg e : Expr) : Option S := match tg with
    | .Name x _ => if isLoc sc x then (slotOf N x).bind fun i => (trE π n g N sc e).map fun A => .set (.nm i) A else none
    | .Subscript o i _ => if notSlice i then (trE π n g N sc o).bind fun O => (trE π n g N sc i).bind fun I => (trE π n g N sc e).map fun A => .seti O I A else none
    | .Tuple ts k tp => match e with
      | .Tuple vs k2 tp2 => if anyOff sc ts || vs.all (foldedForSure 8) then (trG N sc n (.Tuple ts k tp)).bind fun t => (trE π n g N sc e).map fun A => .set t A else trP π n g N sc ts vs
      | e => if notComp e then (trG N sc n (.Tuple ts k tp)).bind fun t => (trE π n g N sc e).map fun A => .set t A else none
    | _ => none
/-- a call that may raise -/
def trX (π : Pg) (n g : Nat) (N : List Str) (sc : Scope) (k : XC) (x : Str) (args : List Expr) (kws : List Keyword) : Option S := match π.F.lookup x with
    | some (i, ps, kss) => match args, kws with
      | e :: es, [] => if (e :: es).length == ps.length then (trEs π n g N sc (e :: es)).map fun l => .xcall k i l (List.range ps.length) else none
      | [], kws => if kws.all (fun k => k.arg.isSome) && kss.contains (kws.filterMap (·.arg)) then (trKs π n g N sc kws).map fun l => .xcall k i l (ixOf ps (kws.filterMap (·.arg))) else none
      | _, _ => none
    | none => none
def xOf (π : Pg) (n g : Nat) (N : List Str) (sc : Scope) (k : XC) : Expr → Option S
  | .Call (.Name x _) args kws _ => if π.R.contains x && (isGl sc x && okName x) then trX π n g N sc k x args kws else none
  | _ => none
def isCT : Expr → Option (Const × Expr)
  | .Tuple [.Constant c _ _, e] _ _ => some (c, e)
  | _ => none
theorem isCT_ok {e e2 : Expr} {c : Const} (h : isCT e = some (c, e2)) : ∃ j cp kk tp, e = .Tuple [.Constant c j cp, e2] kk tp := by
  unfold isCT at h
  split at h
  · cases h; exact ⟨_, _, _, _, rfl⟩
  · cases h
def isRaise : Option Expr → Option Expr → Option (Str × List Expr)
  | some (.Call (.Name c _) args [] _), none => some (c, args)
  | _, _ => none
theorem isRaise_ok {e c : Option Expr} {x : Str} {args : List Expr} (h : isRaise e c = some (x, args)) : ∃ p q, e = some (.Call (.Name x p) args [] q) ∧ c = none := by
  unfold isRaise at h
  split at h
  · cases h; exact ⟨_, _, rfl, rfl⟩
  · cases h
def isTry : List ExceptHandler → List Stmt → List Stmt → Option (Str × Option Str × Expr)
  | .ExceptHandler (some (.Name c _)) (some y) [.Return (some e) _] _ :: _, [], [] => some (c, some y, e)
  | [.ExceptHandler (some (.Name c _)) none [.Return (some e) _] _], [], [] => some (c, none, e)
  | _, _, _ => none
theorem isTry_ok {hs : List ExceptHandler} {o f : List Stmt} {c : Str} {al : Option Str} {e : Expr} (h : isTry hs o f = some (c, al, e)) : ∃ np rp hp rest, hs = .ExceptHandler (some (.Name c np)) al [.Return (some e) rp] hp :: rest ∧ (al = none → rest = []) ∧ o = [] ∧ f = [] := by
  unfold isTry at h
  split at h
  · cases h; exact ⟨_, _, _, _, rfl, (fun z => by cases z), rfl, rfl⟩
  · cases h; exact ⟨_, _, _, _, rfl, fun _ => rfl, rfl, rfl⟩
  · cases h
def xRet (π : Pg) (n g : Nat) (N : List Str) (sc : Scope) (e : Expr) : Option S := match isCT e with
  | some (c, e2) => (cstP c).bind fun c => xOf π n g N sc (.retc c) e2
  | none => xOf π n g N sc .ret e
/-- what an except suite gives back -/
def trHQ (fl : List Str) (al : Option Str) : Expr → Option HQ
  | .Constant c _ _ => (cstP c).map .c
  | .Attribute (.Name y _) f _ => if al = some y then (fl.findIdx? (· == f)).map .f else none
  | _ => none
def trHQs (fl : List Str) (al : Option Str) : List Expr → Option (List HQ)
  | [] => some []
  | e :: es => if notStar e then (trHQ fl al e).bind fun q => (trHQs fl al es).map fun l => q :: l else none
def trH (fl : List Str) (al : Option Str) : Expr → Option HR
  | .Tuple es _ _ => (trHQs fl al es).map .tup
  | e => (trHQ fl al e).map .one
def okAl (N : List Str) (sc : Scope) : Option Str → Bool
  | none => true
  | some n => (match sc.names.lookup n with | some .local => true | _ => false) && (slotOf N n).isSome && okName n
mutual
def trS (π : Pg) : Nat → Nat → List Str → Scope → Stmt → Option S
  | 0, _, _, _, _ => none
  | n + 1, g, N, sc, st => match st with
    | .Expr (.Constant (.str _) _ _) _ => some .pas
    | .Expr e _ => match xOf π n g N sc .ex e with
      | some A => some A
      | none => if notComp e then (trE π n g N sc e).map .ex else none
    | .Return none _ => some .retn
    | .Return (some e) _ => match xRet π n g N sc e with
      | some A => some A
      | none => (trE π n g N sc e).map .ret
    | .Raise e c _ => match isRaise e c with
      | some (c, args) => if isGl sc c && okName c then (match π.X.lookup c with
        | some fl => if args.length == fl.length && (args.isEmpty || decide (3 ≤ g)) && args.all notStar then (trEs π n g N sc args).map (.raise c) else none
        | none => none) else none
      | none => none
    | .Try b hs o f _ => match isTry hs o f with
      | some (c, al, e) => if isGl sc c && okName c && okAl N sc al then (match π.X.lookup c with
        | some fl => (trH fl al e).bind fun h => (trSs π n g N sc b).map fun B => .tryS B c h
        | none => none) else none
      | none => none
    | .Pass _ => some .pas
    | .Break _ => some .brk
    | .Continue _ => some .cnt
    | .If c a b _ => (trT π n g N sc c).bind fun C => (trSs π n g N sc a).bind fun A => (trSs π n g N sc b).map fun B => .ife C A B
    | .While c b [] _ => (trT π n g N sc c).bind fun C => (trSs π n g N sc b).map fun B => .whl C B
    | .For tg iter b [] _ => if notSetF iter then (trI π n g N sc tg iter).bind fun q => (trG N sc n tg).bind fun t => (trSs π n g N sc b).map fun B => .loop t q.1 q.2 B else none
    | .AugAssign (.Name x _) o e _ => if isLoc sc x then (slotOf N x).bind fun i => (opB o).bind fun o => (trE π n g N sc e).map fun A => .aug i o A else none
    | .AugAssign (.Subscript a i _) o e _ => if notSlice i then (opB o).bind fun o => (trE π n g N sc a).bind fun A => (trE π n g N sc i).bind fun I => (trE π n g N sc e).map fun B => .augi A I o B else none
    | .Assign [tg] e pos => trA π n g N sc tg e
    | _ => none
termination_by structural n => n
def trSs (π : Pg) : Nat → Nat → List Str → Scope → List Stmt → Option (List S)
  | 0, _, _, _, _ => none
  | _ + 1, _, _, _, [] => some []
  | n + 1, g, N, sc, s :: ss => (trSs π n g N sc ss).map fun l => (trS π n g N sc s).getD .stk :: l
termination_by structural n => n
end
end IX
end

section
set_option Elab.async false
set_option autoImplicit false
set_option linter.all false
set_option maxRecDepth 100000
set_option maxHeartbeats 4000000
/-! The translation is sound: expressions. -/
namespace IX
open PySem PySem.Spec PyProof.Rows L2 GX
/-- an exception class of the text -/
structure ExcK (K : PySem.W.Frag) (mg : Str → Option Value) (c : Str) (fl : List Str) (C : Addr) : Prop where
  g : mg c = some (.ref C)
  kp : PySem.W.keepIn K (.ref C) = true
  sb : PySem.W.subIn K (.ref C) (.type "BaseException") = some true
  ty : PySem.W.typeIn K (.ref C) = some (.type "type")
  ex : PySem.W.exmOne K (.ref C) (.ref C) = some true
  own : fl = [] → PySem.W.excIn K C He.veBase "ValueError.__new__" = true
  fld : fl ≠ [] → XfC K C ∧ ∀ f ∈ fl, PySem.W.findIn K (.ref C) f = some none
/-- making one with fields -/
def MkOk (X : Cx) (c : Str) (fl : List Str) : Prop := fl ≠ [] → ∀ (es : List Expr) (fs : Env → Mem → Option (List D × Mem)) (p pos : Pos), es.length = fl.length → es.all (fun e => match e with | .Starred _ _ => false | _ => true) = true → PA X es (tIA X fs) → Room 3 X.A → Gl X c → (c == ("__debug__" : Str)) = false →
  PMk X (.Call (.Name c p) es [] pos) (fun σ H Q => ∃ ρ M α ds M' xs, RS X σ H ρ M α ∧ fs ρ M = some (ds, M') ∧ datas ds = some xs ∧ xs.length = fl.length ∧ smallPs xs = true ∧ ∀ cls d H' α', Nx X.K α H α' H' M' → XR [(c, fl)] X.mg X.K H' α' c xs cls d → Q cls d H')
structure CtxOk (π : Pg) (W : Wd) (lv g : Nat) (N : List Str) (sc : Scope) (X : Cx) : Prop where
  hN : X.N = N
  hsc : X.env.scope = sc
  nd : N.Nodup
  room : Room (lv + g) X.A
  calm : X.calm = true
  bm : BmAt X.base X.mg
  blt : ∀ x ∈ bltN, X.mg x = none
  con : ∀ x p, π.G.lookup x = some p → ∃ u v, X.mg x = some u ∧ RelV v u ∧ ∀ H α, RP X.K H α p v
  fns : ∀ x i ps kss, π.F.lookup x = some (i, ps, kss) → ∃ f fd, X.mg x = some (.ref f) ∧ PySem.W.keepIn X.K (.ref f) = true ∧ FnOk X.prog X.w X.K X.mg X.base (L2.CX X.prog X.w) lv f fd ps (spI X.K ps.length (W i)) ∧ FnOk X.prog X.w X.K X.mg X.base (L2.CX X.prog X.w) lv f fd ps (spX X.K X.mg π.X ps.length (W (i + XO))) ∧ Binds X.K fd ps [] ∧
    ∀ ks ∈ kss, KBinds X.K fd ps ks (gKs ps ks) (gKs ps ks)
  exc : ∀ c fl, π.X.lookup c = some fl → ∃ C, ExcK X.K X.mg c fl C
  mkr : ∀ c fl, π.X.lookup c = some fl → ∀ X' : Cx, X'.prog = X.prog → X'.w = X.w → X'.K = X.K → X'.mg = X.mg → X'.base = X.base → MkOk X' c fl
section
variable {e : Expr} {es : List Expr} {env : PySem.Env} {pos : Pos}
theorem star_cons (h : notStar e = true) : starEach (e :: es) env = (false, eval e env) :: starEach es env := by
  cases e <;> first | rfl | cases h
theorem star_any : ∀ {es : List Expr}, es.all notStar = true → (backTo pos (starEach es env)).any (·.1) = false
  | [], _ => rfl
  | e :: es, h => by
    rw [List.all_cons, Bool.and_eq_true] at h
    rw [star_cons h.1]
    show (false || (backTo pos (starEach es env)).any (·.1)) = false
    rw [star_any h.2]; rfl
theorem asg_cons (h : notStar e = true) : assignEach (e :: es) env = (false, assign e env) :: assignEach es env := by
  cases e <;> first | rfl | cases h
theorem asg_len : ∀ {es : List Expr}, es.all notStar = true → (assignEach es env).length = es.length ∧ (assignEach es env).findIdx? (·.1) = none
  | [], _ => ⟨rfl, rfl⟩
  | e :: es, h => by
    rw [List.all_cons, Bool.and_eq_true] at h
    rw [asg_cons h.1]
    have := asg_len (es := es) h.2
    exact ⟨by rw [List.length_cons, List.length_cons, this.1], by rw [List.findIdx?_cons]; simp [this.2]⟩
theorem twoKeys_ok {a x y : Expr} {k1 k2 : Int} (h : twoKeys a = some (k1, k2, x, y)) : ∃ j1 p1 j2 p2 dp, a = .Dict [some (.Constant (.int k1) j1 p1), some (.Constant (.int k2) j2 p2)] [x, y] dp := by
  unfold twoKeys at h
  split at h <;> try contradiction
  cases h
  exact ⟨_, _, _, _, _, rfl⟩
theorem plain_ix (h : notSlice e = true) : PlainIx e := by
  cases e <;> first | (intro _ _; rfl) | cases h
theorem nosl_ix (h : notSlice e = true) : NoSl e := by
  cases e <;> first | (intro _ _; rfl) | cases h
theorem set_fold (h : notSet e = true) : ∀ x, foldedSetIterable e env x = pure x := by
  cases e <;> first | (intro _; rfl) | cases h
theorem set_foldF (h : notSetF e = true) : ∀ x, foldedSetIterable e env x = pure x := by
  cases e <;> first | (intro _; rfl) | cases h
theorem gen_fold (h : notSet e = true) : ∀ x, genFold e env x = pure x := by
  cases e <;> first | (intro _; rfl) | cases h
theorem plain_test (h : plainT e = true) : ∀ whole, isTrue e env whole = (do let v ← whole; standAt e.pos; holding [v] (truthy v)) := by
  cases e <;> first | (intro _; rfl) | cases h
end
section
variable {π : Pg} {W : Wd} {lv g : Nat} {N : List Str} {sc scope : Scope} {X : Cx}
theorem findIdx_get {N : List Str} {x : Str} {i : Nat} (h : slotOf N x = some i) : N[i]? = some x := by
  unfold slotOf at h
  obtain ⟨h1, h2, _⟩ := List.findIdx?_eq_some_iff_getElem.mp h
  rw [List.getElem?_eq_getElem h1]
  exact congrArg some (beq_iff_eq.mp h2)
theorem vis_ok {x : Str} (h : isVis sc x = true) : Vis sc x := by
  unfold isVis at h
  unfold Vis
  split at h <;> first | (rename_i e; first | exact .inl e | exact .inr (.inl e) | exact .inr (.inr e)) | cases h
theorem loc_ok {x : Str} (h : isLoc sc x = true) : L2.Loc sc x := by
  unfold isLoc at h
  unfold L2.Loc
  split at h <;> first | (rename_i e; first | exact .inl e | exact .inr e) | cases h
theorem gl_ok (C : CtxOk π W lv g N sc X) {x : Str} (h : isGl sc x = true) : Gl X x := by
  unfold isGl at h
  show X.env.scope.names.lookup x = _
  rw [C.hsc]
  split at h <;> first | assumption | cases h
theorem okn_ok {x : Str} (h : okName x = true) : (x == ("__debug__" : Str)) = false ∧ (x == ("__classdict__" : Str)) = false := by
  unfold okName at h
  rw [Bool.and_eq_true] at h
  exact ⟨by simpa using h.1, by simpa using h.2⟩
theorem CtxOk.blk (C : CtxOk π W lv g N sc X) (s : Shared) (H : Hp) (c : Addr) (cl : List (Str × Addr)) (fp : List Addr) : CtxOk π W lv g N (relS scope sc) (X.blk s H scope (compEnvC scope cl c X.env) fp) :=
  ⟨C.hN, by rw [← C.hsc]; rfl, C.nd, C.room, C.calm, C.bm, C.blt, C.con, C.fns, C.exc, C.mkr⟩
theorem room_gen {k : Nat} {A : Around} (r : Room (k + 1) A) (gk : GK) (cenv : PySem.Env) : Room k ((GKA A gk).deeper cenv) := by
  have h1 := r.hd
  have h2 := r.dp
  have h3 := r.un
  cases gk
  · exact ⟨h1, by show A.depth + 1 + 3 * k + 5 < _; omega, by show A.units + 1 + 1 + 1 + 1 + 3 + 16 * k + 200 < _; omega⟩
  all_goals exact ⟨h1, by show A.depth + 1 + 3 * k + 5 < _; omega, by show A.units + 1 + 1 + 3 + 16 * k + 200 < _; omega⟩
theorem CtxOk.gen (C : CtxOk π W lv (g + 1) N sc X) {Xg : Cx} {H : Hp} {gk : GK} (h : IsG X Xg (GKA X.A gk) H scope) : CtxOk π W lv g N scope Xg := by
  obtain ⟨s4, cl, L, cv, fp, pn, rfl, _⟩ := h
  exact ⟨C.hN, rfl, C.nd, room_gen (k := lv + g) C.room gk _, C.calm, C.bm, C.blt, C.con, C.fns, C.exc, C.mkr⟩
theorem CtxOk.units (C : CtxOk π W lv g N sc X) : X.A.units + 65 < cLine := by have := C.room.un; omega
abbrev Gf (π : Pg) : Str → Option P := fun x => π.G.lookup x
def AllE (X : Cx) (W : Wd) (G : Str → Option P) : List Expr → List E → Prop
  | [], [] => True
  | e :: es, A :: l => notStar e = true ∧ PE X e (tI X (evE W G A)) ∧ AllE X W G es l
  | _, _ => False
def AllT (X : Cx) (W : Wd) (G : Str → Option P) : List Expr → List E → Prop
  | [], [] => True
  | e :: es, A :: l => PT X e (tIT X (evT W G A)) ∧ AllT X W G es l
  | _, _ => False
theorem AllE.star {G : Str → Option P} : ∀ {es : List Expr} {l : List E}, AllE X W G es l → es.all notStar = true
  | [], [], _ => rfl
  | e :: es, A :: l, h => by rw [List.all_cons, h.1, AllE.star h.2.2]; rfl
  | [], _ :: _, h => h.elim
  | _ :: _, [], h => h.elim
theorem AllE.len {G : Str → Option P} : ∀ {es : List Expr} {l : List E}, AllE X W G es l → es.length = l.length
  | [], [], _ => rfl
  | e :: es, A :: l, h => by rw [List.length_cons, List.length_cons, AllE.len h.2.2]
  | [], _ :: _, h => h.elim
  | _ :: _, [], h => h.elim
theorem AllE.pa {G : Str → Option P} : ∀ {es : List Expr} {l : List E}, AllE X W G es l → PA X es (tIA X (evEs W G l))
  | [], [], _ => a_nil
  | e :: es, A :: l, h => a_cons h.2.1 (AllE.pa h.2.2) (star_cons h.1)
  | [], _ :: _, h => h.elim
  | _ :: _, [], h => h.elim
theorem evEs_len {G : Str → Option P} : ∀ {l : List E} {ρ : Env} {M M' : Mem} {ds : List D}, evEs W G l ρ M = some (ds, M') → ds.length = l.length
  | [], _, _, _, _, h => by cases h; rfl
  | A :: l, ρ, M, M', ds, h => by
    obtain ⟨⟨x, M1⟩, e1, h⟩ := ob (show (do
      let (x, M) ← evE W G A ρ M
      let (xs, M) ← evEs W G l ρ M
      some (x :: xs, M)) = some (ds, M') from h)
    obtain ⟨⟨xs, M2⟩, e2, h⟩ := ob h
    cases h
    rw [List.length_cons, List.length_cons, evEs_len e2]
theorem AllE.and {G : Str → Option P} {pos : Pos} : ∀ {es : List Expr} {e : Expr} {A : E} {l : List E}, AllE X W G (e :: es) (A :: l) → PE X (.BoolOp .And (e :: es) pos) (tI X (evAnd W G (A :: l)))
  | [], e, A, [], h => s_and1 h.2.1
  | b :: es, e, A, B :: l, h => s_and h.2.1 (AllE.and h.2.2)
  | [], _, _, _ :: _, h => h.2.2.elim
  | _ :: _, _, _, [], h => h.2.2.elim
theorem AllE.or {G : Str → Option P} {pos : Pos} : ∀ {es : List Expr} {e : Expr} {A : E} {l : List E}, AllE X W G (e :: es) (A :: l) → PE X (.BoolOp .Or (e :: es) pos) (tI X (evOr W G (A :: l)))
  | [], e, A, [], h => s_or1 h.2.1
  | b :: es, e, A, B :: l, h => s_or h.2.1 (AllE.or h.2.2)
  | [], _, _, _ :: _, h => h.2.2.elim
  | _ :: _, _, _, [], h => h.2.2.elim
theorem AllT.and {G : Str → Option P} {pos : Pos} : ∀ {es : List Expr} {e : Expr} {A : E} {l : List E}, AllT X W G (e :: es) (A :: l) → PW X (.BoolOp .And (e :: es) pos) (tIT X (evTAnd W G (A :: l)))
  | [], e, A, [], h => t_and1 h.1
  | b :: es, e, A, B :: l, h => t_and h.1 (AllT.and h.2)
  | [], _, _, _ :: _, h => h.2.elim
  | _ :: _, _, _, [], h => h.2.elim
theorem AllT.or {G : Str → Option P} {pos : Pos} : ∀ {es : List Expr} {e : Expr} {A : E} {l : List E}, AllT X W G (e :: es) (A :: l) → PW X (.BoolOp .Or (e :: es) pos) (tIT X (evTOr W G (A :: l)))
  | [], e, A, [], h => t_or1 h.1
  | b :: es, e, A, B :: l, h => t_or h.1 (AllT.or h.2)
  | [], _, _, _ :: _, h => h.2.elim
  | _ :: _, _, _, [], h => h.2.elim
/-- the names that may be stored -/
def TgOk (tsc : Scope) (X : Cx) : Prop := ∀ x, isLoc tsc x = true → L2.Loc X.env.scope x ∧ (X.fn x = true ∨ X.env.scope.names.lookup x = some .local)
theorem tg_fn (C : CtxOk π W lv g N sc X) (h : ∀ x, X.fn x = true) : TgOk sc X := fun x hx => ⟨by rw [C.hsc]; exact loc_ok hx, .inl (h x)⟩
theorem tg_blk {scope : Scope} (s : Shared) (H : Hp) (c : Addr) (cl : List (Str × Addr)) (fp : List Addr) : TgOk scope (X.blk s H scope (compEnvC scope cl c X.env) fp) := fun x hx => by
  rcases loc_ok hx with h | h
  · have := lookup_relS_keep (sc := X.env.scope) (by decide) h
    exact ⟨.inl this, .inr this⟩
  · have := lookup_relS_keep (sc := X.env.scope) (by decide) h
    exact ⟨.inr this, .inl (by show (scope.names.lookup x == some NameKind.cell) = true; rw [h]; rfl)⟩
theorem tg_gen {Xg : Cx} {Ac : Around} {H : Hp} (h : IsG X Xg Ac H scope) : TgOk scope Xg := fun x hx => by
  obtain ⟨s4, cl, L, cv, fp, pn, rfl, _⟩ := h
  rcases loc_ok hx with h | h
  · exact ⟨.inl h, .inr h⟩
  · exact ⟨.inr h, .inl (by show (scope.names.lookup x == some NameKind.cell) = true; rw [h]; rfl)⟩
/-- targets -/
theorem trG_ok : ∀ n, (∀ {e : Expr} {t : T} {X : Cx} {sc0 : Scope}, CtxOk π W lv g N sc0 X → TgOk sc X → trG N sc n e = some t → PG X e (tGp X t)) ∧
    (∀ {es : List Expr} {ts : List T} {X : Cx} {sc0 : Scope}, CtxOk π W lv g N sc0 X → TgOk sc X → trGs N sc n es = some ts → PGs X es (tGs X ts) ∧ es.all notStar = true ∧ es.length = ts.length)
  | 0 => ⟨fun _ _ h => (by cases h), fun _ _ h => (by cases h)⟩
  | n + 1 => by
    obtain ⟨ih1, ih2⟩ := trG_ok n
    refine ⟨fun {e t X sc0} C K h => ?_, fun {es ts X sc0} C K h => ?_⟩
    · cases e with
      | Name x pos =>
        have h : (if isLoc sc x then (slotOf N x).map T.nm else none) = some t := h
        split at h <;> try contradiction
        rename_i hl
        obtain ⟨i, e1, rfl⟩ := Option.map_eq_some_iff.mp h
        exact g_nm (by rw [C.hN]; exact C.nd) (by rw [C.hN]; exact findIdx_get e1) (K x hl).1 (K x hl).2
      | Tuple es k pos =>
        obtain ⟨ts, e1, rfl⟩ := Option.map_eq_some_iff.mp (show (trGs N sc n es).map T.tp = some t from h)
        obtain ⟨h1, h2, h3⟩ := ih2 C K e1
        have := asg_len (env := X.env) h2
        exact g_tp C.calm h1 (by rw [this.1]; exact h3) this.2
      | _ => cases h
    · cases es with
      | nil => cases h; exact ⟨gs_nil, rfl, rfl⟩
      | cons e es =>
        have h : (if notStar e then (trG N sc n e).bind fun t => (trGs N sc n es).map fun ts => t :: ts else none) = some ts := h
        split at h <;> try contradiction
        rename_i hs
        obtain ⟨t, e1, h⟩ := Option.bind_eq_some_iff.mp h
        obtain ⟨ts', e2, rfl⟩ := Option.map_eq_some_iff.mp h
        obtain ⟨h1, h2, h3⟩ := ih2 C K e2
        exact ⟨gs_cons (ih1 C K e1) h1 (by rw [asg_cons hs]; rfl), by rw [List.all_cons, hs, h2]; rfl, by rw [List.length_cons, List.length_cons, h3]⟩
theorem sub_ok {t : T} {own : List (Str × Nat)} (h : subB t own = true) : ∀ i ∈ t.slots, i ∈ own.map (·.2) := fun i hi => by
  have := List.all_eq_true.mp h i hi
  simpa using this
theorem opc_ok (o : CmpOp) : coOp (opC o) = o := by cases o <;> rfl
theorem s_ops {o : Operator} {bo : BO} (h : opB o = some bo) : ∃ r : Cx → R2, (∀ X : Cx, OpR X (binaryOp o) (r X)) ∧ ∀ X : Cx, OpI X (r X) (binop bo) := by
  cases o <;> cases h
  · exact ⟨fun X => _, fun X => or_add, fun X => oi_add⟩
  · exact ⟨fun X => _, fun X => op_sub, fun X => oi_sub⟩
  · exact ⟨fun X => _, fun X => or_mul, fun X => oi_mul⟩
  · exact ⟨fun X => _, fun X => op_modN, fun X => oi_mod⟩
  · exact ⟨fun X => _, fun X => op_pow, fun X => oi_pow⟩
  · exact ⟨fun X => _, fun X => or_div, fun X => oi_div⟩
structure Snd (π : Pg) (W : Wd) (lv n : Nat) : Prop where
  e : ∀ {g : Nat} {N : List Str} {sc : Scope} {e : Expr} {A : E} {X : Cx}, CtxOk π W lv g N sc X → trE π n g N sc e = some A → PE X e (tI X (evE W (Gf π) A))
  c : ∀ {g : Nat} {N : List Str} {sc : Scope} {x : Str} {args : List Expr} {kws : List Keyword} {A : E} {X : Cx} {p pos : Pos}, CtxOk π W lv g N sc X → isGl sc x = true → okName x = true → trC π n g N sc x args kws = some A → PE X (.Call (.Name x p) args kws pos) (tI X (evE W (Gf π) A))
  t : ∀ {g : Nat} {N : List Str} {sc : Scope} {e : Expr} {A : E} {X : Cx}, CtxOk π W lv g N sc X → trT π n g N sc e = some A → PT X e (tIT X (evT W (Gf π) A))
  es : ∀ {g : Nat} {N : List Str} {sc : Scope} {es : List Expr} {l : List E} {X : Cx}, CtxOk π W lv g N sc X → trEs π n g N sc es = some l → AllE X W (Gf π) es l
  ks : ∀ {g : Nat} {N : List Str} {sc : Scope} {kws : List Keyword} {l : List E} {X : Cx}, CtxOk π W lv g N sc X → trKs π n g N sc kws = some l → PK X kws (tIA X (evEs W (Gf π) l))
  tl : ∀ {g : Nat} {N : List Str} {sc : Scope} {es : List Expr} {l : List E} {X : Cx}, CtxOk π W lv g N sc X → trTl π n g N sc es = some l → AllT X W (Gf π) es l
  ts : ∀ {g : Nat} {N : List Str} {sc : Scope} {es : List Expr} {l : List E} {X : Cx}, CtxOk π W lv g N sc X → trTs π n g N sc es = some l → PTs X es (tIT X (evIfs W (Gf π) l))
  o : ∀ {g : Nat} {N : List Str} {sc : Scope} {e : Option Expr} {A : Option E} {X : Cx}, CtxOk π W lv g N sc X → trO π n g N sc e = some A → PO X e (tIO X (evO W (Gf π) A))
  i : ∀ {g : Nat} {N : List Str} {sc : Scope} {tg iter : Expr} {q : IK × List E} {X : Cx}, CtxOk π W lv g N sc X → trI π n g N sc tg iter = some q → PI X tg iter (iS X q.1 (evEs W (Gf π) q.2))
variable {n : Nat}
theorem snd_es (S : Snd π W lv n) {es : List Expr} {l : List E} (C : CtxOk π W lv g N sc X) (h : trEs π (n + 1) g N sc es = some l) : AllE X W (Gf π) es l := by
  cases es with
  | nil => cases h; exact trivial
  | cons e es =>
    have h : (if notStar e then (trE π n g N sc e).bind fun A => (trEs π n g N sc es).map fun l => A :: l else none) = some l := h
    split at h <;> try contradiction
    rename_i hs
    obtain ⟨A, e1, h⟩ := Option.bind_eq_some_iff.mp h
    obtain ⟨l', e2, rfl⟩ := Option.map_eq_some_iff.mp h
    exact ⟨hs, S.e C e1, S.es C e2⟩
theorem snd_ks (S : Snd π W lv n) {kws : List Keyword} {l : List E} (C : CtxOk π W lv g N sc X) (h : trKs π (n + 1) g N sc kws = some l) : PK X kws (tIA X (evEs W (Gf π) l)) := by
  cases kws with
  | nil => cases h; exact k_nil
  | cons k kws =>
    obtain ⟨nm, e, kp⟩ := k
    obtain ⟨A, e1, h⟩ := Option.bind_eq_some_iff.mp (show ((trE π n g N sc e).bind fun A => (trKs π n g N sc kws).map fun l => A :: l) = some l from h)
    obtain ⟨l', e2, rfl⟩ := Option.map_eq_some_iff.mp h
    exact k_cons (S.e C e1) (S.ks C e2)
theorem snd_tl (S : Snd π W lv n) {es : List Expr} {l : List E} (C : CtxOk π W lv g N sc X) (h : trTl π (n + 1) g N sc es = some l) : AllT X W (Gf π) es l := by
  cases es with
  | nil => cases h; exact trivial
  | cons e es =>
    obtain ⟨A, e1, h⟩ := Option.bind_eq_some_iff.mp (show ((trT π n g N sc e).bind fun A => (trTl π n g N sc es).map fun l => A :: l) = some l from h)
    obtain ⟨l', e2, rfl⟩ := Option.map_eq_some_iff.mp h
    exact ⟨S.t C e1, S.tl C e2⟩
theorem snd_ts (S : Snd π W lv n) {es : List Expr} {l : List E} (C : CtxOk π W lv g N sc X) (h : trTs π (n + 1) g N sc es = some l) : PTs X es (tIT X (evIfs W (Gf π) l)) := by
  match es, h with
  | [], h =>
    cases h
    refine ⟨fun pins s σ H Q I hw => pts_nil.run pins s σ H Q I ?_⟩
    obtain ⟨ρ, M, α, b, M', r, e, q⟩ := hw
    cases e
    exact q H α (Nx.refl r.mem r.tab)
  | [c], h =>
    obtain ⟨A, e1, rfl⟩ := Option.map_eq_some_iff.mp (show (trT π n g N sc c).map (fun A => [A]) = some l from h)
    exact pts_one (S.t C e1)
  | _ :: _ :: _, h => cases h
theorem snd_o (S : Snd π W lv n) {e : Option Expr} {A : Option E} (C : CtxOk π W lv g N sc X) (h : trO π (n + 1) g N sc e = some A) : PO X e (tIO X (evO W (Gf π) A)) := by
  cases e with
  | none => cases h; exact o_none
  | some e =>
    obtain ⟨A', e1, rfl⟩ := Option.map_eq_some_iff.mp (show (trE π n g N sc e).map some = some A from h)
    exact o_some (S.e C e1)
theorem snd_t (S : Snd π W lv n) {e : Expr} {A : E} (C : CtxOk π W lv g N sc X) (h : trT π (n + 1) g N sc e = some A) : PT X e (tIT X (evT W (Gf π) A)) := by
  have plain : ∀ e : Expr, (if plainT e then (trE π n g N sc e).map E.tru else none) = some A → PT X e (tIT X (evT W (Gf π) A)) := fun e h => by
    split at h <;> try contradiction
    rename_i hp
    obtain ⟨B, e1, rfl⟩ := Option.map_eq_some_iff.mp h
    exact t_tru (S.e C e1) (plain_test hp)
  cases e with
  | BoolOp op es pos =>
    cases es with
    | nil => cases op <;> cases h
    | cons e es =>
      cases op with
      | And =>
        obtain ⟨l, e1, rfl⟩ := Option.map_eq_some_iff.mp (show (trTl π n g N sc (e :: es)).map E.and = some A from h)
        have := S.tl C e1
        cases l with
        | nil => exact this.elim
        | cons B l => exact (AllT.and this).pt
      | Or =>
        obtain ⟨l, e1, rfl⟩ := Option.map_eq_some_iff.mp (show (trTl π n g N sc (e :: es)).map E.or = some A from h)
        have := S.tl C e1
        cases l with
        | nil => exact this.elim
        | cons B l => exact (AllT.or this).pt
  | UnaryOp op a pos =>
    cases op with
    | Not =>
      obtain ⟨B, e1, rfl⟩ := Option.map_eq_some_iff.mp (show (trT π n g N sc a).map E.not = some A from h)
      exact t_not (S.t C e1)
    | _ => exact plain _ h
  | Compare a ops bs pos =>
    match ops, bs, h with
    | [o], [b], h =>
      have h : (if behindInMarks (coOp (opC o)) b then none else (trE π n g N sc a).bind fun A => (trE π n g N sc b).map fun B => E.cmp (opC o) A B) = some A := h
      split at h <;> try contradiction
      rename_i hb
      obtain ⟨A1, e1, h⟩ := Option.bind_eq_some_iff.mp h
      obtain ⟨B1, e2, rfl⟩ := Option.map_eq_some_iff.mp h
      have := t_cmp (pos := pos) (o := opC o) C.units (S.e C e1) (S.e C e2) (by simpa using hb)
      rw [opc_ok] at this
      exact this
    | [o, o'], [b, c], h =>
      have h : (if lastMarks [coOp (opC o), coOp (opC o')] [b, c] then none else (trE π n g N sc a).bind fun A => (trE π n g N sc b).bind fun B => (trE π n g N sc c).map fun C => E.cmp2 (opC o) (opC o') A B C) = some A := h
      split at h <;> try contradiction
      rename_i hb
      obtain ⟨A1, e1, h⟩ := Option.bind_eq_some_iff.mp h
      obtain ⟨B1, e2, h⟩ := Option.bind_eq_some_iff.mp h
      obtain ⟨C1, e3, rfl⟩ := Option.map_eq_some_iff.mp h
      have := t_cmp2 (pos := pos) (o := opC o) (o' := opC o') C.units (S.e C e1) (S.e C e2) (S.e C e3) (by simpa using hb)
      rw [opc_ok, opc_ok] at this
      exact this
    | [], _, h => cases h
    | [_], [], h => cases h
    | [_], _ :: _ :: _, h => cases h
    | [_, _], [], h => cases h
    | [_, _], [_], h => cases h
    | [_, _], _ :: _ :: _ :: _, h => cases h
    | _ :: _ :: _ :: _, _, h => cases h
  | _ => exact plain _ h
end
end IX
end

section
set_option Elab.async false
set_option autoImplicit false
set_option linter.all false
set_option maxRecDepth 100000
set_option maxHeartbeats 4000000
/-! The translation is sound: expressions, the rest. -/
namespace IX
open PySem PySem.Spec PyProof.Rows L2 GX
section
variable {π : Pg} {W : Wd} {lv g : Nat} {N : List Str} {sc scope : Scope} {X : Cx} {n : Nat}
theorem CtxOk.len1 {G : Str → Option P} {A : E} : ∀ ρ M ds M', evEs W G [A] ρ M = some (ds, M') → ds.length = 1 := fun _ _ _ _ h => evEs_len h
theorem snd_i (S : Snd π W lv n) {tg iter : Expr} {q : IK × List E} (C : CtxOk π W lv g N sc X) (h : trI π (n + 1) g N sc tg iter = some q) : PI X tg iter (iS X q.1 (evEs W (Gf π) q.2)) := by
  have seq : ∀ iter : Expr, (trE π n g N sc iter).map (fun A => (IK.seq, [A])) = some q → PI X tg iter (iS X q.1 (evEs W (Gf π) q.2)) := fun iter h => by
    obtain ⟨A, e1, rfl⟩ := Option.map_eq_some_iff.mp h
    exact i_seq (S.e C e1)
  cases iter with
  | Call f args kws pos =>
    cases f with
    | Name x p =>
      cases kws with
      | cons _ _ => exact seq _ h
      | nil =>
        replace h : (if x == ("range" : Str) && isGl sc x && (π.F.lookup x).isNone then (match (generalizing := false) args with
            | [a] => (trEs π n g N sc [a]).map fun l => (IK.rng, l)
            | [a, b] => (trEs π n g N sc [a, b]).map fun l => (IK.rng, l)
            | _ => none)
          else if x == ("enumerate" : Str) && isGl sc x && (π.F.lookup x).isNone then (match (generalizing := false) tg, args with
            | .Tuple _ _ _, [a] => (trEs π n g N sc [a]).map fun l => (IK.enm, l)
            | _, _ => none)
          else if x == ("zip" : Str) && isGl sc x && (π.F.lookup x).isNone then (match (generalizing := false) tg, args with
            | .Tuple _ _ _, [a, b] => (trEs π n g N sc [a, b]).map fun l => (IK.zip, l)
            | _, _ => none)
          else (trE π n g N sc (.Call (.Name x p) args [] pos)).map fun A => (IK.seq, [A])) = some q := h
        split at h
        · rename_i hc
          simp only [Bool.and_eq_true] at hc
          obtain ⟨⟨h1, h2⟩, _⟩ := hc
          obtain rfl := beq_iff_eq.mp h1
          have hg := gl_ok C h2
          have hm : X.mg "range" = none := C.blt _ (by simp [bltN])
          split at h <;> try contradiction
          · obtain ⟨l, e1, rfl⟩ := Option.map_eq_some_iff.mp h
            have al := S.es C e1
            have hl := al.len
            have hst := al.star
            rw [List.all_cons, Bool.and_eq_true] at hst
            exact i_rng1 hg hm al.pa (star_cons (es := []) hst.1) fun ρ M ds M' hh => by rw [evEs_len hh, ← hl]; rfl
          · obtain ⟨l, e1, rfl⟩ := Option.map_eq_some_iff.mp h
            have al := S.es C e1
            have hl := al.len
            have hst := al.star
            rw [List.all_cons, Bool.and_eq_true, List.all_cons, Bool.and_eq_true] at hst
            have hb := star_cons (env := X.env) (es := []) hst.2.1
            exact i_rng2 hg hm al.pa (by rw [star_cons hst.1, hb]; rfl) hb fun ρ M ds M' hh => by rw [evEs_len hh, ← hl]; rfl
        · split at h
          · rename_i hc
            simp only [Bool.and_eq_true] at hc
            obtain ⟨⟨h1, h2⟩, _⟩ := hc
            obtain rfl := beq_iff_eq.mp h1
            have hg := gl_ok C h2
            have hm : X.mg "enumerate" = none := C.blt _ (by simp [bltN])
            split at h <;> try contradiction
            obtain ⟨l, e1, rfl⟩ := Option.map_eq_some_iff.mp h
            have al := S.es C e1
            have hl := al.len
            have hst := al.star
            rw [List.all_cons, Bool.and_eq_true] at hst
            exact i_enm hg hm al.pa (star_cons (es := []) hst.1) fun ρ M ds M' hh => by rw [evEs_len hh, ← hl]; rfl
          · split at h
            · rename_i hc
              simp only [Bool.and_eq_true] at hc
              obtain ⟨⟨h1, h2⟩, _⟩ := hc
              obtain rfl := beq_iff_eq.mp h1
              have hg := gl_ok C h2
              have hm : X.mg "zip" = none := C.blt _ (by simp [bltN])
              split at h <;> try contradiction
              obtain ⟨l, e1, rfl⟩ := Option.map_eq_some_iff.mp h
              have al := S.es C e1
              have hl := al.len
              have hst := al.star
              rw [List.all_cons, Bool.and_eq_true] at hst
              exact i_zip hg hm al.pa (star_cons hst.1) (star_any hst.2) fun ρ M ds M' hh => by rw [evEs_len hh, ← hl]; rfl
            · exact seq _ h
    | _ => exact seq _ h
  | _ => exact seq _ h
theorem bi_ok {x : Str} {b : BI} (h : biOf x = some b) {e : Expr} {es : List Expr} {l : List E} {p pos : Pos} (C : CtxOk π W lv g N sc X) (hg : Gl X x) (al : AllE X W (Gf π) (e :: es) l) :
    PE X (.Call (.Name x p) (e :: es) [] pos) (tI X (evE W (Gf π) (.bi b l))) := by
  have hst := al.star
  rw [List.all_cons, Bool.and_eq_true] at hst
  have st := star_cons (env := X.env) (es := es) hst.1
  have sa := star_any (env := X.env) (pos := pos) hst.2
  unfold biOf at h
  simp only [List.lookup] at h
  repeat' split at h
  all_goals first | (cases h; done) | skip
  all_goals (rename_i hx; obtain rfl := beq_iff_eq.mp hx; cases h)
  · exact s_cb (pe_callB call_len_seq hg (C.blt _ (by simp [bltN])) boot_len al.pa (by decide) (by decide) st sa) ci_len
  · exact s_cb (pe_callB call_abs hg (C.blt _ (by simp [bltN])) boot_abs al.pa (by decide) (by decide) st sa) ci_abs
  · exact s_cb (pe_callTy call_int1 hg (C.blt _ (by simp [bltN])) boot_int al.pa (by decide) (by decide) st sa) ci_int
  · exact s_cb (pe_callTy call_bool1 hg (C.blt _ (by simp [bltN])) boot_bool al.pa (by decide) (by decide) st sa) ci_bool
  · exact s_cb (pe_callB (CallR.or (call_max2 C.calm) (CallR.or (cr_max C.calm) (E1.cr_maxT C.calm C.room.units))) hg (C.blt _ (by simp [bltN])) boot_max al.pa (by decide) (by decide) st sa) ci_max
  · exact s_cb (pe_callB (CallR.or (call_min2 C.calm) (CallR.or (cr_min C.calm) (E1.cr_minT C.calm C.room.units))) hg (C.blt _ (by simp [bltN])) boot_min al.pa (by decide) (by decide) st sa) ci_min
  · exact s_cb (pe_callB (CallR.or (cr_sum C.calm) (E1.cr_sumT C.calm)) hg (C.blt _ (by simp [bltN])) boot_sum al.pa (by decide) (by decide) st sa) ci_sum
  · exact s_cb (pe_callTy call_tuple_of hg (C.blt _ (by simp [bltN])) boot_tuple al.pa (by decide) (by decide) st sa) ci_tuple
  · exact s_cb (pe_callTy call_list_of hg (C.blt _ (by simp [bltN])) boot_list al.pa (by decide) (by decide) st sa) ci_list
  · exact s_cb (pe_callB (E1.cr_allL C.calm) hg (C.blt _ (by simp [bltN])) PyProof.Rows.boot_all al.pa (by decide) (by decide) st sa) ci_all
end
end IX
end

section
set_option Elab.async false
set_option autoImplicit false
set_option linter.all false
set_option maxRecDepth 100000
set_option maxHeartbeats 4000000
/-! The translation is sound: calls, expressions, together. -/
namespace IX
open PySem PySem.Spec PyProof.Rows L2 GX
section
variable {π : Pg} {W : Wd} {lv g : Nat} {N : List Str} {sc scope : Scope} {X : Cx} {n : Nat}
theorem room_lv (C : CtxOk π W lv g N sc X) : Room lv X.A := C.room.mono (Nat.le_add_right _ _)
theorem kws_names : ∀ (kws : List Keyword) (pos : Pos), kws.all (fun k => k.arg.isSome) = true → (backToKw pos (keywordEach kws X.env)).all (·.1.isSome) = true ∧ (backToKw pos (keywordEach kws X.env)).filterMap (·.1) = kws.filterMap (·.arg) ∧
    (backToKw pos (keywordEach kws X.env)).any (·.1.isNone) = false
  | [], _, _ => ⟨rfl, rfl, rfl⟩
  | ⟨nm, e, kp⟩ :: kws, pos, h => by
    rw [List.all_cons, Bool.and_eq_true] at h
    obtain ⟨h1, h2, h3⟩ := kws_names kws pos h.2
    have hn : nm.isSome = true := h.1
    refine ⟨?_, ?_, ?_⟩
    · show (nm.isSome && (backToKw pos (keywordEach kws X.env)).all (·.1.isSome)) = true
      rw [hn, h1]; rfl
    · show List.filterMap (·.1) ((nm, _) :: backToKw pos (keywordEach kws X.env)) = List.filterMap (·.arg) (⟨nm, e, kp⟩ :: kws)
      rw [List.filterMap_cons, List.filterMap_cons, h2]
    · show (nm.isNone || (backToKw pos (keywordEach kws X.env)).any (·.1.isNone)) = false
      rw [h3]
      cases nm with
      | none => cases hn
      | some _ => rfl
theorem ty_bltn {t : Str} {b : BI} (h : tyOf t = some b) (C : CtxOk π W lv g N sc X) (hg : Gl X t) (hms : X.mg "str" = none) : ∃ T, isT b = some T ∧ ∀ p2, PE X (.Name t p2) (tC (.ty T)) := by
  unfold tyOf at h
  simp only [List.lookup] at h
  repeat' split at h
  all_goals first | (cases h; done) | skip
  all_goals (rename_i hx; obtain rfl := beq_iff_eq.mp hx; cases h)
  · exact ⟨"int", rfl, fun p2 => pe_bltn hg (C.blt _ (by simp [bltN])) boot_int rfl⟩
  · exact ⟨"bool", rfl, fun p2 => pe_bltn hg (C.blt _ (by simp [bltN])) boot_bool rfl⟩
  · exact ⟨"tuple", rfl, fun p2 => pe_bltn hg (C.blt _ (by simp [bltN])) boot_tuple rfl⟩
  · exact ⟨"str", rfl, fun p2 => pe_bltn hg hms boot_str rfl⟩
theorem gk_name {x : Str} {gk : GK} (h : gkOf x = some gk) : x = GKn gk := by
  unfold gkOf at h
  simp only [List.lookup] at h
  repeat' split at h
  all_goals first | (cases h; done) | skip
  all_goals (rename_i hx; obtain rfl := beq_iff_eq.mp hx; cases h; rfl)
theorem own_sub {own : List (Str × Nat)} {t : T} (h : subB t own = true) : ∀ i ∈ t.slots, i ∈ own.map (·.2) := sub_ok h
theorem snd_c (S : Snd π W lv n) {x : Str} {args : List Expr} {kws : List Keyword} {A : E} {p pos : Pos} (C : CtxOk π W lv g N sc X) (hgl : isGl sc x = true) (hn : okName x = true) (h : trC π (n + 1) g N sc x args kws = some A) :
    PE X (.Call (.Name x p) args kws pos) (tI X (evE W (Gf π) A)) := by
  have hg := gl_ok C hgl
  have hdb := (okn_ok hn).1
  replace h : (match (generalizing := false) π.F.lookup x with
    | some (i, ps, kss) => (match (generalizing := false) args, kws with
      | e :: es, [] => if (e :: es).length == ps.length then (trEs π n g N sc (e :: es)).map fun l => E.call i l (List.range ps.length) else none
      | [], kws => if kws.all (fun k => k.arg.isSome) && kss.contains (kws.filterMap (·.arg)) then (trKs π n g N sc kws).map fun l => E.call i l (ixOf ps (kws.filterMap (·.arg))) else none
      | _, _ => none)
    | none => (match (generalizing := false) args, kws with
      | [a, .Name t _], [] => if x == ("isinstance" : Str) then (if isGl sc t && okName t && notStar a then (tyOf t).bind fun b => (trE π n g N sc a).map fun A => E.bi b [A] else none)
          else (biOf x).bind fun b => (trEs π n g N sc args).map fun l => E.bi b l
      | [.GeneratorExp elt [⟨tg, iter, ifs, 0⟩] scope _], [] => (match (generalizing := false) g with
        | 0 => none
        | g + 1 =>
          if blkC N sc scope (ownOf N scope) && notSet iter && !scope.isCoroutine && decide (scope.names.lookup (".0" : Str) = some NameKind.local) then (gkOf x).bind fun gk => (trI π n (g + 1) N sc tg iter).bind fun q => (trG N scope n tg).bind fun t => (trTs π n g N scope ifs).bind fun is => (trE π n g N scope elt).bind fun A =>
            if subB t (ownOf N scope) then some (E.gen gk ((ownOf N scope).map (·.2)) A t q.1 q.2 is) else none else none)
      | [.GeneratorExp elt [⟨tg, iter, ifs, 0⟩, ⟨tg1, iter1, ifs1, 0⟩] scope _], [] => (match (generalizing := false) g with
        | 0 => none
        | g + 1 =>
          if x == ("tuple" : Str) && blkC N sc scope (ownOf N scope) && notSet iter && notSet iter1 && !scope.isCoroutine && decide (scope.names.lookup (".0" : Str) = some NameKind.local) then (trI π n (g + 1) N sc tg iter).bind fun q => (trG N scope n tg).bind fun t => (trTs π n g N scope ifs).bind fun is => (trI π n g N scope tg1 iter1).bind fun q1 => (trG N scope n tg1).bind fun t1 =>
            (trTs π n g N scope ifs1).bind fun is1 => (trE π n g N scope elt).bind fun A => if subB t (ownOf N scope) && subB t1 (ownOf N scope) then some (E.gen2 ((ownOf N scope).map (·.2)) A t q.1 q.2 is t1.slots t1 q1.1 q1.2 is1) else none else none)
      | [.Call (.Name r p) as [] q], [] => if x == ("list" : Str) && r == ("range" : Str) && isGl sc r && (π.F.lookup r).isNone then (match (generalizing := false) as with
          | [a] => (trEs π n g N sc [a]).map fun l => E.rl true l
          | [a, b] => (trEs π n g N sc [a, b]).map fun l => E.rl true l
          | _ => none)
        else if x == ("tuple" : Str) && r == ("range" : Str) && isGl sc r && (π.F.lookup r).isNone then (match (generalizing := false) as with
          | [a] => (trEs π n g N sc [a]).map fun l => E.rl false l
          | [a, b] => (trEs π n g N sc [a, b]).map fun l => E.rl false l
          | _ => none)
        else (biOf x).bind fun b => (trEs π n g N sc [.Call (.Name r p) as [] q]).map fun l => E.bi b l
      | e :: es, [] => (biOf x).bind fun b => (trEs π n g N sc (e :: es)).map fun l => E.bi b l
      | _, _ => none)) = some A := h
  split at h
  · rename_i i ps kss hF
    obtain ⟨f, fd, hm, hk, F, _, hb, hkb⟩ := C.fns x i ps kss hF
    split at h
    · rename_i e es
      split at h <;> try contradiction
      rename_i hl
      obtain ⟨l, e1, rfl⟩ := Option.map_eq_some_iff.mp h
      have al := S.es C e1
      have hst := al.star
      rw [List.all_cons, Bool.and_eq_true] at hst
      exact s_call (w := W i) F (room_lv C) hg hm hk hb al.pa hdb (star_cons hst.1) (star_any hst.2) (by simpa using hl) fun ρ M ds M' hh => by rw [evEs_len hh, ← al.len]
    · split at h <;> try contradiction
      rename_i hc
      rw [Bool.and_eq_true] at hc
      obtain ⟨l, e1, rfl⟩ := Option.map_eq_some_iff.mp h
      obtain ⟨h1, h2, h3⟩ := kws_names (X := X) kws pos hc.1
      exact s_callk (w := W i) F (room_lv C) hg hm hk (hkb _ (by simpa using hc.2)) (S.ks C e1) h1 h2 hdb (by rw [h3]; rfl)
    · cases h
  · split at h
    · rename_i a t p2
      split at h
      · rename_i hx
        obtain rfl := beq_iff_eq.mp hx
        split at h <;> try contradiction
        rename_i hc
        simp only [Bool.and_eq_true] at hc
        obtain ⟨b, e1, h⟩ := Option.bind_eq_some_iff.mp h
        obtain ⟨A', e2, rfl⟩ := Option.map_eq_some_iff.mp h
        obtain ⟨T, hT, hN⟩ := ty_bltn e1 C (gl_ok C hc.1.1) (C.blt _ (by simp [bltN]))
        have st2 := star_cons (env := X.env) (e := .Name t p2) (es := []) rfl
        exact s_isi hT (S.e C e2) (hN p2) hg (C.blt _ (by simp [bltN])) (by rw [star_cons hc.2, st2]; rfl) st2 rfl
      · obtain ⟨b, e1, h⟩ := Option.bind_eq_some_iff.mp h
        obtain ⟨l, e2, rfl⟩ := Option.map_eq_some_iff.mp h
        exact bi_ok e1 C hg (S.es C e2)
    · rename_i elt tg iter ifs scope gp
      split at h <;> try contradiction
      rename_i g
      split at h <;> try contradiction
      rename_i hc
      simp only [Bool.and_eq_true, decide_eq_true_eq] at hc
      obtain ⟨⟨⟨hc1, hc2⟩, hc3⟩, hc4⟩ := hc
      obtain ⟨gk, e1, h⟩ := Option.bind_eq_some_iff.mp h
      obtain ⟨q, e2, h⟩ := Option.bind_eq_some_iff.mp h
      obtain ⟨t, e3, h⟩ := Option.bind_eq_some_iff.mp h
      obtain ⟨is, e4, h⟩ := Option.bind_eq_some_iff.mp h
      obtain ⟨A', e5, h⟩ := Option.bind_eq_some_iff.mp h
      split at h <;> try contradiction
      rename_i hsub
      cases h
      obtain rfl := gk_name e1
      have hb : BlkOk X.N X.env.scope scope (ownOf N scope) := by rw [C.hN, C.hsc]; exact blkOk_by hc1
      exact s_gen hg (C.blt _ (by cases gk <;> simp [bltN, GKn])) (star_cons (es := []) rfl) rfl (by rw [C.hN]; exact C.nd) C.room C.bm ⟨hb, by simpa using hc3, hc4⟩ C.calm (S.i C e2) (gen_fold hc2) (own_sub hsub)
        fun H Xg hX => ⟨(trG_ok n).1 (C.gen hX) (tg_gen hX) e3, S.ts (C.gen hX) e4, S.e (C.gen hX) e5⟩
    · rename_i elt tg iter ifs tg1 iter1 ifs1 scope gp
      split at h <;> try contradiction
      rename_i g
      split at h <;> try contradiction
      rename_i hc
      simp only [Bool.and_eq_true, decide_eq_true_eq] at hc
      obtain ⟨⟨⟨⟨⟨hc0, hc1⟩, hc2⟩, hc5⟩, hc3⟩, hc4⟩ := hc
      obtain rfl := beq_iff_eq.mp hc0
      obtain ⟨q, e2, h⟩ := Option.bind_eq_some_iff.mp h
      obtain ⟨t, e3, h⟩ := Option.bind_eq_some_iff.mp h
      obtain ⟨is, e4, h⟩ := Option.bind_eq_some_iff.mp h
      obtain ⟨q1, e6, h⟩ := Option.bind_eq_some_iff.mp h
      obtain ⟨t1, e7, h⟩ := Option.bind_eq_some_iff.mp h
      obtain ⟨is1, e8, h⟩ := Option.bind_eq_some_iff.mp h
      obtain ⟨A', e5, h⟩ := Option.bind_eq_some_iff.mp h
      split at h <;> try contradiction
      rename_i hsub
      rw [Bool.and_eq_true] at hsub
      cases h
      have hb : BlkOk X.N X.env.scope scope (ownOf N scope) := by rw [C.hN, C.hsc]; exact blkOk_by hc1
      exact s_gen2 hg (C.blt _ (by simp [bltN])) (star_cons (es := []) rfl) rfl (by rw [C.hN]; exact C.nd) C.room C.bm ⟨hb, by simpa using hc3, hc4⟩ C.calm (S.i C e2) (gen_fold hc2) (fun env => set_fold hc5) (own_sub hsub.1) (own_sub hsub.2)
        fun H Xg hX => ⟨(trG_ok n).1 (C.gen (gk := .tuple) hX) (tg_gen hX) e3, S.ts (C.gen (gk := .tuple) hX) e4, S.i (C.gen (gk := .tuple) hX) e6, (trG_ok n).1 (C.gen (gk := .tuple) hX) (tg_gen hX) e7, S.ts (C.gen (gk := .tuple) hX) e8, S.e (C.gen (gk := .tuple) hX) e5⟩
    · rename_i r p2 as cp
      split at h
      · rename_i hc
        simp only [Bool.and_eq_true] at hc
        obtain ⟨⟨⟨h1, h2⟩, h3⟩, _⟩ := hc
        obtain rfl := beq_iff_eq.mp h1
        obtain rfl := beq_iff_eq.mp h2
        have hgr := gl_ok C h3
        have hmr : X.mg "range" = none := C.blt _ (by simp [bltN])
        split at h <;> try contradiction
        · obtain ⟨l, e1, rfl⟩ := Option.map_eq_some_iff.mp h
          have al := S.es C e1
          have hl := al.len
          match l, hl, al with
          | [A1], _, al =>
            exact s_rl1 C.calm hg (C.blt _ (by simp [bltN])) hgr hmr al.2.1 (star_cons (es := []) al.1)
        · obtain ⟨l, e1, rfl⟩ := Option.map_eq_some_iff.mp h
          have al := S.es C e1
          have hl := al.len
          match l, hl, al with
          | [A1, B1], _, al =>
            have nb := star_cons (env := X.env) (es := []) al.2.2.1
            exact s_rl2 C.calm hg (C.blt _ (by simp [bltN])) hgr hmr al.2.1 al.2.2.2.1 (star_cons al.1) nb (by rw [nb]; rfl)
      · split at h
        · rename_i hc
          simp only [Bool.and_eq_true] at hc
          obtain ⟨⟨⟨h1, h2⟩, h3⟩, _⟩ := hc
          obtain rfl := beq_iff_eq.mp h1
          obtain rfl := beq_iff_eq.mp h2
          have hgr := gl_ok C h3
          have hmr : X.mg "range" = none := C.blt _ (by simp [bltN])
          split at h <;> try contradiction
          · obtain ⟨l, e1, rfl⟩ := Option.map_eq_some_iff.mp h
            have al := S.es C e1
            have hl := al.len
            match l, hl, al with
            | [A1], _, al =>
              exact s_rt1 C.calm hg (C.blt _ (by simp [bltN])) hgr hmr al.2.1 (star_cons (es := []) al.1)
          · obtain ⟨l, e1, rfl⟩ := Option.map_eq_some_iff.mp h
            have al := S.es C e1
            have hl := al.len
            match l, hl, al with
            | [A1, B1], _, al =>
              have nb := star_cons (env := X.env) (es := []) al.2.2.1
              exact s_rt2 C.calm hg (C.blt _ (by simp [bltN])) hgr hmr al.2.1 al.2.2.2.1 (star_cons al.1) nb (by rw [nb]; rfl)
        · obtain ⟨b, e1, h⟩ := Option.bind_eq_some_iff.mp h
          obtain ⟨l, e2, rfl⟩ := Option.map_eq_some_iff.mp h
          exact bi_ok e1 C hg (S.es C e2)
    · obtain ⟨b, e1, h⟩ := Option.bind_eq_some_iff.mp h
      obtain ⟨l, e2, rfl⟩ := Option.map_eq_some_iff.mp h
      exact bi_ok e1 C hg (S.es C e2)
    · cases h
end
end IX
end

section
set_option Elab.async false
set_option autoImplicit false
set_option linter.all false
set_option maxRecDepth 100000
set_option maxHeartbeats 4000000
/-! The translation is sound: expressions, all together. -/
namespace IX
open PySem PySem.Spec PyProof.Rows L2 GX
section
variable {π : Pg} {W : Wd} {lv g : Nat} {N : List Str} {sc scope : Scope} {X : Cx} {n : Nat}
theorem isM1_ok {e : Expr} (h : isM1 e = true) : ∃ k p1 p2, e = .UnaryOp .USub (.Constant (.int 1) k p1) p2 := by
  unfold isM1 at h
  split at h
  · rename_i i k p1 p2
    have : i = 1 := eq_of_beq h
    subst this
    exact ⟨_, _, _, rfl⟩
  · cases h
theorem ev_rv {V : Wd} {G : Str → Option P} {A : E} : evE V G (.bi .rv [A]) = (fun ρ M => do
    let (x, M) ← evE V G A ρ M
    bfun .rv [x] M) := by
  funext ρ M
  show (((evE V G A ρ M).bind fun p => ((some ([], p.2) : Option (List D × Mem)).bind fun q => some (p.1 :: q.1, q.2))).bind fun q => bfun .rv q.1 q.2) = _
  cases evE V G A ρ M <;> rfl
theorem snd_e (S : Snd π W lv n) {e : Expr} {A : E} (C : CtxOk π W lv g N sc X) (h : trE π (n + 1) g N sc e = some A) : PE X e (tI X (evE W (Gf π) A)) := by
  cases e with
  | Constant c j pos =>
    obtain ⟨x, e1, rfl⟩ := Option.map_eq_some_iff.mp (show (cstP c).map E.c = some A from h)
    cases c <;> cases e1
    · exact s_const (x := .non) pe_non fun H α => by unfold RP; rfl
    · exact s_const (x := .bl _) pe_bl fun H α => by unfold RP; rfl
    · exact s_const (x := .int _) pe_int fun H α => by unfold RP; rfl
    · exact s_const (x := .str _) pe_str fun H α => by unfold RP; rfl
  | Name x pos =>
    replace h : (if okName x then (if isVis sc x then (slotOf N x).map E.v else if isGl sc x then (π.G.lookup x).map fun _ => E.g x else none) else none) = some A := h
    split at h <;> try contradiction
    rename_i hok
    split at h
    · rename_i hv
      obtain ⟨i, e1, rfl⟩ := Option.map_eq_some_iff.mp h
      exact s_var (by rw [C.hN]; exact findIdx_get e1) (by rw [C.hsc]; exact vis_ok hv) (okn_ok hok).1 (okn_ok hok).2
    · split at h <;> try contradiction
      rename_i hg
      obtain ⟨p, e1, rfl⟩ := Option.map_eq_some_iff.mp h
      obtain ⟨u, v, hm, rv, rp⟩ := C.con x p e1
      refine (pe_glob (v := v) (gl_ok C hg) hm rv (okn_ok hok).1).weak fun σ H Q hq => ?_
      obtain ⟨ρ, M, α, d, M', r, e, q⟩ := hq
      have e : (π.G.lookup x).map (fun y => (D.p y, M)) = some (d, M') := e
      rw [e1] at e
      cases e
      exact q v H α (Nx.refl r.mem r.tab) (rp H α)
  | BinOp a o b pos =>
    obtain ⟨bo, e1, h⟩ := Option.bind_eq_some_iff.mp (show ((opB o).bind fun o => (trE π n g N sc a).bind fun A => (trE π n g N sc b).map fun B => E.bin o A B) = some A from h)
    obtain ⟨A1, e2, h⟩ := Option.bind_eq_some_iff.mp h
    obtain ⟨B1, e3, rfl⟩ := Option.map_eq_some_iff.mp h
    obtain ⟨r, h1, h2⟩ := s_ops e1
    exact s_bin (S.e C e2) (S.e C e3) (h1 X) (h2 X)
  | UnaryOp op a pos =>
    cases op with
    | USub =>
      obtain ⟨B, e1, rfl⟩ := Option.map_eq_some_iff.mp (show (trE π n g N sc a).map E.neg = some A from h)
      exact s_neg (S.e C e1)
    | Not =>
      obtain ⟨B, e1, rfl⟩ := Option.map_eq_some_iff.mp (show (trE π n g N sc a).map E.not = some A from h)
      exact s_notv (S.e C e1)
    | _ => cases h
  | BoolOp op es pos =>
    cases es with
    | nil => cases op <;> cases h
    | cons e es =>
      cases op with
      | And =>
        obtain ⟨l, e1, rfl⟩ := Option.map_eq_some_iff.mp (show (trEs π n g N sc (e :: es)).map E.and = some A from h)
        have := S.es C e1
        cases l with
        | nil => exact this.elim
        | cons B l => exact AllE.and this
      | Or =>
        obtain ⟨l, e1, rfl⟩ := Option.map_eq_some_iff.mp (show (trEs π n g N sc (e :: es)).map E.or = some A from h)
        have := S.es C e1
        cases l with
        | nil => exact this.elim
        | cons B l => exact AllE.or this
  | Compare a ops bs pos =>
    match ops, bs, h with
    | [o], [b], h =>
      have h : (if behindInMarks (coOp (opC o)) b then none else (trE π n g N sc a).bind fun A => (trE π n g N sc b).map fun B => E.cmp (opC o) A B) = some A := h
      split at h <;> try contradiction
      rename_i hb
      obtain ⟨A1, e1, h⟩ := Option.bind_eq_some_iff.mp h
      obtain ⟨B1, e2, rfl⟩ := Option.map_eq_some_iff.mp h
      have := s_cmp (pos := pos) (o := opC o) C.units (S.e C e1) (S.e C e2) (by simpa using hb)
      rw [opc_ok] at this
      exact this
    | [o, o'], [b, c], h =>
      have h : (if lastMarks [coOp (opC o), coOp (opC o')] [b, c] then none else (trE π n g N sc a).bind fun A => (trE π n g N sc b).bind fun B => (trE π n g N sc c).map fun C => E.cmp2 (opC o) (opC o') A B C) = some A := h
      split at h <;> try contradiction
      rename_i hb
      obtain ⟨A1, e1, h⟩ := Option.bind_eq_some_iff.mp h
      obtain ⟨B1, e2, h⟩ := Option.bind_eq_some_iff.mp h
      obtain ⟨C1, e3, rfl⟩ := Option.map_eq_some_iff.mp h
      have := s_cmp2 (pos := pos) (o := opC o) (o' := opC o') C.units (S.e C e1) (S.e C e2) (S.e C e3) (by simpa using hb)
      rw [opc_ok, opc_ok] at this
      exact this
    | [], _, h => cases h
    | [_], [], h => cases h
    | [_], _ :: _ :: _, h => cases h
    | [_, _], [], h => cases h
    | [_, _], [_], h => cases h
    | [_, _], _ :: _ :: _ :: _, h => cases h
    | _ :: _ :: _ :: _, _, h => cases h
  | IfExp c a b pos =>
    obtain ⟨C1, e1, h⟩ := Option.bind_eq_some_iff.mp (show ((trT π n g N sc c).bind fun C => (trE π n g N sc a).bind fun A => (trE π n g N sc b).map fun B => E.ife C A B) = some A from h)
    obtain ⟨A1, e2, h⟩ := Option.bind_eq_some_iff.mp h
    obtain ⟨B1, e3, rfl⟩ := Option.map_eq_some_iff.mp h
    exact s_ife (S.t C e1) (S.e C e2) (S.e C e3)
  | Tuple es k pos =>
    obtain ⟨l, e1, rfl⟩ := Option.map_eq_some_iff.mp (show (trEs π n g N sc es).map E.tup = some A from h)
    exact s_tup (S.es C e1).pa
  | List es pos =>
    obtain ⟨l, e1, rfl⟩ := Option.map_eq_some_iff.mp (show (trEs π n g N sc es).map E.lst = some A from h)
    exact s_lst (S.es C e1).pa
  | Subscript a b pos =>
    have idx : ∀ b : Expr, (if notSlice b then (match twoKeys a with
      | some q => if q.1 = q.2.1 then none else (trE π n g N sc q.2.2.1).bind fun A => (trE π n g N sc q.2.2.2).bind fun B => (trE π n g N sc b).map fun I => E.dsub q.1 q.2.1 A B I
      | none => (trE π n g N sc a).bind fun A => (trE π n g N sc b).map fun B => E.idx A B) else none) = some A → PE X (.Subscript a b pos) (tI X (evE W (Gf π) A)) := fun b h => by
      split at h <;> try contradiction
      rename_i hs
      cases hk : twoKeys a with
      | none =>
        rw [hk] at h
        obtain ⟨A1, e1, h⟩ := Option.bind_eq_some_iff.mp h
        obtain ⟨B1, e2, rfl⟩ := Option.map_eq_some_iff.mp h
        exact s_idx (S.e C e1) (S.e C e2) (plain_ix hs)
      | some q =>
        rw [hk] at h
        obtain ⟨ka, kb, x, y⟩ := q
        dsimp only at h
        split at h <;> try contradiction
        rename_i hab
        obtain ⟨A1, e1, h⟩ := Option.bind_eq_some_iff.mp h
        obtain ⟨B1, e2, h⟩ := Option.bind_eq_some_iff.mp h
        obtain ⟨I1, e3, rfl⟩ := Option.map_eq_some_iff.mp h
        obtain ⟨j1, p1, j2, p2, dp, rfl⟩ := twoKeys_ok hk
        exact s_dsub (by have := C.units; omega) hab pe_int pe_int (S.e C e1) (S.e C e2) (S.e C e3) (nosl_ix hs)
    cases b with
    | Slice lo hi st p2 =>
      cases st with
      | none =>
        obtain ⟨A1, e1, h⟩ := Option.bind_eq_some_iff.mp (show ((trE π n g N sc a).bind fun A => (trO π n g N sc lo).bind fun L => (trO π n g N sc hi).map fun H => E.slc A L H) = some A from h)
        obtain ⟨L1, e2, h⟩ := Option.bind_eq_some_iff.mp h
        obtain ⟨H1, e3, rfl⟩ := Option.map_eq_some_iff.mp h
        exact s_slc (S.e C e1) (S.o C e2) (S.o C e3)
      | some st =>
        replace h : (if lo.isNone && hi.isNone && isM1 st then (trE π n g N sc a).map (fun A => E.bi .rv [A]) else none) = some A := h
        split at h <;> try contradiction
        rename_i h1
        rw [Bool.and_eq_true, Bool.and_eq_true] at h1
        obtain ⟨⟨h2, h3⟩, h1⟩ := h1
        obtain ⟨A1, e1, rfl⟩ := Option.map_eq_some_iff.mp h
        obtain ⟨k, q1, q2, rfl⟩ := isM1_ok h1
        cases lo with
        | some _ => cases h2
        | none =>
          cases hi with
          | some _ => cases h3
          | none =>
            rw [ev_rv]
            exact s_rev (S.e C e1)
    | _ => exact idx _ h
  | Call f args kws pos =>
    cases f with
    | Name x p =>
      replace h : (if isGl sc x && okName x then trC π n g N sc x args kws else none) = some A := h
      split at h <;> try contradiction
      rename_i hc
      rw [Bool.and_eq_true] at hc
      exact S.c C hc.1 hc.2 h
    | Attribute o x apos =>
      match kws, h with
      | [], h =>
        replace h : (if apos.endLine == pos.line && okBase o then (mtOf x args.length).bind fun m => if okM m args.length && mtNm m == x then (trE π n g N sc o).bind fun O => (trEs π n g N sc args).map fun l => E.mt m O l else none else none) = some A := h
        split at h <;> try contradiction
        rename_i hc
        rw [Bool.and_eq_true] at hc
        obtain ⟨m, e0, h⟩ := Option.bind_eq_some_iff.mp h
        split at h <;> try contradiction
        rename_i hm
        rw [Bool.and_eq_true] at hm
        obtain ⟨O1, e1, h⟩ := Option.bind_eq_some_iff.mp h
        obtain ⟨l, e2, rfl⟩ := Option.map_eq_some_iff.mp h
        have hx := beq_iff_eq.mp hm.2
        subst hx
        have hb : attributeBase o (mtNm m) X.env (eval o X.env) = eval o X.env := by
          cases o <;> first | rfl | cases hc.2
        have al := S.es C e2
        match args, hm, al with
        | [], hm, al =>
          match l, al with
          | [], _ => exact s_mt0 hm.1 (S.e C e1) hb hc.1
        | [a], hm, al =>
          have st := star_cons (env := X.env) (es := []) (show notStar a = true by have := al.star; simpa using this)
          exact s_mt C.units hm.1 (S.e C e1) al.pa hb (by rw [st]; rfl) hc.1 st rfl
        | [a, a2], hm, al =>
          have hst := al.star
          simp only [List.all_cons, List.all_nil, Bool.and_true, Bool.and_eq_true] at hst
          have st2 := star_cons (env := X.env) (es := []) hst.2
          have st := star_cons (env := X.env) (es := [a2]) hst.1
          exact s_mt C.units hm.1 (S.e C e1) al.pa hb (by rw [st, st2]; rfl) hc.1 st (by rw [st2]; rfl)
        | _ :: _ :: _ :: _, hm, _ => exact absurd hm.1 (by cases m <;> simp [okM])
      | _ :: _, h => cases h
    | _ => cases h
  | ListComp elt gens scope pos =>
    match gens, h with
    | [⟨tg, iter, ifs, 0⟩], h =>
      replace h : (if blkC N sc scope (ownOf N scope) && notSet iter then (trI π n g N sc tg iter).bind fun q => (trG N scope n tg).bind fun t => (trTs π n g N (relS scope sc) ifs).bind fun is => (trE π n g N (relS scope sc) elt).bind fun A => if subB t (ownOf N scope) then some (E.lc ((ownOf N scope).map (·.2)) A t q.1 q.2 is) else none else none) = some A := h
      split at h <;> try contradiction
      rename_i hc
      rw [Bool.and_eq_true] at hc
      obtain ⟨q, e2, h⟩ := Option.bind_eq_some_iff.mp h
      obtain ⟨t, e3, h⟩ := Option.bind_eq_some_iff.mp h
      obtain ⟨is, e4, h⟩ := Option.bind_eq_some_iff.mp h
      obtain ⟨A', e5, h⟩ := Option.bind_eq_some_iff.mp h
      split at h <;> try contradiction
      rename_i hsub
      cases h
      have hb : BlkOk X.N X.env.scope scope (ownOf N scope) := by rw [C.hN, C.hsc]; exact blkOk_by hc.1
      exact s_lc C.calm (by rw [C.hN]; exact C.nd) (S.i C e2) hb (fun s H c cl fp => (trG_ok n).1 (C.blk s H c cl fp) (tg_blk s H c cl fp) e3) (fun s H c cl fp => S.ts (C.blk s H c cl fp) e4) (fun s H c cl fp => S.e (C.blk s H c cl fp) e5) (set_fold hc.2) (own_sub hsub)
    | [⟨tg, iter, ifs, 0⟩, ⟨tg1, iter1, ifs1, 0⟩], h =>
      replace h : (if blkC N sc scope (ownOf N scope) && notSet iter && notSet iter1 then (trI π n g N sc tg iter).bind fun q => (trG N scope n tg).bind fun t => (trTs π n g N (relS scope sc) ifs).bind fun is => (trI π n g N (relS scope sc) tg1 iter1).bind fun q1 => (trG N scope n tg1).bind fun t1 =>
        (trTs π n g N (relS scope sc) ifs1).bind fun is1 => (trE π n g N (relS scope sc) elt).bind fun A => if subB t (ownOf N scope) && subB t1 (ownOf N scope) then some (E.lc2 ((ownOf N scope).map (·.2)) A t q.1 q.2 is t1.slots t1 q1.1 q1.2 is1) else none else none) = some A := h
      split at h <;> try contradiction
      rename_i hc
      simp only [Bool.and_eq_true] at hc
      obtain ⟨q, e2, h⟩ := Option.bind_eq_some_iff.mp h
      obtain ⟨t, e3, h⟩ := Option.bind_eq_some_iff.mp h
      obtain ⟨is, e4, h⟩ := Option.bind_eq_some_iff.mp h
      obtain ⟨q1, e6, h⟩ := Option.bind_eq_some_iff.mp h
      obtain ⟨t1, e7, h⟩ := Option.bind_eq_some_iff.mp h
      obtain ⟨is1, e8, h⟩ := Option.bind_eq_some_iff.mp h
      obtain ⟨A', e5, h⟩ := Option.bind_eq_some_iff.mp h
      split at h <;> try contradiction
      rename_i hsub
      rw [Bool.and_eq_true] at hsub
      cases h
      have hb : BlkOk X.N X.env.scope scope (ownOf N scope) := by rw [C.hN, C.hsc]; exact blkOk_by hc.1.1
      exact s_lc2 C.calm (by rw [C.hN]; exact C.nd) (S.i C e2) hb (own_sub hsub.2) (fun s H c cl fp => (trG_ok n).1 (C.blk s H c cl fp) (tg_blk s H c cl fp) e3) (fun s H c cl fp => S.ts (C.blk s H c cl fp) e4) (fun s H c cl fp => S.i (C.blk s H c cl fp) e6)
        (fun s H c cl fp => (trG_ok n).1 (C.blk s H c cl fp) (tg_blk s H c cl fp) e7) (fun s H c cl fp => S.ts (C.blk s H c cl fp) e8) (fun s H c cl fp => S.e (C.blk s H c cl fp) e5) (set_fold hc.1.2) (fun env => set_fold hc.2) (own_sub hsub.1) fun i hi => hi
    | [], h => cases h
    | [⟨_, _, _, .ofNat (k + 1)⟩], h => cases h
    | [⟨_, _, _, .negSucc k⟩], h => cases h
    | [⟨_, _, _, 0⟩, ⟨_, _, _, .ofNat (k + 1)⟩], h => cases h
    | [⟨_, _, _, 0⟩, ⟨_, _, _, .negSucc k⟩], h => cases h
    | [⟨_, _, _, .ofNat (k + 1)⟩, _], h => cases h
    | [⟨_, _, _, .negSucc k⟩, _], h => cases h
    | ⟨_, _, _, 0⟩ :: ⟨_, _, _, 0⟩ :: _ :: _, h => cases h
    | ⟨_, _, _, 0⟩ :: ⟨_, _, _, .ofNat (k + 1)⟩ :: _ :: _, h => cases h
    | ⟨_, _, _, 0⟩ :: ⟨_, _, _, .negSucc k⟩ :: _ :: _, h => cases h
    | ⟨_, _, _, .ofNat (k + 1)⟩ :: _ :: _ :: _, h => cases h
    | ⟨_, _, _, .negSucc k⟩ :: _ :: _ :: _, h => cases h
  | _ => cases h
theorem snd : ∀ n, Snd π W lv n
  | 0 => ⟨fun _ h => (by cases h), fun _ _ _ h => (by cases h), fun _ h => (by cases h), fun _ h => (by cases h), fun _ h => (by cases h), fun _ h => (by cases h), fun _ h => (by cases h), fun _ h => (by cases h), fun _ h => (by cases h)⟩
  | n + 1 => let S := snd n; ⟨snd_e S, snd_c S, snd_t S, snd_es S, snd_ks S, snd_tl S, snd_ts S, snd_o S, snd_i S⟩
end
end IX
end

section
set_option Elab.async false
set_option autoImplicit false
set_option linter.all false
set_option maxRecDepth 100000
set_option maxHeartbeats 4000000
/-! The translation is sound: statements. -/
namespace IX
open PySem PySem.Spec PyProof.Rows L2 GX
section
variable {π : Pg} {W : Wd} {lv g : Nat} {N : List Str} {sc scope : Scope} {X : Cx} {n : Nat} {env : PySem.Env}
theorem sw_no {e : Expr} {t : Option Expr} {l : Nat} (h : notComp e = true) : swapsWith e t l env = pure false := by
  cases e <;> first | rfl | cases h
theorem sw_sole {e t : Expr} {l : Nat} (h : notComp e = true) : swapsWithSole [t] e l env = pure false := sw_no h
theorem blt_kind (h : env.scope.kind = .function) : env.blockKind = .function := by
  unfold PySem.Env.blockKind
  rw [h]; rfl
def swLc (env : PySem.Env) (t : Str) (p q : Pos) (s : Scope) : Bool := env.blockKind == .function && env.kindOf t == some .local && p.line == q.line && !(s.names.any fun (n, k) => n == t && (k == .local || k == .cell))
theorem sw_lc {elt : Expr} {gens : List Comprehension} {s : Scope} {q p : Pos} {t : Str} {l : Nat} : swapsWith (.ListComp elt gens s q) (some (.Name t p)) l env = pure (swLc env t p q s) := rfl
theorem sw_loc {t : Str} {p q : Pos} {s : Scope} (h : swLc env t p q s = true) : env.scope.names.lookup t = some .local := by
  unfold swLc at h
  simp only [Bool.and_eq_true] at h
  exact beq_iff_eq.mp h.1.1.2
theorem loc_some {l : Nat} {x : Str} {p : Pos} (h : (locN sc l (.Name x p)).isSome = true) : sc.names.lookup x = some .local ∧ p.line = l := by
  have h : (if (match sc.names.lookup x with | some .local => true | _ => false) && p.line == l then some x else none).isSome = true := h
  split at h
  · rename_i hc
    refine ⟨hc, ?_⟩
    split at h
    · rename_i h2
      simpa using h2
    · cases h
  · cases h
theorem slot_ne {x y : Str} {i j : Nat} (h1 : slotOf N x = some i) (h2 : slotOf N y = some j) (hij : (i != j) = true) : x ≠ y := fun e => by
  subst e
  rw [h1] at h2
  cases h2
  simp at hij
theorem sw_two {x y : Str} {px py pt : Pos} {kt k2 : Nat} {pt2 : Pos} {a b : Expr} (hk : env.blockKind = .function) (hx : env.kindOf x = some .local) (hy : env.kindOf y = some .local) (hl : py.line = px.line) (hxy : x ≠ y)
    (ha : notStar a = true) (hb : notStar b = true) (hf : (foldedForSure 8 a && foldedForSure 8 b) = false) (hc : (constantsAlone 8 a && constantsAlone 8 b) = false) :
    swappedStores [.Tuple [.Name x px, .Name y py] kt pt] (.Tuple [a, b] k2 pt2) env = pure (some [x, y]) := by
  have hyx : (y == x) = false := by simpa using Ne.symm hxy
  have hxy' : (x == y) = false := by simpa using hxy
  have e1 : ((px.line : Nat) == px.line) = true := by simp
  unfold swappedStores
  simp only [List.length_cons, List.length_nil, hk, List.head?_cons, Option.map_some, Option.getD_some, List.filterMap_cons, List.filterMap_nil, hx, hy, hl, Expr.pos]
  refine (if_neg (by simp)).trans ((if_neg ?_).trans ?_)
  · simp only [List.any_cons, List.any_nil, Bool.or_false, Bool.or_eq_true, not_or]
    refine ⟨?_, ?_⟩
    · cases a <;> first | exact Bool.false_ne_true | cases ha
    · cases b <;> first | exact Bool.false_ne_true | cases hb
  · simp [List.eraseDups_cons, hyx]
    exact (if_neg (fun z => by rw [z.1, z.2] at hf; cases hf)).trans (if_neg (fun z => by rw [z.1, z.2] at hc; cases hc))
theorem sw_three {x y z : Str} {px py pz pt : Pos} {kt k2 : Nat} {pt2 : Pos} {a b c : Expr} (hk : env.blockKind = .function) (hx : env.kindOf x = some .local) (hy : env.kindOf y = some .local) (hz : env.kindOf z = some .local) (hl : py.line = px.line) (hl2 : pz.line = px.line) (hxy : x ≠ y) (hxz : x ≠ z) (hyz : y ≠ z)
    (ha : notStar a = true) (hb : notStar b = true) (hcs : notStar c = true) (hf : (foldedForSure 8 a && foldedForSure 8 b && foldedForSure 8 c) = false) (hc : (constantsAlone 8 a && constantsAlone 8 b && constantsAlone 8 c) = false) :
    swappedStores [.Tuple [.Name x px, .Name y py, .Name z pz] kt pt] (.Tuple [a, b, c] k2 pt2) env = pure (some [x, y, z]) := by
  have hyx : (y == x) = false := by simpa using Ne.symm hxy
  have hzx : (z == x) = false := by simpa using Ne.symm hxz
  have hzy : (z == y) = false := by simpa using Ne.symm hyz
  unfold swappedStores
  simp only [List.length_cons, List.length_nil, hk, List.head?_cons, Option.map_some, Option.getD_some, List.filterMap_cons, List.filterMap_nil, hx, hy, hz, hl, hl2, Expr.pos]
  refine (if_neg (by simp)).trans ((if_neg ?_).trans ?_)
  · simp only [List.any_cons, List.any_nil, Bool.or_false, Bool.or_eq_true, not_or]
    refine ⟨?_, ?_, ?_⟩
    · cases a <;> first | exact Bool.false_ne_true | cases ha
    · cases b <;> first | exact Bool.false_ne_true | cases hb
    · cases c <;> first | exact Bool.false_ne_true | cases hcs
  · simp [List.eraseDups_cons, hyx, hzx, hzy]
    exact (if_neg (fun z => by rw [z.1, z.2.1, z.2.2] at hf; cases hf)).trans (if_neg (fun z => by rw [z.1, z.2.1, z.2.2] at hc; cases hc))
end
/-! exceptions -/
section
variable {X : Cx} {Y : Ex}
theorem _root_.L2.PE.withLen {e : Expr} {t : TE} (h : PE X e t) : PE X e (fun σ H Q => σ.length = X.N.length → t σ H Q) := ⟨fun pins s σ H Q I q => h.run pins s σ H Q I (q I.len)⟩
theorem _root_.L2.PSs.withLen {e : List Stmt} {t : TS} (h : PSs X e t) : PSs X e (fun D σ H => σ.length = X.N.length → t D σ H) := ⟨fun pins s σ H D I q => h.run pins s σ H D I (q I.len)⟩
/-- X() -/
theorem pmk_own0 {C : Addr} {bmB : List Value} {B newId initId : String} {x : Str} {p pos : Pos} (F : ExcBaseFacts B newId initId bmB) (q : PySem.W.excIn X.K C bmB newId = true) (gC : X.mg x = some (.ref C)) (kC : PySem.W.keepIn X.K (.ref C) = true) (r : Raises X (.ref C)) (hg : Gl X x)
    (hdb : (x == ("__debug__" : Str)) = false) : PMk X (.Call (.Name x p) [] [] pos) (fun _ H Q => Q (.ref C) none H) := by
  intro pins s σ H Q I h
  refine wpAny_Call_Name_kw (ld_glob I hg gC ?_ hdb)
  refine PySem.W.callWith_K0 I.kIn kC ?_
  obtain ⟨bm, N, nm, qn, bs, hdct, sn, sub, ab, col, dd, k0, k1, k2, k3, k5, mN, hC, hN, hni, T⟩ := exc_obj I.kIn q
  refine wpAny_call_exc_subT F T hC hN hni (fun h' e hm => ?_) (Nat.zero_le _)
  exact mk_of I hm r h (I.hok.gone hm.new)
theorem ExcK.raises {K : PySem.W.Frag} {mg : Str → Option Value} {c : Str} {fl : List Str} {C : Addr} (h : ExcK K mg c fl C) (hK : X.K = K) : Raises X (.ref C) := by
  subst hK; exact raises_own h.sb h.ty
theorem s_raise0 {c : Str} {C : Addr} {p pos pos' : Pos} {W : Wd} {G : Str → Option P} {L : Nat} (hc : X.calm = true) (tk : Takes X Y.out) (h : ExcK X.K X.mg c [] C) (hL : Y.L.lookup c = some []) (hg : Gl X c) (hdb : (c == ("__debug__" : Str)) = false) :
    PS X (.Raise (some (.Call (.Name c p) [] [] pos)) none pos') (tS X Y (evS W G L (.raise c []))) :=
  (ps_raise hc tk (pmk_own0 F.excBase_ValueError (h.own rfl) h.g h.kp (h.raises rfl) hg hdb)).weak fun D σ H hh => by
    obtain ⟨ρ, M, α, o, r, e, q⟩ := hh
    cases e
    exact q (.ref C) none σ H α (Nx.refl r.mem r.tab) ⟨C, [], hL, h.g, rfl, rfl, fun z => absurd rfl z⟩
theorem s_raiseF {c : Str} {fl : List Str} {es : List Expr} {l : List E} {p pos pos' : Pos} {W : Wd} {G : Str → Option P} {L : Nat} (hc : X.calm = true) (tk : Takes X Y.out) (hL : Y.L.lookup c = some fl)
    (mk : PMk X (.Call (.Name c p) es [] pos) (fun σ H Q => ∃ ρ M α ds M' xs, RS X σ H ρ M α ∧ evEs W G l ρ M = some (ds, M') ∧ datas ds = some xs ∧ xs.length = fl.length ∧ smallPs xs = true ∧ ∀ cls d H' α', Nx X.K α H α' H' M' → XR [(c, fl)] X.mg X.K H' α' c xs cls d → Q cls d H'))
    (hlen : ∀ ρ M ds M', evEs W G l ρ M = some (ds, M') → ds.length = fl.length) :
    PS X (.Raise (some (.Call (.Name c p) es [] pos)) none pos') (tS X Y (evS W G L (.raise c l))) :=
  (ps_raise hc tk mk).weak fun D σ H hh => by
    obtain ⟨ρ, M, α, o, r, e, q⟩ := hh
    obtain ⟨⟨ds, M1⟩, e1, e⟩ := ob (show (do
      let (ds, M) ← evEs W G l ρ M
      let xs ← datas ds
      if smallPs xs = true then some (Out.xc c xs M) else none) = some o from e)
    obtain ⟨xs, e2, e⟩ := ob e
    split at e
    case isFalse => cases e
    rename_i hsm
    cases e
    have hx : ∀ (ds : List IX.D) (xs : List P), datas ds = some xs → xs.length = ds.length := by
      intro ds
      induction ds with
      | nil => intro xs h; cases h; rfl
      | cons d ds ih =>
        intro xs h
        cases d with
        | scr _ => cases h
        | p x =>
          obtain ⟨ys, e3, h⟩ := ob (show (do
            let ys ← datas ds
            some (x :: ys)) = some xs from h)
          cases h
          rw [List.length_cons, List.length_cons, ih ys e3]
    refine ⟨ρ, M, α, ds, M1, xs, r, e1, e2, by rw [hx ds xs e2]; exact hlen _ _ _ _ e1, hsm, fun cls d H' α' n rx => q cls d σ H' α' n ?_⟩
    obtain ⟨C, fl', h1, h2, h3, h4, h5⟩ := rx
    have hf : fl' = fl := by
      simp [List.lookup] at h1
      exact h1.symm
    subst hf
    exact ⟨C, fl', hL, h2, h3, h4, h5⟩
/-! an except suite -/
def aOk (i : Option Nat) (a : Addr) (σ : L2.St) : Prop := ∀ j, i = some j → σ[j]? = some (some (V.ref a))
def tHq (X : Cx) (L : List (Str × List Str)) (c : Str) (a : Addr) (cls : Value) (d : Option Addr) (i : Option Nat) (h : HQ) : TE := fun σ H Q => ∃ α xs x, XR L X.mg X.K H α c xs cls d ∧ aOk i a σ ∧ h.ev xs = some x ∧ ∀ v, RP X.K H α x v → Q v H
def tHqs (X : Cx) (L : List (Str × List Str)) (c : Str) (a : Addr) (cls : Value) (d : Option Addr) (i : Option Nat) (l : List HQ) : TA := fun σ H Q => ∃ α xs ys, XR L X.mg X.K H α c xs cls d ∧ aOk i a σ ∧ HQ.evs xs l = some ys ∧ ∀ vs, RPs X.K H α ys vs → Q vs H
def tHr (X : Cx) (L : List (Str × List Str)) (c : Str) (i : Option Nat) (h : HR) (a : Addr) (cls : Value) (d : Option Addr) : TS := fun D σ H => σ.length = X.N.length → ∃ α M xs r, RM X.K H α M ∧ TabAll H ∧ XR L X.mg X.K H α c xs cls d ∧ aOk i a σ ∧ h.ev xs = some r ∧ ∀ v H' α', Nx X.K α H α' H' M → RP X.K H' α' r v → D.rt v H'
variable {L : List (Str × List Str)} {c : Str} {fl : List Str} {C a : Addr} {cls : Value} {d : Option Addr} {oe : Obj} {pn : List (Addr × Obj)} {al : Option Str} {sc : Scope} {N : List Str}
theorem c_pe {c0 : Const} {x : P} {j : Nat} {pos : Pos} {Z : Cx} (h : cstP c0 = some x) : ∃ v, PE Z (.Constant c0 j pos) (tC v) ∧ ∀ H α, RP Z.K H α x v := by
  cases c0 <;> cases h
  · exact ⟨_, pe_non, fun H α => by unfold RP; rfl⟩
  · exact ⟨_, pe_bl, fun H α => by unfold RP; rfl⟩
  · exact ⟨_, pe_int, fun H α => by unfold RP; rfl⟩
  · exact ⟨_, pe_str, fun H α => by unfold RP; rfl⟩
theorem hq_pe {e : Expr} {q : HQ} (hE : ExcK X.K X.mg c fl C) (hL : L.lookup c = some fl) (hsc : X.env.scope = sc) (hN : X.N = N) (ha : okAl N sc al = true) (hz : Zc cls d oe) (hf : ∃ vs, oe.data = .fields vs) (h : trHQ fl al e = some q) :
    PE (X.suite a ((a, oe) :: pn)) e (tHq X L c a cls d (al.bind (slotOf N)) q) := by
  cases e with
  | Constant c0 j pos =>
    obtain ⟨x, e1, rfl⟩ := Option.map_eq_some_iff.mp (show (cstP c0).map HQ.c = some q from h)
    obtain ⟨v, h1, h2⟩ := c_pe (Z := X.suite a ((a, oe) :: pn)) (j := j) (pos := pos) e1
    refine h1.weak fun σ H Q hh => ?_
    obtain ⟨α, xs, x', _, _, e2, q⟩ := hh
    cases e2
    exact q v (h2 H α)
  | Attribute o f p2 =>
    cases o with
    | Name y p1 =>
      replace h : (if al = some y then (fl.findIdx? (· == f)).map HQ.f else none) = some q := h
      split at h <;> try contradiction
      rename_i hal
      obtain ⟨k, e1, rfl⟩ := Option.map_eq_some_iff.mp h
      have hk : fl[k]? = some f := findIdx_get e1
      have hne : fl ≠ [] := fun z => by rw [z] at hk; simp at hk
      obtain ⟨xf, hno⟩ := hE.fld hne
      rw [hal] at ha
      unfold okAl at ha
      simp only [Bool.and_eq_true] at ha
      obtain ⟨⟨a1, a2⟩, a3⟩ := ha
      obtain ⟨i, hi⟩ := Option.isSome_iff_exists.mp a2
      have hv : Vis X.env.scope y := vis_ok (sc := X.env.scope) (by
        unfold isVis
        rw [hsc]
        split at a1
        · rename_i e; rw [e]
        · cases a1)
      have pv := pe_var (X := X.suite a ((a, oe) :: pn)) (pos := p1) (i := i) (x := y) (by show X.N[i]? = _; rw [hN]; exact findIdx_get hi) hv (okn_ok a3).1 (okn_ok a3).2
      refine (pe_xf (X := X) xf (hno f (List.mem_of_getElem? hk)) hz hf pv).weak fun σ H Q hh => ?_
      obtain ⟨α, xs, x', rx, ak, e2, q⟩ := hh
      obtain ⟨C', fl', h1, h2, h3, h4, h5⟩ := rx
      rw [hL] at h1
      cases h1
      rw [hE.g] at h2
      cases h2
      obtain ⟨dd, fs, g1, g2, g3⟩ := h5 hne
      obtain ⟨v, k1, k2⟩ := g3 k f x' hk e2
      refine ⟨.ref a, ak i (by rw [hal]; exact hi), rfl, h3, dd, fs, v, g1, g2, k1, q v k2⟩
    | _ => cases h
  | _ => cases h
theorem hqs_pa {es : List Expr} {l : List HQ} (hE : ExcK X.K X.mg c fl C) (hL : L.lookup c = some fl) (hsc : X.env.scope = sc) (hN : X.N = N) (ha : okAl N sc al = true) (hz : Zc cls d oe) (hf : ∃ vs, oe.data = .fields vs) (h : trHQs fl al es = some l) :
    PA (X.suite a ((a, oe) :: pn)) es (tHqs X L c a cls d (al.bind (slotOf N)) l) := by
  induction es generalizing l with
  | nil =>
    cases h
    exact pa_nil.weak fun σ H Q hh => by
      obtain ⟨α, xs, ys, _, _, e, q⟩ := hh
      cases e
      exact q [] (by unfold RPs; trivial)
  | cons e es ih =>
    replace h : (if notStar e then (trHQ fl al e).bind fun q => (trHQs fl al es).map fun l => q :: l else none) = some l := h
    split at h <;> try contradiction
    rename_i hs
    obtain ⟨q, e1, h⟩ := Option.bind_eq_some_iff.mp h
    obtain ⟨l', e2, rfl⟩ := Option.map_eq_some_iff.mp h
    refine (pa_cons (hq_pe hE hL hsc hN ha hz hf e1) (ih e2) (star_cons hs)).weak fun σ H Q hh => ?_
    obtain ⟨α, xs, ys, rx, ak, e3, k⟩ := hh
    obtain ⟨x, e4, e3⟩ := ob (show (do
      let x ← q.ev xs
      let ys ← HQ.evs xs l'
      some (x :: ys)) = some ys from e3)
    obtain ⟨zs, e5, e3⟩ := ob e3
    cases e3
    refine ⟨α, xs, x, rx, ak, e4, fun v rv => ⟨α, xs, zs, rx, ak, e5, fun vs rvs => k (v :: vs) ?_⟩⟩
    unfold RPs; exact ⟨rv, rvs⟩
theorem hr_ps {e : Expr} {h : HR} {pos : Pos} (hE : ExcK X.K X.mg c fl C) (hL : L.lookup c = some fl) (hsc : X.env.scope = sc) (hN : X.N = N) (ha : okAl N sc al = true) (hz : Zc cls d oe) (hf : ∃ vs, oe.data = .fields vs) (hh : trH fl al e = some h) :
    PSs (X.suite a ((a, oe) :: pn)) [.Return (some e) pos] (tHr X L c (al.bind (slotOf N)) h a cls d) := by
  have one : ∀ e : Expr, (trHQ fl al e).map HR.one = some h → PSs (X.suite a ((a, oe) :: pn)) [.Return (some e) pos] (tHr X L c (al.bind (slotOf N)) h a cls d) := fun e hh => by
    obtain ⟨q, e1, rfl⟩ := Option.map_eq_some_iff.mp hh
    refine ((pss_cons (ps_ret (hq_pe (a := a) (pn := pn) hE hL hsc hN ha hz hf e1)) pss_nil).withLen).weak fun D σ H k hl => ?_
    obtain ⟨α, M, xs, r, m, t, rx, ak, e2, q⟩ := k hl
    exact ⟨α, xs, r, rx, ak, e2, fun v rv => q v H α (Nx.refl m t) rv⟩
  cases e with
  | Tuple es kk tp =>
    obtain ⟨l, e1, rfl⟩ := Option.map_eq_some_iff.mp (show (trHQs fl al es).map HR.tup = some h from hh)
    refine ((pss_cons (ps_ret (pe_tup (hqs_pa (a := a) (pn := pn) hE hL hsc hN ha hz hf e1))) pss_nil).withLen).weak fun D σ H k hl => ?_
    obtain ⟨α, M, xs, r, m, t, rx, ak, e2, q⟩ := k hl
    obtain ⟨ys, e3, e2⟩ := ob (show (do
      let ys ← HQ.evs xs l
      if ys.length ≤ sizeLine then some (P.tup ys) else none) = some r from e2)
    split at e2 <;> try contradiction
    rename_i hle
    cases e2
    refine ⟨α, xs, ys, rx, ak, e3, fun vs rvs => ⟨by rw [← rvs.length]; exact hle, new_tup m t rvs fun w H' α' n rd => q w H' α' n rd⟩⟩
  | _ => exact one _ hh
end
end IX
end

section
set_option Elab.async false
set_option autoImplicit false
set_option linter.all false
set_option maxRecDepth 100000
set_option maxHeartbeats 4000000
/-! The translation is sound: statements, together. -/
namespace IX
open PySem PySem.Spec PyProof.Rows L2
/-! ### an except clause that is sure to match, whatever stands behind it -/
/-- the wish: the suite runs with the exception in slot i -/
def wAsT (K : PySem.W.Frag) (c : Value) (i : Nat) (ts : Addr → Value → Option Addr → TS) (D : Ends) : WX := fun cls d σ H =>
  PySem.W.exmOne K cls c = some true ∧ ∀ a, H a = none → ts a cls d { nx := fun σ' H' => D.nx (σ'.set i none) H', rt := D.rt, bk := fun σ' H' => D.bk (σ'.set i none) H', ct := fun σ' H' => D.ct (σ'.set i none) H' } (σ.set i (some (.ref a))) H
section
variable {X : Cx} {x n : Str} {c : Value} {i : Nat} {body suite : List Stmt} {b₀ : Stmt} {np pos pos' : Pos} {rest : List ExceptHandler} {tb : WX → TS} {ts : Addr → Value → Option Addr → TS}
theorem ps_try_asT (hs : X.stack = X.env :: X.outer) (hf : X.env.frame = some X.env.locals) (hN : X.N.Nodup) (hi : X.N[i]? = some n) (hln : X.env.kindOf n = some .local) (hg : Gl X x) (hdb : (x == ("__debug__" : Str)) = false) (hm : X.mg x = some c)
    (hb : ∀ (W : WX) (pn : List (Addr × Obj)) (xe : Value → Shared → Prop), Takes (X.tr pn xe) W → PassesOwn (model X.prog X.w) X.A X.env xe → PSs (X.tr pn xe) body (tb W))
    (hsu : ∀ (a : Addr) (oe : Obj) (cls : Value) (d : Option Addr) (pn : List (Addr × Obj)), Zc cls d oe → (∃ vs, oe.data = .fields vs) → PSs (X.suite a ((a, oe) :: pn)) (b₀ :: suite) (ts a cls d)) :
    PS X (.Try body (.ExceptHandler (some (.Name x np)) (some n) (b₀ :: suite) pos' :: rest) [] [] pos) (fun D σ H => tb (wAsT X.K c i ts D) D σ H) := by
  refine ⟨fun pins s σ H D I h => wpAny_Try_except ?_⟩
  have ok := I.ok
  refine wpAny_mono ((hb (wAsT X.K c i ts D) (X.pn ++ pins) (fun e s₁ => wpAny (model X.prog X.w) X.A (noteFrame e X.env) (fun _ s₂ => wpAny (model X.prog X.w) X.A (setFlight e none) (fun _ s₃ =>
    wpAny (model X.prog X.w) X.A (handleBy e X.env (.ExceptHandler (some (.Name x np)) (some n) (b₀ :: suite) pos' :: rest)) (SP X pins D) X.xe s₃) X.xe s₂) X.xe s₁) (fun u s' xx => ?_) PassesOwn.looking).run [] s σ H D (I.toTry _) h) (fun f s1 q => ?_) (fun e s1 z => z)
  · obtain ⟨a, B, sI, pins', σ', H', cls, d, rfl, J', nb, up, sky, na, os, ag, hb1, hyes⟩ := xx
    have J : Inv X pins σ' H' sI := J'.ofTry ok
    refine Sky.land Zc.steady (by rw [ok.frames, hs]) hf (show Sky B (X.env :: X.outer) a (Zc cls d) X.env.locals s'.heap by rw [← hs]; exact sky) fun h3 fl3 up3 => ?_
    have J3 : Inv X pins σ' H' { s' with heap := h3 } := J.landed nb fl3.1 (up.trans up3) os ag
    obtain ⟨oe3, vs3, he3, hz3, hd3⟩ := fl3.there
    have nfr : a ∉ frs (X.env :: X.outer) := fun hm => by
      obtain ⟨_, o', e', hnf⟩ := fl3.2.2.1.mem hm
      rw [he3] at e'
      cases e'
      exact hnf _ hd3
    have nL : a ≠ X.env.locals := fun z => nfr (List.mem_filterMap.mpr ⟨X.env, List.mem_cons_self, by rw [hf, z]⟩)
    have nF : a ∉ X.fs := fun hm => by
      obtain ⟨e, he, q⟩ := List.mem_filterMap.mp hm
      exact nfr (List.mem_filterMap.mpr ⟨e, List.mem_cons_of_mem _ he, q⟩)
    refine wpAny_handleBy_cons (codeAny_handlers_test ?_) (by intro q; cases q)
    refine ld_glob (X := X.suite a ((a, oe3) :: (X.pn ++ pins))) (J3.suite he3 hd3 na nL nF) hg hm ?_ hdb
    refine (PySem.W.exm_one (M := model X.prog X.w) J3.kIn (fun A Q E s k q => wpAny_typeOf_ref (k _ _ he3) (by rw [hz3.1]; exact q)) hb1).here ?_
    refine codeAny_handlers_suite_as (HandSPX.lands_againZ fl3 fun h4 fl4 up4 => ?_)
    obtain ⟨oe4, vs4, he4, hz4, hd4⟩ := fl4.there
    have J4 : Inv X pins σ' H' { s' with heap := h4 } := J.landed nb fl4.1 ((up.trans up3).trans up4) os ag
    have S4 := J4.suite he4 hd4 na nL nF
    refine store_ok (X := X.suite a ((a, oe4) :: (X.pn ++ pins))) (v := .ref a) S4 hN hi (.inl hln) rfl (fun s5 S5 => ?_) (.inr hln)
    refine wpAny_mono ((hsu a oe4 cls d (X.pn ++ pins) hz4 ⟨_, hd4⟩).run [] s5 _ H' _ S5 (hyes a na)) (fun f s6 q => ?_) (fun _ _ z => False.elim z)
    cases f with
    | next =>
      obtain ⟨_, _, S6, q6⟩ := q
      exact gone_ok (S6.unsuite ok) hN hi hln fun s7 J7 => ⟨_, _, J7, q6⟩
    | brk =>
      obtain ⟨_, _, S6, q6⟩ := q
      exact gone_ok (S6.unsuite ok) hN hi hln fun s7 J7 => ⟨_, _, J7, q6⟩
    | cont =>
      obtain ⟨_, _, S6, q6⟩ := q
      exact gone_ok (S6.unsuite ok) hN hi hln fun s7 J7 => ⟨_, _, J7, q6⟩
    | ret u =>
      obtain ⟨_, _, _, S6, r6, q6⟩ := q
      exact gone_ok (S6.unsuite ok) hN hi hln fun s7 J7 => ⟨_, _, _, J7, r6, q6⟩
  · cases f with
    | next =>
      obtain ⟨_, _, J', q⟩ := q
      exact wpAny_execs_nil ⟨_, _, J'.ofTry ok, q⟩
    | brk =>
      obtain ⟨_, _, J', q⟩ := q
      exact ⟨_, _, J'.ofTry ok, q⟩
    | cont =>
      obtain ⟨_, _, J', q⟩ := q
      exact ⟨_, _, J'.ofTry ok, q⟩
    | ret u =>
      obtain ⟨_, _, _, J', r, q⟩ := q
      exact ⟨_, _, _, J'.ofTry ok, r, q⟩
end
end IX
namespace IX
open PySem PySem.Spec PyProof.Rows L2 GX
section
variable {π : Pg} {W : Wd} {lv g : Nat} {N : List Str} {sc scope : Scope} {X : Cx} {Wo : WX} {n L : Nat}
/-- a def's own context -/
structure StOk (sc : Scope) (X : Cx) (Wo : WX) : Prop where
  tk : Takes X Wo
  st : X.stack = X.env :: X.outer
  fr : X.env.frame = some X.env.locals
  tg : TgOk sc X
  kind : X.env.scope.kind = .function
  pass : PassesOwn (model X.prog X.w) X.A X.env X.xe
theorem tg_loc {sc : Scope} {X : Cx} (T : TgOk sc X) {x : Str} (h : isLoc sc x = true) : L2.Loc X.env.scope x ∧ (X.fn x = true ∨ X.env.scope.names.lookup x = some .local) := T x h
theorem opb_bo {o : Operator} {bo : BO} (h : opB o = some bo) : o = boOp bo := by
  cases o <;> cases h <;> rfl
theorem set_lc {elt : Expr} {gens : List Comprehension} {scope : Scope} {q pos py : Pos} {y : Str} {i : Nat} {A : E} (C : CtxOk π W lv g N sc X) (hy : N[i]? = some y) (hsw : swLc X.env y py q scope = true)
    (h : trE π n g N sc (.ListComp elt gens scope q) = some A) : PS X (.Assign [.Name y py] (.ListComp elt gens scope q) pos) (tS X ⟨π.X, Wo⟩ (setF (.nm i) (evE W (Gf π) A))) := by
  cases n with
  | zero => cases h
  | succ n =>
    have S : Snd π W lv n := snd n
    have hyl := sw_loc hsw
    have hsw' : swapsWith (.ListComp elt gens scope q) (some (.Name y py)) pos.line X.env = pure true := by rw [sw_lc, hsw]
    match gens, h, hsw' with
    | [⟨tg, iter, ifs, 0⟩], h, hsw' =>
      replace h : (if blkC N sc scope (ownOf N scope) && notSet iter then (trI π n g N sc tg iter).bind fun q => (trG N scope n tg).bind fun t => (trTs π n g N (relS scope sc) ifs).bind fun is => (trE π n g N (relS scope sc) elt).bind fun A => if subB t (ownOf N scope) then some (E.lc ((ownOf N scope).map (·.2)) A t q.1 q.2 is) else none else none) = some A := h
      split at h <;> try contradiction
      rename_i hc
      rw [Bool.and_eq_true] at hc
      obtain ⟨q, e2, h⟩ := Option.bind_eq_some_iff.mp h
      obtain ⟨t, e3, h⟩ := Option.bind_eq_some_iff.mp h
      obtain ⟨is, e4, h⟩ := Option.bind_eq_some_iff.mp h
      obtain ⟨A', e5, h⟩ := Option.bind_eq_some_iff.mp h
      split at h <;> try contradiction
      rename_i hsub
      cases h
      have hb : BlkOk X.N X.env.scope scope (ownOf N scope) := by rw [C.hN, C.hsc]; exact blkOk_by hc.1
      exact s_setlc C.calm (by rw [C.hN]; exact C.nd) (by rw [C.hN]; exact hy) hyl hsw' (S.i C e2) hb (fun s H c cl fp => (trG_ok n).1 (C.blk s H c cl fp) (tg_blk s H c cl fp) e3) (fun s H c cl fp => S.ts (C.blk s H c cl fp) e4) (fun s H c cl fp => S.e (C.blk s H c cl fp) e5) (set_fold hc.2) (own_sub hsub)
    | [⟨tg, iter, ifs, 0⟩, ⟨tg1, iter1, ifs1, 0⟩], h, hsw' =>
      replace h : (if blkC N sc scope (ownOf N scope) && notSet iter && notSet iter1 then (trI π n g N sc tg iter).bind fun q => (trG N scope n tg).bind fun t => (trTs π n g N (relS scope sc) ifs).bind fun is => (trI π n g N (relS scope sc) tg1 iter1).bind fun q1 => (trG N scope n tg1).bind fun t1 =>
        (trTs π n g N (relS scope sc) ifs1).bind fun is1 => (trE π n g N (relS scope sc) elt).bind fun A => if subB t (ownOf N scope) && subB t1 (ownOf N scope) then some (E.lc2 ((ownOf N scope).map (·.2)) A t q.1 q.2 is t1.slots t1 q1.1 q1.2 is1) else none else none) = some A := h
      split at h <;> try contradiction
      rename_i hc
      simp only [Bool.and_eq_true] at hc
      obtain ⟨q, e2, h⟩ := Option.bind_eq_some_iff.mp h
      obtain ⟨t, e3, h⟩ := Option.bind_eq_some_iff.mp h
      obtain ⟨is, e4, h⟩ := Option.bind_eq_some_iff.mp h
      obtain ⟨q1, e6, h⟩ := Option.bind_eq_some_iff.mp h
      obtain ⟨t1, e7, h⟩ := Option.bind_eq_some_iff.mp h
      obtain ⟨is1, e8, h⟩ := Option.bind_eq_some_iff.mp h
      obtain ⟨A', e5, h⟩ := Option.bind_eq_some_iff.mp h
      split at h <;> try contradiction
      rename_i hsub
      rw [Bool.and_eq_true] at hsub
      cases h
      have hb : BlkOk X.N X.env.scope scope (ownOf N scope) := by rw [C.hN, C.hsc]; exact blkOk_by hc.1.1
      exact s_setlc2 C.calm (by rw [C.hN]; exact C.nd) (by rw [C.hN]; exact hy) hyl hsw' (S.i C e2) hb (own_sub hsub.2) (fun s H c cl fp => (trG_ok n).1 (C.blk s H c cl fp) (tg_blk s H c cl fp) e3) (fun s H c cl fp => S.ts (C.blk s H c cl fp) e4) (fun s H c cl fp => S.i (C.blk s H c cl fp) e6)
        (fun s H c cl fp => (trG_ok n).1 (C.blk s H c cl fp) (tg_blk s H c cl fp) e7) (fun s H c cl fp => S.ts (C.blk s H c cl fp) e8) (fun s H c cl fp => S.e (C.blk s H c cl fp) e5) (set_fold hc.1.2) (fun env => set_fold hc.2) (own_sub hsub.1) fun i hi => hi
    | [], h, _ => cases h
    | [⟨_, _, _, .ofNat (k + 1)⟩], h, _ => cases h
    | [⟨_, _, _, .negSucc k⟩], h, _ => cases h
    | [⟨_, _, _, 0⟩, ⟨_, _, _, .ofNat (k + 1)⟩], h, _ => cases h
    | [⟨_, _, _, 0⟩, ⟨_, _, _, .negSucc k⟩], h, _ => cases h
    | [⟨_, _, _, .ofNat (k + 1)⟩, _], h, _ => cases h
    | [⟨_, _, _, .negSucc k⟩, _], h, _ => cases h
    | ⟨_, _, _, 0⟩ :: ⟨_, _, _, 0⟩ :: _ :: _, h, _ => cases h
    | ⟨_, _, _, 0⟩ :: ⟨_, _, _, .ofNat (k + 1)⟩ :: _ :: _, h, _ => cases h
    | ⟨_, _, _, 0⟩ :: ⟨_, _, _, .negSucc k⟩ :: _ :: _, h, _ => cases h
    | ⟨_, _, _, .ofNat (k + 1)⟩ :: _ :: _ :: _, h, _ => cases h
    | ⟨_, _, _, .negSucc k⟩ :: _ :: _ :: _, h, _ => cases h
theorem not_comp_tr {e : Expr} {A : E} (h : trE π n g N sc e = some A) : notComp e = true ∨ ∃ elt gens s q, e = .ListComp elt gens s q := by
  cases e <;> first | exact .inl rfl | exact .inr ⟨_, _, _, _, rfl⟩ | (cases n <;> cases h)
theorem asg_one {tg : Expr} {env : PySem.Env} (h : notStar tg = true) : (assignEach [tg] env).map (·.2) = [assign tg env] := by rw [asg_cons h]; rfl
structure SndS (π : Pg) (W : Wd) (lv L n : Nat) : Prop where
  s : ∀ {g : Nat} {N : List Str} {sc : Scope} {st : Stmt} {A : S} {X : Cx} {Wo : WX}, CtxOk π W lv g N sc X → StOk sc X Wo → trS π n g N sc st = some A → PS X st (tS X ⟨π.X, Wo⟩ (evS W (Gf π) L A))
  ss : ∀ {g : Nat} {N : List Str} {sc : Scope} {sts : List Stmt} {l : List S} {X : Cx} {Wo : WX}, CtxOk π W lv g N sc X → StOk sc X Wo → trSs π n g N sc sts = some l → PSs X sts (tS X ⟨π.X, Wo⟩ (evSs W (Gf π) L l))
theorem s_stk {st : Stmt} {G : Str → Option P} : PS X st (tS X ⟨π.X, Wo⟩ (evS W G L .stk)) := ps_never.weak fun D σ H h => by
  obtain ⟨ρ, M, α, o, r, e, q⟩ := h
  cases e
theorem snd_ss (R : SndS π W lv L n) {sts : List Stmt} {l : List S} (C : CtxOk π W lv g N sc X) (Z : StOk sc X Wo) (h : trSs π (n + 1) g N sc sts = some l) : PSs X sts (tS X ⟨π.X, Wo⟩ (evSs W (Gf π) L l)) := by
  cases sts with
  | nil => cases h; exact ss_nil
  | cons st sts =>
    obtain ⟨l', e2, rfl⟩ := Option.map_eq_some_iff.mp (show ((trSs π n g N sc sts).map fun l => (trS π n g N sc st).getD .stk :: l) = some l from h)
    cases e1 : trS π n g N sc st with
    | some A => exact ss_cons (R.s C Z e1) (R.ss C Z e2)
    | none => exact ss_cons s_stk (R.ss C Z e2)
def notTup : Expr → Bool
  | .Tuple _ _ _ => false
  | _ => true
theorem tup_none {ts : List Expr} {k : Nat} {tp : Pos} {e : Expr} {env : PySem.Env} (h : notTup e = true) : swappedStores [.Tuple ts k tp] e env = pure none := by
  cases e <;> first | rfl | cases h
def locE (env : PySem.Env) (line : Nat) : Expr → Option Str
  | .Name id pos => if env.kindOf id == some .local && pos.line == line then some id else none
  | _ => none
theorem locE_eq {env : PySem.Env} {l : Nat} (h : env.scope = sc) : locE env l = locN sc l := by
  funext t
  cases t <;> try rfl
  rename_i id p
  show (if env.scope.names.lookup id == some .local && p.line == l then some id else none) = (if (match sc.names.lookup id with | some .local => true | _ => false) && p.line == l then some id else none)
  rw [h]
  cases e : sc.names.lookup id with
  | none => rfl
  | some k => cases k <;> rfl
theorem filter_short {A B : Type} {f : A → Option B} : ∀ {xs : List A}, (xs.filterMap f).length = xs.length → ∀ x ∈ xs, (f x).isSome = true
  | [], _, _, h => by simp at h
  | a :: xs, h, x, hx => by
    rw [List.filterMap_cons] at h
    cases e : f a with
    | none =>
      rw [e] at h
      have := List.length_filterMap_le f xs
      simp only [List.length_cons] at h
      omega
    | some b =>
      rw [e] at h
      simp only [List.length_cons, Nat.add_right_cancel_iff] at h
      rcases List.mem_cons.mp hx with z | z
      · rw [z, e]; rfl
      · exact filter_short h x z
theorem sw_off {ts vs : List Expr} {k k2 : Nat} {tp tp2 : Pos} {env : PySem.Env} (hs : env.scope = sc) (h : anyOff sc ts = true) : swappedStores [.Tuple ts k tp] (.Tuple vs k2 tp2) env = pure none := by
  have hl : ((ts.filterMap (locE env ((ts.head?.map (·.pos.line)).getD 0))).length != ts.length) = true := by
    rw [bne_iff_ne]
    intro z
    unfold anyOff at h
    rw [List.any_eq_true] at h
    obtain ⟨t, ht, e⟩ := h
    have := filter_short z t ht
    rw [locE_eq hs] at this
    cases q : locN sc ((ts.head?.map (·.pos.line)).getD 0) t with
    | none => rw [q] at this; cases this
    | some _ => rw [q] at e; cases e
  have hf : (fun t : Expr => match t with
      | .Name id pos => if env.kindOf id == some .local && pos.line == ((ts.head?.map (·.pos.line)).getD 0) then some id else none
      | _ => none) = locE env ((ts.head?.map (·.pos.line)).getD 0) := by
    funext t
    cases t <;> rfl
  unfold swappedStores
  dsimp only
  split
  · rfl
  · split
    · rfl
    · have hl2 : (ts.filterMap (fun t : Expr => match t with
        | .Name id pos => if env.kindOf id == some .local && pos.line == ((ts.head?.map (·.pos.line)).getD 0) then some id else none
        | _ => none)).length != ts.length := by rw [hf]; exact hl
      exact if_pos (by rw [Bool.or_eq_true]; exact .inl hl2)
theorem sw_fold {ts vs : List Expr} {k k2 : Nat} {tp tp2 : Pos} {env : PySem.Env} (h : vs.all (foldedForSure 8) = true) : swappedStores [.Tuple ts k tp] (.Tuple vs k2 tp2) env = pure none := by
  unfold swappedStores
  simp only [h, if_true]
  repeat' first | rfl | split
theorem sw_offs {ts vs : List Expr} {k k2 : Nat} {tp tp2 : Pos} {env : PySem.Env} (hs : env.scope = sc) (h : (anyOff sc ts || vs.all (foldedForSure 8)) = true) : swappedStores [.Tuple ts k tp] (.Tuple vs k2 tp2) env = pure none := by
  rcases Bool.or_eq_true_iff.mp h with h | h
  · exact sw_off hs h
  · exact sw_fold h
theorem snd_asg {tg : Expr} {e : Expr} {pos : Pos} {A : S} (C : CtxOk π W lv g N sc X) (Z : StOk sc X Wo) (h : trA π n g N sc tg e = some A) : PS X (.Assign [tg] e pos) (tS X ⟨π.X, Wo⟩ (evS W (Gf π) L A)) := by
  have Sn : Snd π W lv n := snd n
  have hN : X.N.Nodup := by rw [C.hN]; exact C.nd
  cases tg with
  | Name x px =>
    replace h : (if isLoc sc x then (slotOf N x).bind fun i => (trE π n g N sc e).map fun A => S.set (.nm i) A else none) = some A := h
    split at h <;> try contradiction
    rename_i hl
    obtain ⟨i, e1, h⟩ := Option.bind_eq_some_iff.mp h
    obtain ⟨B, e2, rfl⟩ := Option.map_eq_some_iff.mp h
    have hi := findIdx_get e1
    have hx := Z.tg x hl
    have plain : swapsWith e (some (.Name x px)) pos.line X.env = pure false → PS X (.Assign [.Name x px] e pos) (tS X ⟨π.X, Wo⟩ (setF (.nm i) (evE W (Gf π) B))) := fun hs => s_set hN (by rw [C.hN]; exact hi) hx.1 (Sn.e C e2) hs hx.2
    rcases not_comp_tr e2 with hc | ⟨elt, gens, s, q, rfl⟩
    · exact plain (sw_no hc)
    · cases hsw : swLc X.env x px q s with
      | true => exact set_lc C hi hsw e2
      | false => exact plain (by rw [sw_lc, hsw])
  | Subscript o i ps =>
    replace h : (if notSlice i then (trE π n g N sc o).bind fun O => (trE π n g N sc i).bind fun I => (trE π n g N sc e).map fun A => S.seti O I A else none) = some A := h
    split at h <;> try contradiction
    rename_i hs
    obtain ⟨O, e1, h⟩ := Option.bind_eq_some_iff.mp h
    obtain ⟨I, e2, h⟩ := Option.bind_eq_some_iff.mp h
    obtain ⟨B, e3, rfl⟩ := Option.map_eq_some_iff.mp h
    refine s_seti (Sn.e C e3) (Sn.e C e1) (Sn.e C e2) (by cases i <;> first | (intro _; rfl) | cases hs) ?_ ?_ (asg_one rfl)
    · cases e <;> rfl
    · cases e <;> rfl
  | Tuple ts k tp =>
    have hk : X.env.blockKind = .function := blt_kind Z.kind
    have klo : ∀ {x : Str}, sc.names.lookup x = some .local → X.env.kindOf x = some .local := fun {x} h => by show X.env.scope.names.lookup x = _; rw [C.hsc]; exact h
    have other : swappedStores [.Tuple ts k tp] e X.env = pure none → (if notComp e then (trG N sc n (.Tuple ts k tp)).bind fun t => (trE π n g N sc e).map fun A => S.set t A else none) = some A → PS X (.Assign [.Tuple ts k tp] e pos) (tS X ⟨π.X, Wo⟩ (evS W (Gf π) L A)) := fun he h => by
      split at h <;> try contradiction
      rename_i hc
      obtain ⟨t, e1, h⟩ := Option.bind_eq_some_iff.mp h
      obtain ⟨B, e2, rfl⟩ := Option.map_eq_some_iff.mp h
      have pg := (trG_ok n).1 C Z.tg e1
      have htp : ∃ l, t = .tp l := by
        cases n with
        | zero => cases e1
        | succ n =>
          obtain ⟨l, _, rfl⟩ := Option.map_eq_some_iff.mp (show (trGs N sc n ts).map T.tp = some t from e1)
          exact ⟨l, rfl⟩
      obtain ⟨l, rfl⟩ := htp
      exact s_asg (Sn.e C e2) (g_tpD pg) (sw_sole hc) he (asg_one rfl)
    cases e with
    | Tuple vs k2 tp2 =>
      replace h : (if anyOff sc ts || vs.all (foldedForSure 8) then (trG N sc n (.Tuple ts k tp)).bind fun t => (trE π n g N sc (.Tuple vs k2 tp2)).map fun A => S.set t A else trP π n g N sc ts vs) = some A := h
      split at h
      · rename_i ho
        exact other (sw_offs C.hsc ho) h
      replace h : (match (generalizing := false) ts, vs with
        | [.Name x px, .Name y py], [a, b] =>
          (slotOf N x).bind fun i => (slotOf N y).bind fun j => if i != j && (locN sc px.line (.Name x px)).isSome && (locN sc px.line (.Name y py)).isSome && notStar a && notStar b && !(foldedForSure 8 a && foldedForSure 8 b) && !(constantsAlone 8 a && constantsAlone 8 b) then
            (trEs π n g N sc [a, b]).map fun l => S.par [i, j] l else none
        | [.Name x px, .Name y py, .Name z pz], [a, b, c] =>
          (slotOf N x).bind fun i => (slotOf N y).bind fun j => (slotOf N z).bind fun l => if i != j && i != l && j != l && (locN sc px.line (.Name x px)).isSome && (locN sc px.line (.Name y py)).isSome && (locN sc px.line (.Name z pz)).isSome && notStar a && notStar b && notStar c &&
              !(foldedForSure 8 a && foldedForSure 8 b && foldedForSure 8 c) && !(constantsAlone 8 a && constantsAlone 8 b && constantsAlone 8 c) then
            (trEs π n g N sc [a, b, c]).map fun q => S.par [i, j, l] q else none
        | _, _ => none) = some A := h
      split at h
      · rename_i x px y py a b
        obtain ⟨i, e1, h⟩ := Option.bind_eq_some_iff.mp h
        obtain ⟨j, e2, h⟩ := Option.bind_eq_some_iff.mp h
        split at h <;> try contradiction
        rename_i hc
        simp only [Bool.and_eq_true, Bool.not_eq_true'] at hc
        obtain ⟨⟨⟨⟨⟨⟨c1, c2⟩, c3⟩, c4⟩, c5⟩, c6⟩, c7⟩ := hc
        obtain ⟨l, e3, rfl⟩ := Option.map_eq_some_iff.mp h
        obtain ⟨l1, _⟩ := loc_some c2
        obtain ⟨l2, m2⟩ := loc_some c3
        refine s_par C.calm hN (by rw [C.hN]; exact findIdx_get e1) (by rw [C.hN]; exact findIdx_get e2) (by simpa using c1) (klo l1) (klo l2) (Sn.es C e3).pa ?_ rfl
        exact sw_two hk (klo l1) (klo l2) m2 (slot_ne e1 e2 c1) c4 c5 c6 c7
      · rename_i x px y py z pz a b c
        obtain ⟨i, e1, h⟩ := Option.bind_eq_some_iff.mp h
        obtain ⟨j, e2, h⟩ := Option.bind_eq_some_iff.mp h
        obtain ⟨l0, e4, h⟩ := Option.bind_eq_some_iff.mp h
        split at h <;> try contradiction
        rename_i hc
        simp only [Bool.and_eq_true, Bool.not_eq_true'] at hc
        obtain ⟨⟨⟨⟨⟨⟨⟨⟨⟨⟨c1, c2⟩, c3⟩, c4⟩, c5⟩, c6⟩, c7⟩, c8⟩, c9⟩, c10⟩, c11⟩ := hc
        obtain ⟨l, e3, rfl⟩ := Option.map_eq_some_iff.mp h
        obtain ⟨l1, _⟩ := loc_some c4
        obtain ⟨l2, m2⟩ := loc_some c5
        obtain ⟨l3, m3⟩ := loc_some c6
        refine s_par3 C.calm hN (by rw [C.hN]; exact findIdx_get e1) (by rw [C.hN]; exact findIdx_get e2) (by rw [C.hN]; exact findIdx_get e4) (by simpa using c1) (by simpa using c2) (by simpa using c3) (klo l1) (klo l2) (klo l3) (Sn.es C e3).pa ?_ rfl
        exact sw_three hk (klo l1) (klo l2) (klo l3) m2 m3 (slot_ne e1 e2 c1) (slot_ne e1 e4 c2) (slot_ne e2 e4 c3) c7 c8 c9 c10 c11
      · cases h
    | _ => exact other (tup_none rfl) h
  | _ => cases h
theorem xOf_call {k : XC} {e : Expr} {A : S} (h : xOf π n g N sc k e = some A) : ∃ x p args kws q, e = .Call (.Name x p) args kws q := by
  unfold xOf at h
  split at h
  · exact ⟨_, _, _, _, _, rfl⟩
  · cases h
theorem x_of (Sn : Snd π W lv n) {k : XC} {e : Expr} {A : S} (C : CtxOk π W lv g N sc X) (Z : StOk sc X Wo) (h : xOf π n g N sc k e = some A) :
    ∃ i l ix, A = .xcall k i l ix ∧ PE X e (tX X ⟨π.X, Wo⟩ (W (i + XO)) ix (evEs W (Gf π) l)) := by
  obtain ⟨x, p, args, kws, pos, rfl⟩ := xOf_call h
  replace h : (if π.R.contains x && (isGl sc x && okName x) then trX π n g N sc k x args kws else none) = some A := h
  split at h <;> try contradiction
  rename_i hc
  simp only [Bool.and_eq_true] at hc
  have hg := gl_ok C hc.2.1
  have hdb := (okn_ok hc.2.2).1
  replace h : (match (generalizing := false) π.F.lookup x with
    | some (i, ps, kss) => (match (generalizing := false) args, kws with
      | e :: es, [] => if (e :: es).length == ps.length then (trEs π n g N sc (e :: es)).map fun l => S.xcall k i l (List.range ps.length) else none
      | [], kws => if kws.all (fun k => k.arg.isSome) && kss.contains (kws.filterMap (·.arg)) then (trKs π n g N sc kws).map fun l => S.xcall k i l (ixOf ps (kws.filterMap (·.arg))) else none
      | _, _ => none)
    | none => none) = some A := h
  split at h <;> try contradiction
  rename_i i ps kss hF
  obtain ⟨f, fd, hm, hk, _, F, hb, hkb⟩ := C.fns x i ps kss hF
  split at h
  · rename_i e es
    split at h <;> try contradiction
    rename_i hl
    obtain ⟨l, e1, rfl⟩ := Option.map_eq_some_iff.mp h
    have al := Sn.es C e1
    have hst := al.star
    rw [List.all_cons, Bool.and_eq_true] at hst
    exact ⟨i, l, _, rfl, s_callX (Y := ⟨π.X, Wo⟩) F (room_lv C) hg hm hk hb Z.tk al.pa hdb (star_cons hst.1) (star_any hst.2) (by simpa using hl) fun ρ M ds M' hh => by rw [evEs_len hh, ← al.len]⟩
  · split at h <;> try contradiction
    rename_i hc
    rw [Bool.and_eq_true] at hc
    obtain ⟨l, e1, rfl⟩ := Option.map_eq_some_iff.mp h
    obtain ⟨h1, h2, h3⟩ := kws_names (X := X) kws pos hc.1
    exact ⟨i, l, _, rfl, s_callkX (Y := ⟨π.X, Wo⟩) F (room_lv C) hg hm hk (hkb _ (by simpa using hc.2)) Z.tk (Sn.ks C e1) h1 h2 hdb (by rw [h3]; rfl)⟩
  · cases h
/-- the context of a try's body -/
theorem CtxOk.tr (C : CtxOk π W lv g N sc X) (pn : List (Addr × Obj)) (xe : Value → Shared → Prop) : CtxOk π W lv g N sc (X.tr pn xe) :=
  ⟨C.hN, C.hsc, C.nd, C.room, C.calm, C.bm, C.blt, C.con, C.fns, C.exc, C.mkr⟩
theorem StOk.tr {W' : WX} (Z : StOk sc X Wo) (pn : List (Addr × Obj)) (xe : Value → Shared → Prop) (tk : Takes (X.tr pn xe) W') (pa : PassesOwn (model X.prog X.w) X.A X.env xe) : StOk sc (X.tr pn xe) W' :=
  ⟨tk, Z.st, Z.fr, Z.tg, Z.kind, pa⟩
theorem s_try {b : List Stmt} {c : Str} {fl : List Str} {Ce : Addr} {np rp hp pos : Pos} {al : Option Str} {e : Expr} {hr : HR} {rest : List ExceptHandler} {B : List S} (C : CtxOk π W lv g N sc X) (Z : StOk sc X Wo) (hE : ExcK X.K X.mg c fl Ce) (hX : π.X.lookup c = some fl) (hg : Gl X c) (hdb : (c == ("__debug__" : Str)) = false)
    (ha : okAl N sc al = true) (hre : al = none → rest = []) (hh : trH fl al e = some hr) (hb : ∀ (W' : WX) (pn : List (Addr × Obj)) (xe : Value → Shared → Prop), Takes (X.tr pn xe) W' → PassesOwn (model X.prog X.w) X.A X.env xe → PSs (X.tr pn xe) b (tS (X.tr pn xe) ⟨π.X, W'⟩ (evSs W (Gf π) L B))) :
    PS X (.Try b (.ExceptHandler (some (.Name c np)) al [.Return (some e) rp] hp :: rest) [] [] pos) (tS X ⟨π.X, Wo⟩ (evS W (Gf π) L (.tryS B c hr))) := by
  have nm : Names X c (.ref Ce) := ⟨hg, hdb, .inl hE.g⟩
  have hsu : ∀ (a : Addr) (oe : Obj) (cls : Value) (d : Option Addr) (pn : List (Addr × Obj)), Zc cls d oe → (∃ vs, oe.data = .fields vs) → PSs (X.suite a ((a, oe) :: pn)) [.Return (some e) rp] (tHr X π.X c (al.bind (slotOf N)) hr a cls d) :=
    fun a oe cls d pn hz hf => hr_ps hE hX C.hsc C.hN ha hz hf hh
  have main : ∀ (D : Ends) (σ : L2.St) (H : Hp) (Wc : WX), tS X ⟨π.X, Wo⟩ (evS W (Gf π) L (.tryS B c hr)) D σ H →
      (∀ (σ' : L2.St) (H' : Hp) (xs : List P) (r : P) (α' : List Addr) (M' : Mem) (cls : Value) (d : Option Addr), RM X.K H' α' M' → TabAll H' → XR π.X X.mg X.K H' α' c xs cls d → hr.ev xs = some r → (∀ v H2 α2, Nx X.K α' H' α2 H2 M' → RP X.K H2 α2 r v → D.rt v H2) → cls = .ref Ce → Wc cls d σ' H') →
      tS X ⟨π.X, Wc⟩ (evSs W (Gf π) L B) D σ H := fun D σ H Wc h k => by
    obtain ⟨ρ, M, α, o, r, e, q⟩ := h
    obtain ⟨o1, e1, e⟩ := ob (show (do
      let o ← evSs W (Gf π) L B ρ M
      tryO c hr o) = some o from e)
    refine ⟨ρ, M, α, o1, r, e1, ?_⟩
    cases o1 with
    | xc c' xs M' =>
      replace e : (if c' = c then (hr.ev xs).map fun r => Out.rt (.p r) M' else none) = some o := e
      by_cases hc : c' = c
      case neg => rw [if_neg hc] at e; cases e
      rw [if_pos hc] at e
      obtain ⟨x, e3, rfl⟩ := Option.map_eq_some_iff.mp e
      subst hc
      intro cls d σ' H' α' n rx
      refine k σ' H' xs x α' M' cls d n.mem n.tab rx e3 (fun v H2 α2 n2 rp => q v H2 α2 (n.trans r.mem n2) rp) ?_
      obtain ⟨C', fl', h1, h2, h3, _⟩ := rx
      rw [show X.mg c' = some (.ref Ce) from hE.g] at h2
      cases h2
      exact h3
    | nx _ _ => cases e; exact q
    | bk _ _ => cases e; exact q
    | ct _ _ => cases e; exact q
    | rt _ _ => cases e; exact q
  cases al with
  | none =>
    rw [hre rfl]
    refine (ps_try_only (tb := fun W' => tS X ⟨π.X, W'⟩ (evSs W (Gf π) L B)) Z.st Z.fr nm Z.tk hb hsu).weak fun D σ H h => ?_
    refine main D σ H _ h fun σ' H' xs r α' M' cls d m t rx ev k hcl => ⟨true, by rw [hcl]; exact hE.ex, fun _ a hn hl => ⟨α', M', xs, r, m, t, rx, fun j z => (by cases z), ev, k⟩, fun z => (by cases z)⟩
  | some n0 =>
    unfold okAl at ha
    simp only [Bool.and_eq_true] at ha
    obtain ⟨⟨a1, a2⟩, a3⟩ := ha
    obtain ⟨i, hi⟩ := Option.isSome_iff_exists.mp a2
    have hN : X.N[i]? = some n0 := by rw [C.hN]; exact findIdx_get hi
    have hk : X.env.kindOf n0 = some .local := by
      show X.env.scope.names.lookup n0 = _
      rw [C.hsc]
      split at a1
      · assumption
      · cases a1
    refine (ps_try_asT (tb := fun W' => tS X ⟨π.X, W'⟩ (evSs W (Gf π) L B)) Z.st Z.fr (by rw [C.hN]; exact C.nd) hN hk hg hdb hE.g hb hsu).weak fun D σ H h => ?_
    refine main D σ H _ h fun σ' H' xs r α' M' cls d m t rx ev k hcl => ⟨by rw [hcl]; exact hE.ex, fun a hn hl => ⟨α', M', xs, r, m, t, rx, fun j z => ?_, ev, k⟩⟩
    have z : slotOf N n0 = some j := z
    rw [hi] at z
    cases z
    have hlt : i < σ'.length := by
      rw [List.length_set] at hl
      rw [hl]
      exact (List.getElem?_eq_some_iff.mp hN).1
    rw [List.getElem?_set_self hlt]
theorem snd_s (R : SndS π W lv L n) {st : Stmt} {A : S} (C : CtxOk π W lv g N sc X) (Z : StOk sc X Wo) (h : trS π (n + 1) g N sc st = some A) : PS X st (tS X ⟨π.X, Wo⟩ (evS W (Gf π) L A)) := by
  have Sn : Snd π W lv n := snd n
  have hN : X.N.Nodup := by rw [C.hN]; exact C.nd
  cases st with
  | Expr e pos =>
    have plain0 : (if notComp e then (trE π n g N sc e).map S.ex else none) = some A → PS X (.Expr e pos) (tS X ⟨π.X, Wo⟩ (evS W (Gf π) L A)) := fun h => by
      split at h <;> try contradiction
      rename_i hc
      obtain ⟨B, e1, rfl⟩ := Option.map_eq_some_iff.mp h
      exact s_ex (Sn.e C e1) (sw_no hc)
    have plain : (match xOf π n g N sc .ex e with
      | some A => some A
      | none => if notComp e then (trE π n g N sc e).map S.ex else none) = some A → PS X (.Expr e pos) (tS X ⟨π.X, Wo⟩ (evS W (Gf π) L A)) := fun h => by
      cases hx : xOf π n g N sc .ex e with
      | none => rw [hx] at h; exact plain0 h
      | some A' =>
        rw [hx] at h
        cases h
        obtain ⟨i, l, ix, rfl, pe⟩ := x_of Sn C Z hx
        refine s_xex pe (sw_no ?_)
        obtain ⟨x, p, args, kws, q, rfl⟩ := xOf_call hx
        rfl
    cases e with
    | Constant c j p =>
      cases c with
      | str x => cases h; exact s_doc
      | _ => exact plain h
    | _ => exact plain h
  | Return e pos =>
    cases e with
    | none => cases h; exact s_retn
    | some e =>
      replace h : (match xRet π n g N sc e with
        | some A => some A
        | none => (trE π n g N sc e).map S.ret) = some A := h
      cases hx : xRet π n g N sc e with
      | none =>
        rw [hx] at h
        obtain ⟨B, e1, rfl⟩ := Option.map_eq_some_iff.mp h
        exact s_ret (Sn.e C e1)
      | some A' =>
        rw [hx] at h
        cases h
        have one : ∀ e : Expr, xOf π n g N sc .ret e = some A → PS X (.Return (some e) pos) (tS X ⟨π.X, Wo⟩ (evS W (Gf π) L A)) := fun e hx => by
          obtain ⟨i, l, ix, rfl, pe⟩ := x_of Sn C Z hx
          exact s_xret pe
        replace hx : (match isCT e with
          | some (c, e2) => (cstP c).bind fun c => xOf π n g N sc (.retc c) e2
          | none => xOf π n g N sc .ret e) = some A := hx
        cases hct : isCT e with
        | none => rw [hct] at hx; exact one e hx
        | some q =>
          obtain ⟨c0, e2⟩ := q
          rw [hct] at hx
          obtain ⟨j, cp, kk, tp, rfl⟩ := isCT_ok hct
          obtain ⟨c, e1, hx⟩ := Option.bind_eq_some_iff.mp hx
          obtain ⟨i, l, ix, rfl, pe⟩ := x_of Sn C Z hx
          obtain ⟨v, hc, hr⟩ := c_pe (Z := X) (j := j) (pos := cp) e1
          obtain ⟨x, p, args, kws, q, rfl⟩ := xOf_call hx
          exact s_xretc hc hr pe rfl rfl
  | Raise e c pos =>
    replace h : (match isRaise e c with
      | some (c, args) => if isGl sc c && okName c then (match π.X.lookup c with
        | some fl => if args.length == fl.length && (args.isEmpty || decide (3 ≤ g)) && args.all notStar then (trEs π n g N sc args).map (S.raise c) else none
        | none => none) else none
      | none => none) = some A := h
    cases hr : isRaise e c with
    | none => rw [hr] at h; cases h
    | some q =>
      obtain ⟨x, args⟩ := q
      rw [hr] at h
      obtain ⟨p, q, rfl, rfl⟩ := isRaise_ok hr
      dsimp only at h
      split at h <;> try contradiction
      rename_i hc
      rw [Bool.and_eq_true] at hc
      split at h <;> try contradiction
      rename_i fl hX
      split at h <;> try contradiction
      rename_i hl
      simp only [Bool.and_eq_true, beq_iff_eq] at hl
      obtain ⟨⟨hl, hg3⟩, hst⟩ := hl
      obtain ⟨l, e1, rfl⟩ := Option.map_eq_some_iff.mp h
      have al := Sn.es C e1
      obtain ⟨Ce, hE⟩ := C.exc x fl hX
      have hgl := gl_ok C hc.1
      have hdb := (okn_ok hc.2).1
      cases args with
      | nil =>
        have : fl = [] := List.eq_nil_of_length_eq_zero hl.symm
        subst this
        cases l with
        | nil => exact s_raise0 (Y := ⟨π.X, Wo⟩) C.calm Z.tk hE hX hgl hdb
        | cons _ _ => exact al.elim
      | cons a args =>
        have hne : fl ≠ [] := fun z => by rw [z] at hl; cases hl
        have h3 : 3 ≤ g := by simpa using hg3
        refine s_raiseF (Y := ⟨π.X, Wo⟩) (fl := fl) C.calm Z.tk hX (C.mkr x fl hX X rfl rfl rfl rfl rfl hne (a :: args) _ p q hl (al.star) al.pa (C.room.mono (by omega)) hgl hdb) fun ρ M ds M' hh => ?_
        rw [evEs_len hh, ← al.len, hl]
  | Try b hs o f pos =>
    replace h : (match isTry hs o f with
      | some (c, al, e) => if isGl sc c && okName c && okAl N sc al then (match π.X.lookup c with
        | some fl => (trH fl al e).bind fun h => (trSs π n g N sc b).map fun B => S.tryS B c h
        | none => none) else none
      | none => none) = some A := h
    cases ht : isTry hs o f with
    | none => rw [ht] at h; cases h
    | some q =>
      obtain ⟨c, al, e⟩ := q
      rw [ht] at h
      obtain ⟨np, rp, hp, rest, rfl, hre, rfl, rfl⟩ := isTry_ok ht
      dsimp only at h
      split at h <;> try contradiction
      rename_i hc
      simp only [Bool.and_eq_true] at hc
      obtain ⟨⟨c1, c2⟩, c3⟩ := hc
      split at h <;> try contradiction
      rename_i fl hX
      obtain ⟨hr, e1, h⟩ := Option.bind_eq_some_iff.mp h
      obtain ⟨B, e2, rfl⟩ := Option.map_eq_some_iff.mp h
      obtain ⟨Ce, hE⟩ := C.exc c fl hX
      exact s_try C Z hE hX (gl_ok C c1) (okn_ok c2).1 c3 hre e1 fun W' pn xe tk pa => R.ss (C.tr pn xe) (Z.tr pn xe tk pa) e2
  | Pass pos => cases h; exact s_pas
  | Break pos => cases h; exact s_brk
  | Continue pos => cases h; exact s_cnt
  | If c a b pos =>
    obtain ⟨C1, e1, h⟩ := Option.bind_eq_some_iff.mp (show ((trT π n g N sc c).bind fun C => (trSs π n g N sc a).bind fun A => (trSs π n g N sc b).map fun B => S.ife C A B) = some A from h)
    obtain ⟨A1, e2, h⟩ := Option.bind_eq_some_iff.mp h
    obtain ⟨B1, e3, rfl⟩ := Option.map_eq_some_iff.mp h
    exact s_if (Sn.t C e1) (R.ss C Z e2) (R.ss C Z e3)
  | While c b o pos =>
    cases o with
    | cons _ _ => cases h
    | nil =>
      obtain ⟨C1, e1, h⟩ := Option.bind_eq_some_iff.mp (show ((trT π n g N sc c).bind fun C => (trSs π n g N sc b).map fun B => S.whl C B) = some A from h)
      obtain ⟨B1, e2, rfl⟩ := Option.map_eq_some_iff.mp h
      exact s_while Z.pass (Sn.t C e1) (R.ss C Z e2)
  | For tg iter b o pos =>
    cases o with
    | cons _ _ => cases h
    | nil =>
      replace h : (if notSetF iter then (trI π n g N sc tg iter).bind fun q => (trG N sc n tg).bind fun t => (trSs π n g N sc b).map fun B => S.loop t q.1 q.2 B else none) = some A := h
      split at h <;> try contradiction
      rename_i hs
      obtain ⟨q, e1, h⟩ := Option.bind_eq_some_iff.mp h
      obtain ⟨t, e2, h⟩ := Option.bind_eq_some_iff.mp h
      obtain ⟨B1, e3, rfl⟩ := Option.map_eq_some_iff.mp h
      exact s_for Z.pass C.calm (Sn.i C e1) ((trG_ok n).1 C Z.tg e2) (R.ss C Z e3) (set_foldF hs)
  | AugAssign tg o e pos =>
    cases tg with
    | Name x px =>
      replace h : (if isLoc sc x then (slotOf N x).bind fun i => (opB o).bind fun o => (trE π n g N sc e).map fun A => S.aug i o A else none) = some A := h
      split at h <;> try contradiction
      rename_i hl
      obtain ⟨i, e1, h⟩ := Option.bind_eq_some_iff.mp h
      obtain ⟨bo, e2, h⟩ := Option.bind_eq_some_iff.mp h
      obtain ⟨B, e3, rfl⟩ := Option.map_eq_some_iff.mp h
      have hx := Z.tg x hl
      rw [opb_bo e2]
      exact s_aug hN (by rw [C.hN]; exact findIdx_get e1) hx.1 (Sn.e C e3) hx.2
    | Subscript a i p =>
      replace h : (if notSlice i then (opB o).bind fun o => (trE π n g N sc a).bind fun A => (trE π n g N sc i).bind fun I => (trE π n g N sc e).map fun B => S.augi A I o B else none) = some A := h
      split at h <;> try contradiction
      rename_i hs
      obtain ⟨bo, e2, h⟩ := Option.bind_eq_some_iff.mp h
      obtain ⟨A1, e1, h⟩ := Option.bind_eq_some_iff.mp h
      obtain ⟨I1, e4, h⟩ := Option.bind_eq_some_iff.mp h
      obtain ⟨B, e3, rfl⟩ := Option.map_eq_some_iff.mp h
      rw [opb_bo e2]
      exact s_augi (Sn.e C e1) (Sn.e C e4) (Sn.e C e3) (by cases i <;> first | (intro _ _ _; rfl) | cases hs)
    | _ => cases h
  | Assign tgs e pos =>
    match tgs, h with
    | [tg], h => exact snd_asg C Z h
    | [], h => cases h
    | _ :: _ :: _, h => cases h
  | _ => cases h
theorem sndS : ∀ n, SndS π W lv L n
  | 0 => ⟨fun _ _ h => (by cases h), fun _ _ h => (by cases h)⟩
  | n + 1 => let R := sndS n; ⟨snd_s R, snd_ss R⟩
end
end IX
end

section
set_option Elab.async false
set_option autoImplicit false
set_option linter.all false
set_option maxRecDepth 100000
set_option maxHeartbeats 4000000
/-! A def called with less tracked; all defs of a program, by depth. -/
namespace IX
open PySem PySem.Spec PyProof.Rows L2 GX
/-- what is kept -/
def Few (bs : List Addr) (H : Hp) : Hp := fun b => if b ∈ bs then H b else none
def FewOk (bs : List Addr) (H : Hp) : Prop := ∀ b ∈ bs, H b = none ∨ (∃ ps, H b = some (.tbl ps)) ∨ (∃ xs, H b = some (.lst xs)) ∨ ∃ o xs, H b = some (.frz o (.lst xs))
theorem FnOk.few {P : Program} {w : World} {K : PySem.W.Frag} {mg : Str → Option Value} {base : Heap} {k : Nat} {f : Addr} {fd : FuncData} {ps : List Str} {sp sp' : Sp} (F : FnOk P w K mg base (L2.CX P w) k f fd ps sp)
    (h : ∀ vs H Q E, sp' vs H Q E → ∃ bs, FewOk bs H ∧ sp vs (Few bs H) (fun v _ => ∀ H', Q v H') (fun _ _ _ => False)) : FnOk P w K mg base (L2.CX P w) k f fd ps sp' := by
  refine ⟨fun vs H Q E q => let ⟨bs, _, q⟩ := h vs H Q E q; F.len _ _ _ _ q, fun A outer s H args us vs Q E hr e0 hb hv hs => ?_⟩
  obtain ⟨bs, fo, q⟩ := h vs H Q E hs
  have n0 : ∀ {b}, H b = none → Few bs H b = none := fun {b} e => by
    unfold Few
    split
    · exact e
    · rfl
  have e1 : Env0 P w K mg base A outer s (Few bs H) := by
    refine ⟨e0.frames, e0.mod, fun b o e => ⟨(e0.bs b o e).1, n0 (e0.bs b o e).2⟩, e0.bsz, e0.funs, fun b hb => n0 (e0.frf b hb), fun b u e => ?_, e0.bare⟩
    unfold Few at e
    split at e
    · rename_i hm
      have ok := e0.hok b u e
      rcases fo b hm with z | ⟨ps, z⟩ | ⟨xs, z⟩ | ⟨o, xs, z⟩
      · rw [z] at e; cases e
      · rw [z] at e; cases e; exact ok
      · rw [z] at e; cases e; exact ok
      · rw [z] at e; cases e; exact ok
    · cases e
  refine codeAny_mono (F.run A outer s (Few bs H) args us vs _ (fun _ _ _ => False) hr e1 hb hv q) fun r s' hq => ?_
  cases r with
  | error e =>
    obtain ⟨_, _, _, _, _, _, _, _, _, _, _, _, z⟩ := hq
    exact z.elim
  | ok fl =>
    cases fl with
    | next => exact hq
    | brk => exact hq
    | cont => exact hq
    | ret u =>
      obtain ⟨v, H1, os, bare, un, hok, rv, q1⟩ := hq
      have out : ∀ {b u}, H b = some u → b ∉ bs → H1 b = none ∧ ∀ o, s.heap.get? b = some o → s'.heap.get? b = some o := fun {b u} e hn => by
        have z : Few bs H b = none := if_neg hn
        obtain ⟨o, ho⟩ : ∃ o, s.heap.get? b = some o := by
          cases ho : s.heap.get? b with
          | none => rw [e0.hok.gone ho] at e; cases e
          | some o => exact ⟨o, rfl⟩
        have nf : b ∉ frs outer := fun hf => by rw [e0.frf b hf] at e; cases e
        exact ⟨un.free b o ho z (by simp), fun o' ho' => un.keep b o' ho' z nf (by simp)⟩
      let H2 : Hp := fun b => match H1 b with
        | some u => some u
        | none => if b ∈ bs then none else H b
      have in1 : ∀ {b u}, H1 b = some u → H2 b = some u := fun {b u} e => by show (match H1 b with | some u => some u | none => _) = _; rw [e]
      have in2 : ∀ {b u}, H b = some u → b ∉ bs → H2 b = some u := fun {b u} e hn => by
        show (match H1 b with | some u => some u | none => if b ∈ bs then none else H b) = _
        rw [(out e hn).1]
        exact (if_neg hn).trans e
      have ow : ∀ {b d}, H d = some (.own b) → d ∉ bs := fun {b d} e hm => by
        rcases fo d hm with z | ⟨_, z⟩ | ⟨_, z⟩ | ⟨_, _, z⟩ <;> (rw [z] at e; cases e)
      have tu : ∀ {d xs}, H d = some (.tup xs) → d ∉ bs := fun {d xs} e hm => by
        rcases fo d hm with z | ⟨_, z⟩ | ⟨_, z⟩ | ⟨_, _, z⟩ <;> (rw [z] at e; cases e)
      refine ⟨v, H2, os, bare, ⟨fun b o e n hf hx => un.keep b o e (n0 n) hf hx, fun b o e n hf hx => un.slot b o e (n0 n) hf hx, fun b o e n hx => ?_, un.there, fun b xs e => in2 e (tu e), fun b o u e => ?_, fun b ps e => ?_⟩, fun b u e => ?_, rv, q1 _⟩
      · show (match H1 b with | some u => some u | none => if b ∈ bs then none else H b) = none
        rw [un.free b o e (n0 n) hx, n]
        show (if b ∈ bs then none else none) = none
        split <;> rfl
      · by_cases hm : b ∈ bs
        · exact in1 (un.frzs b o u ((if_pos hm).trans e))
        · exact in2 e hm
      · by_cases hm : b ∈ bs
        · obtain ⟨more, z⟩ := un.tbls b ps ((if_pos hm).trans e)
          exact ⟨more, in1 z⟩
        · exact ⟨#[], by rw [in2 e hm]; simp⟩
      · cases e1 : H1 b with
        | some u' =>
          rw [in1 e1] at e
          cases e
          exact (hok b u e1).stay (fun d v _ q => q) (fun d q => in1 q) fun d xs q => in1 q
        | none =>
          have e : (match H1 b with | some u => some u | none => if b ∈ bs then none else H b) = some u := e
          rw [e1] at e
          have e : (if b ∈ bs then none else H b) = some u := e
          split at e
          · cases e
          · rename_i hm
            refine (e0.hok b u e).stay (fun d v hd q => ?_) (fun d q => in2 q (ow q)) fun d xs q => in2 q (tu q)
            rcases hd with z | z
            · rw [z] at q ⊢; exact (out e hm).2 v q
            · exact (out z (ow z)).2 v q
/-- how its arguments bind, by place -/
def BindAll (fd : FuncData) (ps : List Str) : Prop := ∀ (s : Shared) (us : List Value), us.length = ps.length → BindsTo s fd ⟨us, []⟩ (ps.zip us)
theorem BindAll.binds {K : PySem.W.Frag} {fd : FuncData} {ps : List Str} (b : BindAll fd ps) : Binds K fd ps [] := fun s us _ hl => by
  rw [List.append_nil] at hl ⊢
  exact b s us hl
/-- a def as it stands behind the top, and its translation -/
def DefIn (π : Pg) (Φ : Nat → Option Fn) (K : PySem.W.Frag) (mg : Str → Option Value) (n g : Nat) (x : Str) (i : Nat) (ps : List Str) (kss : List (List Str)) : Prop :=
  ∃ (f : Addr) (oc : Value) (od : Option Addr) (dV kV doc pm : Value) (an : Option Addr) (cdv ct : Value) (osl : Array (Option Value)) (params : Arguments) (body : List Stmt) (scope : Scope) (N : List Str) (c Pt : Addr) (fn : Fn),
    mg x = some (.ref f) ∧ PySem.W.keepIn K (.ref f) = true ∧ K.lookup f = some ⟨oc, od, .func (PySem.W.fnOf x x params body scope dV kV doc pm an cdv ct), osl⟩ ∧ PySem.W.codeIn K cdv x = true ∧ FnScope N ps scope ∧
    cdv = .ref c ∧ PySem.W.codeHdIn K c Pt = true ∧ BindAll (PySem.W.fnOf x x params body scope dV kV doc pm an cdv ct) ps ∧ (∀ ks ∈ kss, KBinds K (PySem.W.fnOf x x params body scope dV kV doc pm an cdv ct) ps ks (gKs ps ks) (gKs ps ks)) ∧
    i < XO ∧ Φ i = some fn ∧ fn.np = ps.length ∧ fn.ns = N.length ∧ trSs π n g N scope body = some fn.body
theorem all_fns {π : Pg} {Φ : Nat → Option Fn} {P : Program} {w : World} {K : PySem.W.Frag} {mg : Str → Option Value} {base : Heap} {n g L : Nat} (hK : K.In base) (bm : BmAt base mg) (blt : ∀ x ∈ bltN, mg x = none)
    (con : ∀ x p, π.G.lookup x = some p → ∃ u v, mg x = some u ∧ RelV v u ∧ ∀ H α, RP K H α p v)
    (exc : ∀ c fl, π.X.lookup c = some fl → ∃ C, ExcK K mg c fl C)
    (mkr : ∀ c fl, π.X.lookup c = some fl → ∀ X' : Cx, X'.prog = P → X'.w = w → X'.K = K → X'.mg = mg → X'.base = base → MkOk X' c fl)
    (defs : ∀ x i ps kss, π.F.lookup x = some (i, ps, kss) → DefIn π Φ K mg n g x i ps kss) :
    ∀ k x i ps kss, π.F.lookup x = some (i, ps, kss) → ∃ f fd, mg x = some (.ref f) ∧ PySem.W.keepIn K (.ref f) = true ∧ FnOk P w K mg base (L2.CX P w) ((g + 1) * k) f fd ps (spI K ps.length (evF Φ (Gf π) L k i)) ∧ FnOk P w K mg base (L2.CX P w) ((g + 1) * k) f fd ps (spX K mg π.X ps.length (evF Φ (Gf π) L k (i + XO))) ∧ BindAll fd ps ∧
      (∀ ks ∈ kss, KBinds K fd ps ks (gKs ps ks) (gKs ps ks)) ∧ ∃ oc od osl, K.lookup f = some ⟨oc, od, .func fd, osl⟩
  | 0, x, i, ps, kss, h => by
    obtain ⟨f, oc, od, dV, kV, doc, pm, an, cdv, ct, osl, params, body, scope, N, c, Pt, fn, h1, h2, h3, h4, h5, h6, h7, h8, h9, h14, h10, h11, h12, h13⟩ := defs x i ps kss h
    refine ⟨f, _, h1, h2, ⟨fun vs H Q E q => q.1, fun A outer s H args us vs Q E hr e0 hb hv hs => ?_⟩, ⟨fun vs H Q E q => q.1, fun A outer s H args us vs Q E hr e0 hb hv hs => ?_⟩, h8, h9, _, _, _, h3⟩
    · obtain ⟨_, α, ds, M, d, M', _, _, _, _, hw, _⟩ := hs
      cases hw
    · obtain ⟨_, α, ds, M, d, M', _, _, _, _, hw, _⟩ := hs
      cases hw
  | k + 1, x, i, ps, kss, h => by
    obtain ⟨f, oc, od, dV, kV, doc, pm, an, cdv, ct, osl, params, body, scope, N, c, Pt, fn, h1, h2, h3, h4, h5, h6, h7, h8, h9, h14, h10, h11, h12, h13⟩ := defs x i ps kss h
    have ih := all_fns (P := P) (w := w) (L := L) hK bm blt con exc mkr defs k
    have lev : (g + 1) * (k + 1) = ((g + 1) * k + g) + 1 := by rw [Nat.mul_succ]; omega
    have body_ok : ∀ (A : Around) (outer : List PySem.Env) (s : Shared) (H : Hp) (E : XK), Room ((g + 1) * k + g) (A.deeper (envOfC x scope s.heap.objs.size f cdv)) →
      PSs (cxOf (L2.CX P w) P w K mg base N x scope f cdv A outer s H E) body (tS (cxOf (L2.CX P w) P w K mg base N x scope f cdv A outer s H E) ⟨π.X, fun cls d _ H => E cls d H⟩ (evSs (evF Φ (Gf π) L k) (Gf π) L fn.body)) := fun A outer s H E hr => by
      refine (sndS (π := π) (W := evF Φ (Gf π) L k) (lv := (g + 1) * k) (L := L) n |>.ss (g := g) (N := N) (sc := scope) ⟨rfl, rfl, h5.nd, hr, rfl, bm, blt, con, fun x i ps kss hx => ?_, exc, fun c fl hc X' => mkr c fl hc X'⟩ ⟨takes_of rfl rfl rfl rfl, rfl, rfl, fun x hx => ⟨loc_ok hx, .inl rfl⟩, h5.kind, passes_of rfl⟩ h13)
      obtain ⟨f, fd, a1, a2, a3, a6, a4, a5, _⟩ := ih x i ps kss hx
      exact ⟨f, fd, a1, a2, a3, a6, a4.binds, a5⟩
    refine ⟨f, _, h1, h2, ?_, ?_, h8, h9, _, _, _, h3⟩
    · rw [lev]
      refine fn_I h3 h4 h5 hK h6 h7 (fb := evSs (evF Φ (Gf π) L k) (Gf π) L fn.body) (fun ds M d M' hl hw => ?_) body_ok
      have hw : (if XO ≤ i then (Φ (i - XO)).bind fun fn => if ds.length = fn.np then (evSs (evF Φ (Gf π) L k) (Gf π) L fn.body (entry fn ds) M).bind finx else none
        else (Φ i).bind fun fn => if ds.length = fn.np then (evSs (evF Φ (Gf π) L k) (Gf π) L fn.body (entry fn ds) M).bind fin else none) = some (d, M') := hw
      rw [if_neg (by omega), h10] at hw
      have hw : (if ds.length = fn.np then (evSs (evF Φ (Gf π) L k) (Gf π) L fn.body (entry fn ds) M).bind fin else none) = some (d, M') := hw
      split at hw <;> try contradiction
      obtain ⟨o, e1, e2⟩ := Option.bind_eq_some_iff.mp hw
      refine ⟨o, ?_, e2⟩
      unfold entry at e1
      rw [h11, h12] at e1
      exact e1
    · rw [lev]
      refine fn_X h3 h4 h5 hK h6 h7 (fb := evSs (evF Φ (Gf π) L k) (Gf π) L fn.body) (fun ds M d M' hl hw => ?_) body_ok
      have hw : (if XO ≤ i + XO then (Φ (i + XO - XO)).bind fun fn => if ds.length = fn.np then (evSs (evF Φ (Gf π) L k) (Gf π) L fn.body (entry fn ds) M).bind finx else none
        else (Φ (i + XO)).bind fun fn => if ds.length = fn.np then (evSs (evF Φ (Gf π) L k) (Gf π) L fn.body (entry fn ds) M).bind fin else none) = some (d, M') := hw
      rw [if_pos (by omega), show i + XO - XO = i by omega, h10] at hw
      have hw : (if ds.length = fn.np then (evSs (evF Φ (Gf π) L k) (Gf π) L fn.body (entry fn ds) M).bind finx else none) = some (d, M') := hw
      split at hw <;> try contradiction
      obtain ⟨o, e1, e2⟩ := Option.bind_eq_some_iff.mp hw
      refine ⟨o, ?_, e2⟩
      unfold entry at e1
      rw [h11, h12] at e1
      exact e1
end IX
end

section
set_option Elab.async false
set_option autoImplicit false
set_option linter.all false
set_option maxRecDepth 100000
set_option maxHeartbeats 4000000
/-! The end of a law row. -/
namespace IX
open PySem PySem.Spec PyProof.Rows L2 GX
theorem paired_get {A B : Type} {R : A → B → Prop} : ∀ {xs : List A} {ys : List B} {i : Nat}, Paired R xs ys → (xs[i]? = none ∧ ys[i]? = none) ∨ ∃ x y, xs[i]? = some x ∧ ys[i]? = some y ∧ R x y
  | _, _, i, .nil => .inl (by simp)
  | _, _, 0, .cons r _ => .inr ⟨_, _, rfl, rfl, r⟩
  | _, _, i + 1, .cons _ t => by simpa using paired_get (i := i) t
theorem getAll_pair {A B : Type} {R : A → B → Prop} {xs : List A} {ys : List B} (h : Paired R xs ys) : ∀ is : List Nat, (getAll xs is = none ∧ getAll ys is = none) ∨ ∃ us vs, getAll xs is = some us ∧ getAll ys is = some vs ∧ Paired R us vs
  | [] => .inr ⟨[], [], rfl, rfl, .nil⟩
  | i :: is => by
    show ((xs[i]? >>= fun x => getAll xs is >>= fun rs => some (x :: rs)) = none ∧ (ys[i]? >>= fun x => getAll ys is >>= fun rs => some (x :: rs)) = none) ∨ ∃ us vs, (xs[i]? >>= fun x => getAll xs is >>= fun rs => some (x :: rs)) = some us ∧ (ys[i]? >>= fun x => getAll ys is >>= fun rs => some (x :: rs)) = some vs ∧ Paired R us vs
    rcases paired_get (i := i) h with ⟨e1, e2⟩ | ⟨x, y, e1, e2, r⟩
    · rw [e1, e2]; exact .inl ⟨rfl, rfl⟩
    · rw [e1, e2]
      rcases getAll_pair h is with ⟨e3, e4⟩ | ⟨us, vs, e3, e4, p⟩
      · rw [e3, e4]; exact .inl ⟨rfl, rfl⟩
      · rw [e3, e4]; exact .inr ⟨x :: us, y :: vs, rfl, rfl, .cons r p⟩
theorem gKs_rel {ps ks : List Str} {vs zs : List V} {us ws : List Value} (h : Vals vs us) (h2 : Vals zs ws) : Vals (gKs ps ks vs zs) (gKs ps ks us ws) := by
  cases h with
  | nil =>
    show Vals ((getAll zs (ixOf ps ks)).getD []) ((getAll ws (ixOf ps ks)).getD [])
    rcases getAll_pair h2 (ixOf ps ks) with ⟨e1, e2⟩ | ⟨us, vs, e1, e2, p⟩
    · rw [e1, e2]; exact .nil
    · rw [e1, e2]; exact p
  | cons _ _ => exact .nil
/-- a def of the text, told by the head -/
theorem def_in {π : Pg} {Φ : Nat → Option Fn} {K : PySem.W.Frag} {mg : Str → Option Value} {n g : Nat} {x : Str} {i : Nat} {ps : List Str} {kss : List (List Str)} {params : Arguments} {body : List Stmt} {scope : Scope} {fd : FuncData} {N : List Str} {fn : Fn}
    (F : FunD K x x params body scope [] [] (He.fAd K (x, none)) fd) (hm : mg x = some (.ref (He.ga K x))) (hct : PySem.W.codeHdIn K (He.cT K (x, none)).1 (He.cT K (x, none)).2 = true) (S : FnScope N ps scope) (hps : ps ≠ [])
    (hb : ∀ (kV doc pm : Value) (an : Option Addr) (cdv ct : Value) (us : List Value), us.length = ps.length → bindArgs (PySem.W.fnOf x x params body scope .none kV doc pm an cdv ct) ⟨us, []⟩ = pure (ps.zip us))
    (hkb : ∀ ks ∈ kss, ∀ (kV doc pm : Value) (an : Option Addr) (cdv ct : Value) (ws : List Value), (gKs ps ks [] ws).length = ps.length → bindArgs (PySem.W.fnOf x x params body scope .none kV doc pm an cdv ct) ⟨[], ks.zip ws⟩ = pure (ps.zip (gKs ps ks [] ws)))
    (hi : i < XO) (h1 : Φ i = some fn) (h2 : fn.np = ps.length) (h3 : fn.ns = N.length) (h4 : trSs π n g N scope body = some fn.body) : DefIn π Φ K mg n g x i ps kss := by
  obtain ⟨oc, od, dV, kV, doc, pm, an, cdv, ct, osl, rfl, lk, hcd, hD, _⟩ := F.ex
  have hdV : dV = .none := by
    rcases hD with ⟨_, e⟩ | ⟨e, _⟩
    · exact e
    · exact absurd rfl e
  subst hdV
  obtain ⟨c, rfl⟩ := He.codeIn_ref hcd
  have hc : He.codeOf K (x, none) = c := He.codeOf_eq lk rfl
  have hct : PySem.W.codeHdIn K (He.codeOf K (x, none)) (He.tabOf K (He.codeOf K (x, none))) = true := hct
  rw [hc] at hct
  refine ⟨_, oc, od, .none, kV, doc, pm, an, .ref c, ct, osl, params, body, scope, N, c, _, fn, hm, F.kp, lk, hcd, S, rfl, hct, fun s us hl => .of_eq (hb kV doc pm an _ ct us hl), fun ks hks => ⟨fun s us ws _ hl => ?_, fun a b => gKs_rel a b⟩, hi, h1, h2, h3, h4⟩
  cases us with
  | nil => exact .of_eq (hkb ks hks kV doc pm an _ ct ws hl)
  | cons u us =>
    have hl : 0 = ps.length := hl
    exact absurd (List.length_eq_zero_iff.mp hl.symm) hps
/-- every code object with a table is one of tf -/
def exT (tf : List He.Defn) (K : PySem.W.Frag) : Bool := K.all fun q => !(PySem.W.codeHdIn K q.1 (He.tabOf K q.1)) || tf.any fun p => decide (He.codeOf K p = q.1)
theorem codeHd_tab {K : PySem.W.Frag} {c Pt : Addr} (h : PySem.W.codeHdIn K c Pt = true) : He.tabOf K c = Pt ∧ ∃ o, K.lookup c = some o := by
  unfold PySem.W.codeHdIn at h
  split at h
  · rename_i vs sl hk
    simp only [Bool.and_eq_true] at h
    obtain ⟨⟨⟨⟨⟨h1, _⟩, _⟩, _⟩, _⟩, _⟩ := h
    split at h1
    · rename_i P' h11
      have hP : P' = Pt := beq_iff_eq.mp h1
      subst hP
      refine ⟨?_, _, hk⟩
      unfold He.tabOf
      rw [hk]
      show (match vs.getD 11 Value.none with | .ref P => P | _ => 0) = _
      rw [Array.getD_eq_getD_getElem?, h11]
      rfl
    · cases h1
  · cases h
theorem ex_trk {tf : List He.Defn} {K : PySem.W.Frag} (h : exT tf K = true) {c Pt : Addr} (hc : PySem.W.codeHdIn K c Pt = true) : ∃ p ∈ tf, (He.cT K p).2 = Pt := by
  obtain ⟨ht, o, hk⟩ := codeHd_tab hc
  have := List.all_eq_true.mp h (c, o) (He.lookup_mem hk)
  simp only [ht, hc, Bool.not_true, Bool.false_or, List.any_eq_true, decide_eq_true_eq] at this
  obtain ⟨p, hp, e⟩ := this
  exact ⟨p, hp, by show He.tabOf K (He.codeOf K p) = Pt; rw [e]; exact ht⟩
theorem rps_ints {K : PySem.W.Frag} {H : Hp} {α : List Addr} : ∀ ns : List Int, RPs K H α (ns.map P.int) (ns.map V.int)
  | [] => by unfold RPs; trivial
  | i :: ns => by
    show RPs K H α (_ :: _) (_ :: _)
    unfold RPs
    exact ⟨by unfold RP; rfl, rps_ints ns⟩
theorem lookup_in {A : Type} {x : Str} {y : A} : ∀ {l : List (Str × A)}, l.lookup x = some y → (x, y) ∈ l
  | [], h => by simp at h
  | (a, b) :: l, h => by
    rw [List.lookup_cons] at h
    split at h
    · rename_i e
      cases h
      rw [beq_iff_eq.mp e]
      exact List.mem_cons_self
    · exact List.mem_cons_of_mem _ (lookup_in h)
/-- the law's end -/
theorem law_at {l : PySem.W.OpenLaw} {w : World} {K : PySem.W.Frag} {mg : Str → Option Value} {fa : Addr} {h : Heap} {π : Pg} {Φ : Nat → Option Fn} {n g L k most i : Nat} {fs : List He.Fa} {fn : List He.DefD} {ts : List He.Tab} {tf : List He.Defn} {ex : PySem.W.Frag → Bool}
    (KX : K.In h) (c : He.SaysX fs fn ts tf ex w h K) (hex : exT tf K = true) (hmg : mg ("law" : Str) = some (.ref fa)) (htf : tf ≠ [])
    (blt : ∀ x ∈ bltN, mg x = none) (con : ∀ x p, π.G.lookup x = some p → ∃ u v, mg x = some u ∧ RelV v u ∧ ∀ H α, RP K H α p v)
    (exc : ∀ c fl, π.X.lookup c = some fl → ∃ C, ExcK K mg c fl C)
    (mkr : ∀ (base : Heap), K.In base → BmAt base mg → ∀ c fl, π.X.lookup c = some fl → ∀ X' : Cx, X'.prog = l.prog → X'.w = w → X'.K = K → X'.mg = mg → X'.base = base → MkOk X' c fl)
    (defs : ∀ x i ps kss, π.F.lookup x = some (i, ps, kss) → DefIn π Φ K mg n g x i ps kss) {kss : List (List Str)} (hlaw : π.F.lookup ("law" : Str) = some (i, [("script" : Str)], kss))
    (run : ∀ ns : List Int, ns.length ≤ most → (∀ z ∈ ns, Builtin.Int.intBits z ≤ 1048576) → ∃ M', evF Φ (Gf π) L k i [.scr (ns.map P.int)] [] = some (.p (.bl true), M')) :
    LamX.LawAtS l w K (L2.CX l.prog w) ((g + 1) * k) most "script" mg fa h := by
  obtain ⟨f0, oc, od, dV, kV, doc, pm, an, cdv, ct, osl, params, body, scope, N, cc, Pt, fn0, h1, h2, h3, h4, h5, h6, h7, h8, h9, h10⟩ := defs _ _ _ _ hlaw
  have e0 : f0 = fa := by rw [hmg] at h1; cases h1; rfl
  subst e0
  refine ⟨PySem.W.fnOf "law" "law" params body scope dV kV doc pm an cdv ct, tf.map (He.cT K), fun vs H Q E => ∃ bs, FewOk bs H ∧ spI K 1 (evF Φ (Gf π) L k i) vs (Few bs H) (fun v _ => ∀ H', Q v H') E, ?_, ?_, ?_, fun s u => h8 s [u] rfl, ?_, ?_⟩
  · intro p hp
    obtain ⟨q, hq, rfl⟩ := List.mem_map.mp hp
    exact c.empty q hq
  · intro p hp
    obtain ⟨q, hq, rfl⟩ := List.mem_map.mp hp
    exact c.out q hq
  · intro p hp
    obtain ⟨q, hq, rfl⟩ := List.mem_map.mp hp
    exact PySem.W.codeHd_of_K KX (c.hd q hq)
  · intro H a ns hl hbits hT hS
    obtain ⟨M', hrun⟩ := run ns hl hbits
    have inT : ∀ {b}, b ∈ (tf.map (He.cT K)).map (·.2) → H b = some (.tbl #[]) := fun {b} hb => by
      obtain ⟨p, hp, rfl⟩ := List.mem_map.mp hb
      exact hT p hp
    have main : ∀ bs : List Addr, (∀ b ∈ (tf.map (He.cT K)).map (·.2), b ∈ bs) → (∀ b ∈ bs, b ∈ (tf.map (He.cT K)).map (·.2) ∨ (∃ xs, H b = some (.lst xs)) ∨ ∃ o xs, H b = some (.frz o (.lst xs))) →
        ((Rd (Few bs H) a (.lst (ns.map V.int)) ∧ a ∉ ([] : List Addr)) ∨ SqL K (fun _ => none) a (ns.map V.int)) →
        ∃ bs, FewOk bs H ∧ spI K 1 (evF Φ (Gf π) L k i) [.ref a] (Few bs H) (fun v _ => ∀ _ : Hp, v = .bl true) fun _ _ _ => False := fun bs hi ho hs => by
      refine ⟨bs, fun b hb => ?_, rfl, [], [.scr (ns.map P.int)], [], _, _, ⟨List.nodup_nil, rfl, fun i a xs e => by simp at e⟩, fun Pt ps e => ?_, fun cd Pt hc => ?_, ⟨⟨a, _, rfl, hs, rps_ints ns⟩, trivial⟩, hrun, fun v H' α' _ rd _ => rd⟩
      · rcases ho b hb with z | ⟨xs, z⟩ | ⟨o, xs, z⟩
        · exact .inr (.inl ⟨_, inT z⟩)
        · exact .inr (.inr (.inl ⟨xs, z⟩))
        · exact .inr (.inr (.inr ⟨o, xs, z⟩))
      · have e : (if Pt ∈ bs then H Pt else none) = some (.tbl ps) := e
        split at e
        · rename_i hm
          rcases ho Pt hm with z | ⟨xs, z⟩ | ⟨o, xs, z⟩
          · rw [inT z] at e
            cases e
            exact ⟨(show TriplesOk [] from trivial), fun pos cv z => by cases z⟩
          · rw [z] at e; cases e
          · rw [z] at e; cases e
        · cases e
      · obtain ⟨p, hp, rfl⟩ := ex_trk hex hc
        have hm : (He.cT K p).2 ∈ (tf.map (He.cT K)).map (·.2) := List.mem_map.mpr ⟨_, List.mem_map.mpr ⟨p, hp, rfl⟩, rfl⟩
        exact ⟨#[], (if_pos (hi _ hm)).trans (inT hm)⟩
    rcases hS with hS | hS
    · refine main ((tf.map (He.cT K)).map (·.2) ++ [a]) (fun b hb => List.mem_append_left _ hb) (fun b hb => ?_) (.inl ⟨?_, by simp⟩)
      · rcases List.mem_append.mp hb with z | z
        · exact .inl z
        · rw [List.mem_singleton.mp z]
          rcases hS with z | ⟨o, z⟩
          · exact .inr (.inl ⟨_, z⟩)
          · exact .inr (.inr ⟨o, _, z⟩)
      · rcases hS with z | ⟨o, z⟩
        · exact .inl ((if_pos (by simp)).trans z)
        · exact .inr ⟨o, (if_pos (by simp)).trans z⟩
    · exact main ((tf.map (He.cT K)).map (·.2)) (fun b hb => hb) (fun b hb => .inl hb) (.inr (.inr hS))
  · intro base hKb hns hTB
    have bm : BmAt base mg := by
      obtain ⟨p, hp⟩ := List.exists_mem_of_ne_nil tf htf
      obtain ⟨bm, o, b1, b2, b3, b4, b5, b6, b7, b8⟩ := (hTB _ (List.mem_map.mpr ⟨p, hp, rfl⟩)).bm
      exact ⟨bm, o, b1, b2, b5, b6, b7, b8⟩
    obtain ⟨f, fd, a1, a2, a3, _, a4, a5, oc2, od2, osl2, a6⟩ := all_fns (P := l.prog) (w := w) (L := L) hKb bm blt con exc (mkr base hKb bm) defs k _ _ _ _ hlaw
    rw [hmg] at a1
    cases a1
    rw [h3] at a6
    cases a6
    exact FnOk.few a3 fun vs H Q E q => q
/-- an exception class without fields -/
theorem exc0_ok {K : PySem.W.Frag} {mg : Str → Option Value} {c : Str} (g : mg c = some (.ref (He.ga K c))) (h : (He.Fa.exc c).ok K = true) (hm : (He.Fa.exm c c true).ok K = true) : ∃ C, ExcK K mg c [] C := by
  have h : (PySem.W.excIn K (He.ga K c) He.veBase "ValueError.__new__" && (PySem.W.keepIn K (.ref (He.ga K c)) && (decide (PySem.W.subIn K (.ref (He.ga K c)) (.type "BaseException") = some true) && decide (PySem.W.typeIn K (.ref (He.ga K c)) = some (.type "type"))))) = true := h
  simp only [Bool.and_eq_true, decide_eq_true_eq] at h
  obtain ⟨h1, h2, h3, h4⟩ := h
  exact ⟨_, g, h2, h3, h4, of_decide_eq_true hm, fun _ => h1, fun z => absurd rfl z⟩
theorem mk_none {X : List (Str × List Str)} (hX : X.all (fun q => q.2.isEmpty) = true) {c : Str} {fl : List Str} (hc : X.lookup c = some fl) {l : PySem.W.OpenLaw} {w : World} {K : PySem.W.Frag} {mg : Str → Option Value} {base : Heap} :
    ∀ X' : Cx, X'.prog = l.prog → X'.w = w → X'.K = K → X'.mg = mg → X'.base = base → MkOk X' c fl := fun X' _ _ _ _ _ hne => by
  have := List.all_eq_true.mp hX (c, fl) (lookup_in hc)
  simp at this
  exact absurd this hne
end IX
end

section
set_option Elab.async false
set_option autoImplicit false
set_option linter.all false
set_option maxRecDepth 100000
set_option maxHeartbeats 4000000
/-! Making an exception that has fields: its __init__ says super().__init__(f'..'), then sets the fields. -/
namespace IX
open PySem PySem.Spec PyProof.Rows L2 GX
/-! ### the text of such a class, looked at -/
def partB (fl : List Str) : Expr → Bool
  | .Constant (.str x) _ _ => decide (x.length ≤ 1000)
  | .FormattedValue (.Name x _) c none _ => fl.contains x && c == -1
  | _ => false
def asgB : List Str → List Stmt → Bool
  | [], [] => true
  | f :: fl, .Assign [.Attribute (.Name s _) f' _] (.Name g _) _ :: r => s == ("self" : Str) && f' == f && g == f && asgB fl r
  | _, _ => false
def bodyB (fl : List Str) : List Stmt → Bool
  | .Expr (.Call (.Attribute (.Call (.Name s _) [] [] _) m p2) [.JoinedStr (v1 :: v2 :: parts) _] [] p3) _ :: rest => p2.endLine == p3.line && s == ("super" : Str) && m == ("__init__" : Str) && (v1 :: v2 :: parts).all (partB fl) && decide (parts.length ≤ 8) && asgB fl rest
  | _ => false
def argB (ps : List Str) (a : Arguments) : Bool := a.posonlyargs.isEmpty && a.args.map (·.arg) == ps && a.vararg.isNone && a.kwonlyargs.isEmpty && a.kw_defaults.isEmpty && a.kwarg.isNone && a.defaults.isEmpty
def fileB (P : Program) (K : PySem.W.Frag) (cd : Addr) : Bool := match K.lookup cd with
  | some ⟨_, _, .fields vs, _⟩ => (match (vs[2]? : Option Value) with
    | some (Value.str file _) => (P.main.file : Str) == file
    | _ => false)
  | _ => false
def cellB (K : PySem.W.Frag) (cc C : Addr) : Bool := match K.lookup cc with
  | some ⟨_, _, .cell (some (.ref D)), _⟩ => D == C
  | _ => false
def defB (P : Program) (K : PySem.W.Frag) (C : Addr) (fl : List Str) (fd : FuncData) : Bool := match fd.body, fd.closure, fd.code, fd.defaults with
  | .stmts body, [(x, cc)], .ref cd, .none => x == ("__class__" : Str) && bodyB fl body && NdefX.nscB (("self" : Str) :: fl ++ [("__class__" : Str)]) (("self" : Str) :: fl) [("__class__" : Str)] fd.scope && argB (("self" : Str) :: fl) fd.params && fd.globals == mainGlobals && fd.builtins == builtinsNs &&
    PySem.W.codeIn K (.ref cd) fd.qualname && fileB P K cd && cellB K cc C && decide (fd.scope.names.lookup ("super" : Str) = some .globalImplicit)
  | _, _, _, _ => false
def clsB (K : PySem.W.Frag) (C : Addr) : Bool := match K.lookup C with
  | some ⟨.type "type", _, .cls cd, sl⟩ => (match cd.mro, sl.toList with
    | .ref C' :: bm, [_, _, _, _, some (.builtin n), _] => C' == C && n == "ValueError.__new__" && !cd.hasDel && cd.hasDict && PySem.HandSPX.refsVE bm
    | _, _ => false)
  | _ => false
def lookB (K : PySem.W.Frag) (C fI : Addr) (fl : List Str) : Bool :=
  decide (PySem.W.findIn K (.ref C) "__setattr__" = some (some (.builtin "object.__setattr__"))) && decide (PySem.W.subIn K (.ref C) (.type "BaseException") = some true) && decide (PySem.W.typeIn K (.ref C) = some (.type "type")) && PySem.W.keepIn K (.ref C) &&
  decide (PySem.W.exmOne K (.ref C) (.ref C) = some true) && L2.xfB K C && fl.all (fun f => decide (PySem.W.findIn K (.ref C) f = some none)) && decide (PySem.W.subIn K (.ref C) (.type "ValueError") = some true) &&
  decide (PySem.W.ks_superIn K C C "__init__" = some (some (.builtin "ValueError.__init__"))) && decide (PySem.W.mroIn K C (.ref C) = some true) && decide (PySem.W.nsIn K cStatics "thirdparty.any" = some none) &&
  decide (PySem.W.findIn K (.ref C) "__init__" = some (some (.ref fI))) && decide (PySem.W.typeIn K (.ref fI) = some (.type "function")) && decide (PySem.W.nsIn K mainGlobals "super" = some none)
def excB (P : Program) (K : PySem.W.Frag) (c : Str) (fl : List Str) : Bool :=
  decide (fl.length = 1 ∨ fl.length = 2) && decide fl.Nodup && fl.all okName && (P.main.scope.names.lookup ("super" : Str)).isNone && clsB K (He.ga K c) && lookB K (He.ga K c) (He.ma K (He.ga K c) "__init__") fl &&
  (match K.lookup (He.ma K (He.ga K c) "__init__") with
    | some ⟨_, _, .func fd, _⟩ => defB P K (He.ga K c) fl fd
    | _ => false)

/-! ### readings -/
/-- a field's value -/
def smV : V → Bool
  | .int i => decide (i.natAbs < 18446744073709551616)
  | .str s => decide (s.length ≤ 1000)
  | _ => false
def smVs (l : List V) : Bool := l.all smV
theorem sm_ok {K : PySem.W.Frag} {H : Hp} {α : List Addr} : ∀ {xs : List P} {vs : List V}, RPs K H α xs vs → smallPs xs = true → smVs vs = true
  | [], [], _, _ => rfl
  | x :: xs, v :: vs, h, hs => by
    unfold RPs at h
    have hs : (smallP x && smallPs xs) = true := hs
    rw [Bool.and_eq_true] at hs
    show (smV v && smVs vs) = true
    rw [Bool.and_eq_true]
    refine ⟨?_, sm_ok h.2 hs.2⟩
    have h1 := h.1
    have hs1 := hs.1
    cases x with
    | int i => unfold RP at h1; subst h1; exact hs1
    | str s => unfold RP at h1; subst h1; exact hs1
    | _ => cases hs1
  | [], _ :: _, h, _ => by unfold RPs at h; exact h.elim
  | _ :: _, [], h, _ => by unfold RPs at h; exact h.elim
/-- the names and what they hold -/
structure Hold (X : Cx) (σ : L2.St) (f : Str) (v : V) : Prop where
  at_ : ∃ i : Nat, X.N[i]? = some f ∧ σ[i]? = some (some v)
  vis : Vis X.env.scope f
  nd : (f == ("__debug__" : Str)) = false
  nc : (f == ("__classdict__" : Str)) = false
theorem Hold.run {X : Cx} {σ : L2.St} {f : Str} {v : V} {pos : Pos} (h : Hold X σ f v) : ∃ i, PE X (.Name f pos) (tVar i) ∧ ∀ H Q, Q v H → tVar i σ H Q := by
  obtain ⟨i, h1, h2⟩ := h.at_
  exact ⟨i, pe_var h1 h.vis h.nd h.nc, fun H Q q => ⟨v, h2, q⟩⟩
section
variable {X : Cx} {fl : List Str} {σ : L2.St}
theorem js_ok (hf : ∀ f ∈ fl, ∃ v, Hold X σ f v ∧ smV v = true) : ∀ (es : List Expr), es.all (partB fl) = true → ∃ ts, PJ X es ts ∧ ∀ (acc : Str) (H : Hp) (Q : Str → Hp → Prop), acc.length + 1000 * es.length ≤ 100000 → (∀ out, Q out H) → tJs ts acc σ H Q
  | [], _ => ⟨[], .nil, fun acc H Q _ q => q acc⟩
  | e :: es, h => by
    rw [List.all_cons, Bool.and_eq_true] at h
    obtain ⟨ts, h1, h2⟩ := js_ok hf es h.2
    obtain ⟨t, p1, p2⟩ : ∃ t, PE X e t ∧ ∀ (H : Hp) (Q : VK), (∀ y : Str, y.length ≤ 1000 → Q (.str y) H) → t σ H Q := by
      have h0 := h.1
      unfold partB at h0
      split at h0
      · exact ⟨_, pe_str, fun H Q q => q _ (by simpa using h0)⟩
      · rename_i x p1 c p2
        simp only [Bool.and_eq_true, beq_iff_eq] at h0
        obtain ⟨hx, rfl⟩ := h0
        obtain ⟨v, hh, hs⟩ := hf x (by simpa using hx)
        obtain ⟨i, q1, q2⟩ := hh.run (pos := p1)
        refine ⟨_, pe_fmt q1, fun H Q q => q2 H _ ?_⟩
        cases v with
        | int i =>
          have hs : i.natAbs < 18446744073709551616 := by simpa [smV] using hs
          have hl : i.natAbs.log2 < 64 := by
            rcases Nat.eq_zero_or_pos i.natAbs with z | z
            · rw [z]; decide
            · exact (Nat.log2_lt (by omega)).mpr (by simpa using hs)
          refine .inr ⟨i, rfl, by omega, q _ ?_⟩
          have e := int_text_length_le (k := 64) (by decide) hl
          show (Str.ofString (toString i)).length ≤ 1000
          rw [PySem.ofString_length]
          omega
        | str s =>
          have hs : s.length ≤ 1000 := by simpa [smV] using hs
          exact .inl ⟨s, rfl, by rw [sizeLine_eq]; omega, q s hs⟩
        | _ => cases hs
      · cases h0
    refine ⟨t :: ts, .cons p1 h1, fun acc H Q ha q => p2 H _ fun y hy => ⟨y, rfl, ?_, ?_⟩⟩
    · rw [Str.length_append, sizeLine_eq]
      rw [List.length_cons] at ha
      omega
    · refine h2 (acc ++ y) H Q ?_ q
      rw [Str.length_append]
      rw [List.length_cons] at ha
      omega
end
/-! ### super().__init__(e) -/
theorem excO_own {C t1 : Addr} : ({ cls := .ref C, dict := none, data := .fields #[.ref t1, .none, .none, .none, .bool false, .none] } : Obj) = PySem.W.excObj C t1 none .none := rfl
section
variable {X : Cx} {pins : List (Addr × Obj)} {σ : L2.St} {H : Hp} {s : Shared} {a C u : Addr}
theorem call_mw {us : List Value} {Q : Value → Shared → Prop} (T : OexC X.K C) (I : Inv X pins σ H s) (e : H a = some (exo a C none)) (hu : s.heap.get? u = some (PySem.W.kxs_mw "ValueError.__init__" a)) (hl : us.length ≤ sizeLine) (h : ∀ s', Inv X pins σ H s' → Q .none s') :
    wpAny (model X.prog X.w) X.A (call (.ref u) us) Q X.xe s := by
  obtain ⟨nm, q, N, bs, bm, sn, sub, ab, col, dd, k0, k1, k2, k3, k5, hC, hbm⟩ := T.cls
  obtain ⟨t1, ho⟩ := exo_at I.hok e
  have hCh := I.kIn _ _ hC
  obtain ⟨hp, g, d, t, os⟩ := s
  refine wpAny_call (codeAny_of_tree ?_)
  show wpAny _ X.A.in1 (callAny (.ref u) ⟨us, []⟩) _ _ _
  simp only [callAny]
  refine wpAny_bind (wpAny_load hu ?_)
  simp only [PySem.W.kxs_mw, show (Value.type "method-wrapper" == Value.type "method" || Value.type "method-wrapper" == Value.type "builtin_function_or_method" || Value.type "method-wrapper" == Value.type "method-wrapper") = true by decide, if_true]
  refine PySem.W.KFB.if_so (by decide) ?_
  refine wpAny_bind (PySem.W.check_bound_init F.excBase_ValueError.toExcCallFacts hCh ho rfl ?_)
  refine wpAny_bind (wpAny_pure (wpAny_pure ?_))
  refine ⟨plainId_quiet F.excBase_ValueError.init.plain _, codeAny_builtin F.excBase_ValueError.initEntry ?_⟩
  refine PySem.W.exc_init_tree (cls := .ref C) (t0 := t1) (dv := none) (c2 := .none) (c3 := .none) (b4 := .bool false) ho hl fun h' k hx _ => ?_
  have J := I.write (t' := t) (x := a) (e := a) (o := exo a C none) (by rw [e]; exact True.intro) (.inl rfl) k ⟨_, hx⟩ (exo_ok hx)
  have eu : upd H a (exo a C none) = H := by
    funext b
    by_cases hb : b = a
    · rw [hb, upd_same, e]
    · rw [upd_ne hb]
  rw [eu] at J
  exact h _ J
/-- what the text of __init__ says to the rule of super() -/
structure SupT (X : Cx) (C : Addr) : Prop where
  ks : X.env.kindOf "super" = some .globalImplicit
  kc : X.env.kindOf "__class__" = some .free
  fn : ∃ (f : Addr) (oc : Value) (od : Option Addr) (fd : FuncData) (osl : Array (Option Value)) (ar : Arg), X.env.func = some f ∧ X.K.lookup f = some ⟨oc, od, .func fd, osl⟩ ∧ (fd.params.posonlyargs ++ fd.params.args).head? = some ar ∧ ar.arg = "self"
  cd : ∃ (c : Addr) (oc : Value) (od : Option Addr) (vs : Array Value) (osl : Array (Option Value)) (file : Str) (tf : Tok), X.env.code = .ref c ∧ X.K.lookup c = some ⟨oc, od, .fields vs, osl⟩ ∧ vs[2]? = some (.str file tf) ∧ ((X.prog.main.file : Str) == file) = true
  top : (X.prog.main.scope.names.lookup ("super" : Str)).isSome = false
  cell : ∃ (cc : Addr) (oc : Value) (od : Option Addr) (osl : Array (Option Value)), X.env.cells.lookup ("__class__" : Str) = some cc ∧ X.K.lookup cc = some ⟨oc, od, .cell (some (.ref C)), osl⟩
  mg : X.mg "super" = none
  sl : X.env.kindOf "self" = some .local
  sN : X.N[0]? = some ("self" : Str)
  vis : Vis X.env.scope "self"
  inv : X.env.scope.kind = .function
  sup : PySem.W.ks_superIn X.K C C "__init__" = some (some (.builtin "ValueError.__init__"))
  ve : PySem.W.subIn X.K (.ref C) (.type "ValueError") = some true
  mro : PySem.W.mroIn X.K C (.ref C) = some true
  st : PySem.W.nsIn X.K cStatics "thirdparty.any" = some none
theorem eval_mc {env : PySem.Env} {o : Expr} {name : Str} {p2 p3 jp : Pos} {es : List Expr} (hline : (p2.endLine == p3.line) = true) : eval (.Call (.Attribute o name p2) [.JoinedStr es jp] [] p3) env = (do
      let ov ← attributeBase o name env (eval o env)
      standAt p2.atName
      let (f, first) ← holding [ov] (getMethod ov name (do return (← importBound o env).getD true))
      callWith p3 f first (backTo p3 (starEach [.JoinedStr es jp] env)) []) := by
  have hpos : methodCallPos true o env p2 p3 = pure p3 := by unfold methodCallPos; simp [hline]
  rw [arm_eval_Call]
  unfold methodCall
  have hform : methodCallForm ([Expr.JoinedStr es jp].length + ([] : List Keyword).length) (backTo p3 (starEach [.JoinedStr es jp] env)) (backToKw p3 (keywordEach [] env)) = true := by
    show (true && true && decide (0 + 1 + 0 + 0 < 30)) = true
    rfl
  rw [hform, hpos]
  rfl
theorem sup_init {body : List Stmt} {es : List Expr} {jp : Pos} {ta : TA} {p0 p1 p2 p3 p4 : Pos} {Q : Flow → Shared → Prop} (T : OexC X.K C) (S : SupT X C) (I : Inv X pins σ H s) (ea : H a = some (exo a C none)) (hs : σ[0]? = some (some (.ref a))) (ha : PA X [.JoinedStr es jp] ta)
    (hline : (p2.endLine == p3.line) = true) (hi : interactive X.env = false)
    (h : ta σ H fun vs H1 => vs.length ≤ 1000 ∧ H1 = H) (hq : ∀ s', Inv X pins σ H s' → Q .next s') :
    _root_.PySem.wpAt (model X.prog X.w) X.A (.func body X.env) (exec (.Expr (.Call (.Attribute (.Call (.Name "super" p0) [] [] p1) "__init__" p2) [.JoinedStr es jp] [] p3) p4) X.env) Q X.xe s := by
  have he : starEach ((.JoinedStr es jp) :: []) X.env = (false, eval (.JoinedStr es jp) X.env) :: starEach [] X.env := by rfl
  obtain ⟨f, foc, fod, fd, fosl, ar, hfu, hfK, har, hself⟩ := S.fn
  obtain ⟨c, coc, cod, vs, cosl, file, tf, hcode, hcK, hvs, hfile⟩ := S.cd
  obtain ⟨cc, ccoc, ccod, ccsl, hcl, hcell⟩ := S.cell
  obtain ⟨nm, q, N, bs, bm, sn, sub, ab, col, dd, k0, k1, k2, k3, k5, hC, hbm⟩ := T.cls
  have hcls : PySem.W.clsIn X.K C = some { name := nm, bases := bs, mro := .ref C :: bm, ns := N, qualname := q, hasDict := true, slotNames := sn, subclasses := sub, abstract := ab, collection := col, hasDel := false } := by unfold PySem.W.clsIn; rw [hC] <;> rfl
  obtain ⟨t1, ho⟩ := exo_at I.hok ea
  obtain ⟨m, hns, hl⟩ := I.loc
  obtain ⟨us, ru, hlook⟩ := hl 0 "self" (.ref a) S.sN hs S.vis
  obtain rfl : us = Value.ref a := ru
  have hv : m "self" = some (.ref a) := by
    rcases hlook with ⟨_, z⟩ | ⟨z, _⟩
    · exact z
    · rw [S.sl] at z
      rcases z with z | z <;> cases z
  obtain ⟨mb, hb1, hb2⟩ := I.mod.blt
  have hglob : s.heap.Ns X.env.globals X.mg := by rw [I.ok.glob]; exact I.mod.glob.keeps I.bk
  have hblt : s.heap.Ns X.env.builtins mb := by rw [I.ok.blt]; exact hb1.keeps I.bk
  have hinst : PySem.W.InstAt s.heap a { cls := .ref C, dict := none, data := .fields #[.ref t1, .none, .none, .none, .bool false, .none] } C none := ⟨ho, rfl, rfl, trivial⟩
  have hpl : (backTo p3 (starEach [] X.env)).any (·.1) = false := by rfl
  refine ks_wpAt_Expr_any (ks_wpAt_MethodCall ?_ (eval_mc hline)) hi
  refine ks_wpAt_super_base (env := X.env) S.ks S.kc (by decide) hfu (I.kIn _ _ hfK) rfl har hcode (I.kIn _ _ hcK) rfl hvs hfile S.top ?_
  refine PySem.W.ks_loadName_global S.inv S.ks (Calls.loadGlobal_builtin hglob S.mg hblt ((hb2 "super" (by decide)).trans (by rfl)) ⟨rfl, ?_⟩)
  refine wpAny_loadName_free S.inv S.kc hcl ⟨_, I.kIn _ _ hcell, rfl⟩ ?_
  rw [hself]
  refine wpAny_loadName_local S.inv S.sl hns hv ?_
  refine ks_wpAny_isType_cls (I.kIn _ _ hC) rfl ⟨rfl, ?_⟩
  obtain ⟨hh, g, d, t, os⟩ := s
  refine ks_wpAny_call_super (I.kIn _ _ hC) rfl ho rfl (fun c e => by cases e) (PySem.W.looks_mroIn I.kIn S.mro) (fun h1 e1 kp => ?_)
  have I1 : Inv X pins σ H ⟨h1, g, d, t, os⟩ := I.kept (t' := t) kp
  have hinst1 : PySem.W.InstAt h1 a { cls := .ref C, dict := none, data := .fields #[.ref t1, .none, .none, .none, .bool false, .none] } C none := ⟨kp _ _ ho, rfl, rfl, trivial⟩
  have hI : PySem.W.Looks (model X.prog X.w) h1 (isInstance (.ref a) (.type "ValueError")) true := hinst1.type.andThen (PySem.W.looks_subIn I1.kIn S.ve)
  have hsup := S.sup
  unfold PySem.W.ks_superIn at hsup
  rw [hcls] at hsup
  refine PySem.W.kxs_getMethod PySem.W.kxs_ValueError e1 (PySem.W.looks_opaque I1.kIn S.st) (l₀ := .ref C :: bm) (fun A Q E s k q => wpAny_bind ((PySem.W.looks_clsIn I1.kIn hcls) A _ E s k (wpAny_pure q))) rfl I1.kIn hsup hI (PySem.W.ks_ne I1.kIn hinst1 hcls) (by decide) ?_
  have I2 : Inv X ((h1.objs.size, PySem.W.kxs_mw "ValueError.__init__" a) :: pins) σ H ⟨h1.push (PySem.W.kxs_mw "ValueError.__init__" a), g, d, t + 1, os⟩ :=
    ClX.pin_new I1 (fun b o e => Heap.get?_push_of_some _ e) (Nat.le_refl _) (Heap.get?_push_size _ rfl) (fun v z => by cases z)
  rw [he]
  refine PySem.W.kxs_callWith (i := "ValueError.__init__") (x := a) (by show (false || (backTo p3 (starEach [] X.env)).any (·.1)) = false; rw [hpl]; rfl) (PySem.Calls.evalArgs_plain ?_)
  have := ha.run p3 _ _ σ H _ I2 h
  rw [he] at this
  refine thn this fun vs s3 ⟨ws, H3, I3, r3, hlen, e3⟩ => ?_
  subst e3
  refine ⟨ClX.pin_at I3, ?_⟩
  have hz : vs.length ≤ sizeLine := by
    rw [← Paired.length r3, sizeLine_eq]
    omega
  exact call_mw T I3 ea (ClX.pin_at I3) hz fun s' J => hq s' (ClX.unpin J)
end
/-! ### self.f = f, one behind the other -/
def Holds (X : Cx) (σ : L2.St) : List Str → List V → Prop
  | [], [] => True
  | f :: fl, w :: ws => Hold X σ f w ∧ Holds X σ fl ws
  | _, _ => False
theorem Holds.all {X : Cx} {σ : L2.St} : ∀ {fl : List Str} {ws : List V}, Holds X σ fl ws → smVs ws = true → ∀ f ∈ fl, ∃ v, Hold X σ f v ∧ smV v = true
  | [], [], _, _, f, hf => by simp at hf
  | g :: fl, w :: ws, h, hs, f, hf => by
    have hs : (smV w && smVs ws) = true := hs
    rw [Bool.and_eq_true] at hs
    rcases List.mem_cons.mp hf with rfl | hf
    · exact ⟨w, h.1, hs.1⟩
    · exact Holds.all h.2 hs.2 f hf
  | [], _ :: _, h, _, _, _ => h.elim
  | _ :: _, [], h, _, _, _ => h.elim
theorem upd_two {H : Hp} {a : Addr} {o u : HO} : upd (upd H a o) a u = upd H a u := by
  funext b
  by_cases hb : b = a
  · subst hb; rw [upd_same, upd_same]
  · rw [upd_ne hb, upd_ne hb, upd_ne hb]
theorem upd_id {H : Hp} {a : Addr} {o : HO} (h : H a = some o) : upd H a o = H := by
  funext b
  by_cases hb : b = a
  · rw [hb, upd_same, h]
  · rw [upd_ne hb]
theorem upd_sw {H : Hp} {a b : Addr} {o u : HO} (h : a ≠ b) : upd (upd H a o) b u = upd (upd H b u) a o := by
  funext c
  by_cases hb : c = b
  · subst hb; rw [upd_same, upd_ne (Ne.symm h), upd_same]
  · rw [upd_ne hb]
    by_cases ha : c = a
    · subst ha; rw [upd_same, upd_same]
    · rw [upd_ne ha, upd_ne ha, upd_ne hb]
section
variable {X : Cx} {pins : List (Addr × Obj)} {σ : L2.St} {a C dx : Addr} {Q : Flow → Shared → Prop}
theorem asg_cons_of {f : Str} {fl : List Str} {st : List Stmt} (h : asgB (f :: fl) st = true) : ∃ p1 p2 p3 p4 r, st = .Assign [.Attribute (.Name "self" p1) f p2] (.Name f p3) p4 :: r ∧ asgB fl r = true := by
  unfold asgB at h
  split at h
  · rename_i e; cases e
  · rename_i e
    simp only [Bool.and_eq_true, beq_iff_eq] at h
    obtain ⟨⟨⟨rfl, rfl⟩, rfl⟩, hr⟩ := h
    cases e
    exact ⟨_, _, _, _, _, rfl, hr⟩
  · cases h
theorem asg_nil_of {st : List Stmt} (h : asgB [] st = true) : st = [] := by
  cases st with
  | nil => rfl
  | cons _ _ => simp [asgB] at h
theorem asg_rest (T : OexC X.K C) (hself : Hold X σ "self" (.ref a)) (hda : dx ≠ a) : ∀ (fl : List Str) (ws : List V) (st : List Stmt) (H : Hp) (s : Shared) (fs : List (Str × V)), asgB fl st = true → Holds X σ fl ws → (∀ f ∈ fl, PySem.W.findIn X.K (.ref C) f = some none) →
    Inv X pins σ H s → H a = some (exo a C (some dx)) → H dx = some (exd dx fs) → fs.length + fl.length ≤ 900 → (∀ s', Inv X pins σ (upd H dx (exd dx ((fl.zip ws).reverse ++ fs))) s' → Q .next s') → wpAny (model X.prog X.w) X.A (execs st X.env) Q X.xe s := by
  intro fl
  induction fl with
  | nil =>
    intro ws st H s fs h hh hno I ea ed hl q
    rw [asg_nil_of h]
    refine wpAny_execs_nil (q s ?_)
    have e : upd H dx (exd dx ((([] : List Str).zip ws).reverse ++ fs)) = H := upd_id (by rw [ed]; rfl)
    rw [e]; exact I
  | cons f fl ih =>
    intro ws st H s fs h hh hno I ea ed hl q
    obtain ⟨p1, p2, p3, p4, r, rfl, hr⟩ := asg_cons_of h
    cases ws with
    | nil => exact hh.elim
    | cons w ws =>
      obtain ⟨i, p1', q1⟩ := hself.run (pos := p1)
      obtain ⟨j, p3', q3⟩ := hh.1.run (pos := p3)
      rw [List.length_cons] at hl
      have e1 : upd H dx (exd dx ((f, w) :: fs)) a = some (exo a C (some dx)) := by rw [upd_ne (Ne.symm hda)]; exact ea
      refine wpAny_execs_cons (thn ((ps_ost (pos := p4) (p' := p2) (f := f) p1' p3').run pins s σ H ⟨fun σ' H' => σ' = σ ∧ H' = upd H dx (exd dx ((f, w) :: fs)), fun _ _ => False, fun _ _ => False, fun _ _ => False⟩ I ?_) fun fl' s' hs => ?_)
      · exact q3 _ _ (q1 _ _ ⟨a, C, rfl, T, hno f (List.mem_cons_self ..), .inr ⟨dx, fs, ea, ed, by omega, rfl, rfl⟩⟩)
      · cases fl' with
        | next =>
          obtain ⟨σ', H', J, e2, e3⟩ := hs
          rw [e2, e3] at J
          refine ih ws r _ s' ((f, w) :: fs) hr hh.2 (fun f hf => hno f (List.mem_cons_of_mem _ hf)) J e1 upd_same (by rw [List.length_cons]; omega) fun s2 J2 => q s2 ?_
          rw [upd_two] at J2
          rw [List.zip_cons_cons, List.reverse_cons, List.append_assoc]
          exact J2
        | brk => obtain ⟨_, _, _, z⟩ := hs; exact z.elim
        | cont => obtain ⟨_, _, _, z⟩ := hs; exact z.elim
        | ret u => obtain ⟨_, _, _, _, _, z⟩ := hs; exact z.elim
theorem asg_all (T : OexC X.K C) (hself : Hold X σ "self" (.ref a)) {fl : List Str} {ws : List V} {st : List Stmt} {H : Hp} {s : Shared} (h : asgB fl st = true) (hne : fl ≠ []) (hl : fl.length ≤ 800) (hh : Holds X σ fl ws) (hno : ∀ f ∈ fl, PySem.W.findIn X.K (.ref C) f = some none)
    (I : Inv X pins σ H s) (ea : H a = some (exo a C none)) (q : ∀ dx s', H dx = none → dx ≠ a → Inv X pins σ (upd (upd H dx (exd dx (fl.zip ws).reverse)) a (exo a C (some dx))) s' → Q .next s') : wpAny (model X.prog X.w) X.A (execs st X.env) Q X.xe s := by
  cases fl with
  | nil => exact absurd rfl hne
  | cons f fl =>
    obtain ⟨p1, p2, p3, p4, r, rfl, hr⟩ := asg_cons_of h
    cases ws with
    | nil => exact hh.elim
    | cons w ws =>
      obtain ⟨i, p1', q1⟩ := hself.run (pos := p1)
      obtain ⟨j, p3', q3⟩ := hh.1.run (pos := p3)
      rw [List.length_cons] at hl
      refine wpAny_execs_cons (thn ((ps_ost (pos := p4) (p' := p2) (f := f) p1' p3').run pins s σ H ⟨fun σ' H' => σ' = σ ∧ ∃ dx, H dx = none ∧ dx ≠ a ∧ H' = upd (upd H dx (exd dx [(f, w)])) a (exo a C (some dx)), fun _ _ => False, fun _ _ => False, fun _ _ => False⟩ I ?_) fun fl' s' hs => ?_)
      · exact q3 _ _ (q1 _ _ ⟨a, C, rfl, T, hno f (List.mem_cons_self ..), .inl ⟨ea, fun dx h1 h2 => ⟨rfl, dx, h1, h2, rfl⟩⟩⟩)
      · cases fl' with
        | next =>
          obtain ⟨σ', H', J, e2, dx, h1, h2, e3⟩ := hs
          rw [e2, e3] at J
          refine asg_rest T hself h2 fl ws r _ s' [(f, w)] hr hh.2 (fun f hf => hno f (List.mem_cons_of_mem _ hf)) J upd_same (by rw [upd_ne h2, upd_same]) (by rw [List.length_cons, List.length_nil]; omega) fun s2 J2 => q dx s2 h1 h2 ?_
          rw [upd_sw (Ne.symm h2), upd_two] at J2
          rw [List.zip_cons_cons, List.reverse_cons]
          exact J2
        | brk => obtain ⟨_, _, _, z⟩ := hs; exact z.elim
        | cont => obtain ⟨_, _, _, z⟩ := hs; exact z.elim
        | ret u => obtain ⟨_, _, _, _, _, z⟩ := hs; exact z.elim
end
/-! ### __init__ as a def -/
def spInit (C : Addr) (fl : List Str) : Sp := fun vs H Q _ => ∃ (a : Addr) (ws : List V), vs = .ref a :: ws ∧ ws.length = fl.length ∧ smVs ws = true ∧ H a = some (exo a C none) ∧
  ∀ dx, H dx = none → dx ≠ a → Q .non (upd (upd H dx (exd dx (fl.zip ws).reverse)) a (exo a C (some dx)))
theorem body_of {fl : List Str} {body : List Stmt} (h : bodyB fl body = true) : ∃ p0 p1 p2 p3 p4 jp v1 v2 parts rest, body = .Expr (.Call (.Attribute (.Call (.Name "super" p0) [] [] p1) "__init__" p2) [.JoinedStr (v1 :: v2 :: parts) jp] [] p3) p4 :: rest ∧
    (p2.endLine == p3.line) = true ∧ (v1 :: v2 :: parts).all (partB fl) = true ∧ parts.length ≤ 8 ∧ asgB fl rest = true := by
  unfold bodyB at h
  split at h
  · simp only [Bool.and_eq_true, beq_iff_eq, decide_eq_true_eq] at h
    obtain ⟨⟨⟨⟨⟨h0, rfl⟩, rfl⟩, h1⟩, h2⟩, h3⟩ := h
    exact ⟨_, _, _, _, _, _, _, _, _, _, rfl, by simpa using h0, h1, h2, h3⟩
  · cases h
theorem holds_start {X : Cx} : ∀ (fl : List Str) (ws : List V) (k : Nat) (σ : L2.St), ws.length = fl.length → (∀ (j : Nat) (f : Str), fl[j]? = some f → X.N[k + j]? = some f ∧ σ[k + j]? = (ws[j]?).map some) → (∀ f ∈ fl, Vis X.env.scope f ∧ okName f = true) → Holds X σ fl ws
  | [], [], _, _, _, _, _ => trivial
  | f :: fl, w :: ws, k, σ, hl, h, hv => by
    obtain ⟨v1, v2⟩ := hv f (List.mem_cons_self ..)
    obtain ⟨h1, h2⟩ := h 0 f rfl
    refine ⟨⟨⟨k, h1, by rw [show k = k + 0 from rfl, h2]; rfl⟩, v1, (okn_ok v2).1, (okn_ok v2).2⟩, holds_start fl ws (k + 1) σ (by simpa using hl) (fun j g hg => ?_) fun g hg => hv g (List.mem_cons_of_mem _ hg)⟩
    have := h (j + 1) g (by rw [List.getElem?_cons_succ]; exact hg)
    rw [List.getElem?_cons_succ] at this
    rw [show k + 1 + j = k + (j + 1) by omega]
    exact this
  | [], _ :: _, _, _, hl, _, _ => by simp at hl
  | _ :: _, [], _, _, hl, _, _ => by simp at hl
theorem def_of {P : Program} {K : PySem.W.Frag} {C : Addr} {fl : List Str} {fd : FuncData} (h : defB P K C fl fd = true) : ∃ (name qual : Str) (params : Arguments) (body : List Stmt) (scope : Scope) (cc cd : Addr) (kV doc pm ct : Value) (an : Option Addr),
    fd = PySem.W.fnX name qual params body scope [(("__class__" : Str), cc)] .none kV doc pm an (.ref cd) ct ∧ bodyB fl body = true ∧ NdefX.NScope (("self" : Str) :: fl ++ [("__class__" : Str)]) (("self" : Str) :: fl) [("__class__" : Str)] scope ∧ argB (("self" : Str) :: fl) params = true ∧
    PySem.W.codeIn K (.ref cd) qual = true ∧ fileB P K cd = true ∧ cellB K cc C = true ∧ scope.names.lookup ("super" : Str) = some .globalImplicit := by
  obtain ⟨n1, n2, n3, n4, n5, n6, n7, n8, n9, n10, n11, n12, n13, n14, n15⟩ := fd
  unfold defB at h
  split at h
  · rename_i body x cc cd e1 e2 e3 e8
    simp only [Bool.and_eq_true, beq_iff_eq, decide_eq_true_eq] at h
    obtain ⟨⟨⟨⟨⟨⟨⟨⟨⟨hx, h1⟩, h2⟩, h3⟩, h4⟩, h5⟩, h6⟩, h7⟩, h8⟩, h9⟩ := h
    have e1 : n4 = .stmts body := e1
    have e2 : n7 = [(x, cc)] := e2
    have e3 : n13 = .ref cd := e3
    have h4 : n6 = mainGlobals := h4
    have h5 : n15 = builtinsNs := h5
    have e8 : n8 = .none := e8
    subst e1 e2 e3 e8 h4 h5 hx
    exact ⟨n1, n2, n3, body, n5, cc, cd, n9, n10, n11, n14, n12, rfl, h1, NdefX.nscope_by h2, h3, h6, h7, h8, h9⟩
  · cases h
theorem arg_of {ps : List Str} {a : Arguments} (h : argB ps a = true) : ∃ l : List Arg, a = { posonlyargs := [], args := l, vararg := none, kwonlyargs := [], kw_defaults := [], kwarg := none, defaults := [] } ∧ l.map (·.arg) = ps := by
  obtain ⟨a1, a2, a3, a4, a5, a6, a7⟩ := a
  unfold argB at h
  simp only [Bool.and_eq_true, beq_iff_eq, List.isEmpty_iff, Option.isNone_iff_eq_none] at h
  obtain ⟨⟨⟨⟨⟨⟨h1, h2⟩, h3⟩, h4⟩, h5⟩, h6⟩, h7⟩ := h
  subst h1 h3 h4 h5 h6 h7
  exact ⟨a2, rfl, h2⟩
theorem file_of {P : Program} {K : PySem.W.Frag} {cd : Addr} (h : fileB P K cd = true) : ∃ (oc : Value) (od : Option Addr) (vs : Array Value) (osl : Array (Option Value)) (file : Str) (tf : Tok), K.lookup cd = some ⟨oc, od, .fields vs, osl⟩ ∧ vs[2]? = some (.str file tf) ∧ ((P.main.file : Str) == file) = true := by
  unfold fileB at h
  split at h
  · rename_i vs _ hk
    split at h
    · rename_i file tf e
      exact ⟨_, _, vs, _, file, tf, hk, e, h⟩
    · cases h
  · cases h
theorem cell_of {K : PySem.W.Frag} {cc C : Addr} (h : cellB K cc C = true) : ∃ (oc : Value) (od : Option Addr) (osl : Array (Option Value)), K.lookup cc = some ⟨oc, od, .cell (some (.ref C)), osl⟩ := by
  unfold cellB at h
  split at h
  · rename_i hk
    have h := beq_iff_eq.mp h
    subst h
    exact ⟨_, _, _, hk⟩
  · cases h
theorem cls_of {K : PySem.W.Frag} {C : Addr} (h : clsB K C = true) : ∃ nm q N bs bm sn sub ab col dd k0 k1 k2 k3 k5, K.lookup C = some (excClassObj nm q C N bs bm true sn sub ab col dd k0 k1 k2 k3 k5 "ValueError.__new__") ∧ PySem.HandSPX.refsVE bm = true := by
  unfold clsB at h
  split at h
  · rename_i dd cd sl ho
    split at h
    · rename_i C' bm k0 k1 k2 k3 n k5 hm hs
      simp only [Bool.and_eq_true, beq_iff_eq, Bool.not_eq_true'] at h
      obtain ⟨⟨⟨⟨rfl, rfl⟩, hdel⟩, hd⟩, hb⟩ := h
      obtain ⟨nm, bs, mro, ns, qn, hdct, sn, sub, ab, col, del⟩ := cd
      dsimp only at hm hdel hd
      subst hm hdel hd
      have hsl : sl = #[k0, k1, k2, k3, some (.builtin "ValueError.__new__"), k5] := by
        obtain ⟨l⟩ := sl
        simp only at hs
        rw [hs]
      subst hsl
      exact ⟨nm, qn, ns, bs, bm, sn, sub, ab, col, dd, k0, k1, k2, k3, k5, ho, hb⟩
    · cases h
  · cases h
structure LookT (K : PySem.W.Frag) (C fI : Addr) (fl : List Str) : Prop where
  sa : PySem.W.findIn K (.ref C) "__setattr__" = some (some (.builtin "object.__setattr__"))
  sb : PySem.W.subIn K (.ref C) (.type "BaseException") = some true
  ty : PySem.W.typeIn K (.ref C) = some (.type "type")
  kp : PySem.W.keepIn K (.ref C) = true
  ex : PySem.W.exmOne K (.ref C) (.ref C) = some true
  xf : XfC K C
  no : ∀ f ∈ fl, PySem.W.findIn K (.ref C) f = some none
  ve : PySem.W.subIn K (.ref C) (.type "ValueError") = some true
  su : PySem.W.ks_superIn K C C "__init__" = some (some (.builtin "ValueError.__init__"))
  mr : PySem.W.mroIn K C (.ref C) = some true
  st : PySem.W.nsIn K cStatics "thirdparty.any" = some none
  ini : PySem.W.findIn K (.ref C) "__init__" = some (some (.ref fI))
  tI : PySem.W.typeIn K (.ref fI) = some (.type "function")
  sg : PySem.W.nsIn K mainGlobals "super" = some none
theorem look_of {K : PySem.W.Frag} {C fI : Addr} {fl : List Str} (h : lookB K C fI fl = true) : LookT K C fI fl := by
  unfold lookB at h
  simp only [Bool.and_eq_true, decide_eq_true_eq, List.all_eq_true] at h
  obtain ⟨⟨⟨⟨⟨⟨⟨⟨⟨⟨⟨⟨⟨h1, h2⟩, h3⟩, h4⟩, h5⟩, h6⟩, h7⟩, h8⟩, h9⟩, h10⟩, h11⟩, h12⟩, h13⟩, h14⟩ := h
  exact ⟨h1, h2, h3, h4, h5, xfB_ok h6, h7, h8, h9, h10, h11, h12, h13, h14⟩
/-- how the arguments of __init__ bind -/
def BindOk (fl : List Str) : Prop := ∀ (l : List Arg) (name qual : Str) (body : List Stmt) (scope : Scope) (cl : List (Str × Addr)) (kV doc pm cdv ct : Value) (an : Option Addr) (us : List Value), l.map (·.arg) = ("self" : Str) :: fl → us.length = (("self" : Str) :: fl).length →
  bindArgs (PySem.W.fnX name qual { posonlyargs := [], args := l, vararg := none, kwonlyargs := [], kw_defaults := [], kwarg := none, defaults := [] } body scope cl .none kV doc pm an cdv ct) ⟨us, []⟩ = pure ((("self" : Str) :: fl).zip us)
theorem bind1 {f : Str} (h : ∀ (a1 a2 : Option Expr) (p1 p2 : Pos) (name qual : Str) (body : List Stmt) (scope : Scope) (cl : List (Str × Addr)) (kV doc pm cdv ct : Value) (an : Option Addr) (u1 u2 : Value),
    bindArgs (PySem.W.fnX name qual { posonlyargs := [], args := [⟨"self", a1, p1⟩, ⟨f, a2, p2⟩], vararg := none, kwonlyargs := [], kw_defaults := [], kwarg := none, defaults := [] } body scope cl .none kV doc pm an cdv ct) ⟨[u1, u2], []⟩ = pure ((("self" : Str) :: [f]).zip [u1, u2])) : BindOk [f] := by
  intro l name qual body scope cl kV doc pm cdv ct an us hl hu
  match l, us, hl, hu with
  | [⟨n1, a1, p1⟩, ⟨n2, a2, p2⟩], [u1, u2], hl, _ =>
    simp at hl
    obtain ⟨h1, h2⟩ := hl
    subst h1 h2
    exact h a1 a2 p1 p2 name qual body scope cl kV doc pm cdv ct an u1 u2
theorem bind2 {f g : Str} (h : ∀ (a1 a2 a3 : Option Expr) (p1 p2 p3 : Pos) (name qual : Str) (body : List Stmt) (scope : Scope) (cl : List (Str × Addr)) (kV doc pm cdv ct : Value) (an : Option Addr) (u1 u2 u3 : Value),
    bindArgs (PySem.W.fnX name qual { posonlyargs := [], args := [⟨"self", a1, p1⟩, ⟨f, a2, p2⟩, ⟨g, a3, p3⟩], vararg := none, kwonlyargs := [], kw_defaults := [], kwarg := none, defaults := [] } body scope cl .none kV doc pm an cdv ct) ⟨[u1, u2, u3], []⟩ = pure ((("self" : Str) :: [f, g]).zip [u1, u2, u3])) : BindOk [f, g] := by
  intro l name qual body scope cl kV doc pm cdv ct an us hl hu
  match l, us, hl, hu with
  | [⟨n1, a1, p1⟩, ⟨n2, a2, p2⟩, ⟨n3, a3, p3⟩], [u1, u2, u3], hl, _ =>
    simp at hl
    obtain ⟨h1, h2, h3⟩ := hl
    subst h1 h2 h3
    exact h a1 a2 a3 p1 p2 p3 name qual body scope cl kV doc pm cdv ct an u1 u2 u3
theorem bind_number : BindOk ["number"] := bind1 fun _ _ _ _ _ _ _ _ _ _ _ _ _ _ _ _ _ => rfl
theorem bind_line : BindOk ["line"] := bind1 fun _ _ _ _ _ _ _ _ _ _ _ _ _ _ _ _ _ => rfl
theorem bind_part : BindOk ["part", "number"] := bind2 fun _ _ _ _ _ _ _ _ _ _ _ _ _ _ _ _ _ _ _ _ => rfl
theorem bind_worker : BindOk ["worker", "number"] := bind2 fun _ _ _ _ _ _ _ _ _ _ _ _ _ _ _ _ _ _ _ _ => rfl
theorem init_fn {CX : CXT} {P : Program} {w : World} {K : PySem.W.Frag} {mg : Str → Option Value} {base : Heap} {C fI : Addr} {fl : List Str} {fd : FuncData} {oc : Value} {od : Option Addr} {osl : Array (Option Value)} (hB : defB P K C fl fd = true) (lk : K.lookup fI = some ⟨oc, od, .func fd, osl⟩)
    (L : LookT K C fI fl) (hc : clsB K C = true) (hlen : fl.length = 1 ∨ fl.length = 2) (hbd : BindOk fl) (hok : fl.all okName = true) (htop : (P.main.scope.names.lookup ("super" : Str)).isSome = false) (hmg : mg "super" = none) :
    FnOk P w K mg base CX 2 fI fd (("self" : Str) :: fl) (spInit C fl) ∧ Binds K fd (("self" : Str) :: fl) [] := by
  obtain ⟨name, qual, params, body, scope, cc, cd, kV, doc, pm, ct, an, rfl, hbody, S, harg, hcode, hfile, hcell, hsup⟩ := def_of hB
  obtain ⟨al, rfl, hal⟩ := arg_of harg
  obtain ⟨p0, p1, p2, p3, p4, jp, v1, v2, parts, rest, rfl, hline, hparts, hpl, hasg⟩ := body_of hbody
  obtain ⟨cfoc, cfod, cvs, cosl, file, tf, hcd, hvs, hfl⟩ := file_of hfile
  obtain ⟨ccoc, ccod, ccsl, hcc⟩ := cell_of hcell
  have T : OexC K C := ⟨cls_of hc, L.sa, L.sb, L.ty, L.kp⟩
  have hBi : Binds K (PySem.W.fnX name qual { posonlyargs := [], args := al, vararg := none, kwonlyargs := [], kw_defaults := [], kwarg := none, defaults := [] } (.Expr (.Call (.Attribute (.Call (.Name "super" p0) [] [] p1) "__init__" p2) [.JoinedStr (v1 :: v2 :: parts) jp] [] p3) p4 :: rest) scope [(("__class__" : Str), cc)] .none kV doc pm an (.ref cd) ct) (("self" : Str) :: fl) [] := .all fun us hu => hbd al _ _ _ _ _ _ _ _ _ _ _ us hal hu
  have len : ∀ vs H Q E, spInit C fl vs H Q E → vs.length = (("self" : Str) :: fl).length := fun vs H Q E h => by
    obtain ⟨a, ws, rfl, hl, _⟩ := h
    rw [List.length_cons, List.length_cons, hl]
  refine ⟨⟨len, fun A outer s H args us vs Q E hr e0 hb r hsp => ?_⟩, hBi⟩
  have hl := len _ _ _ _ hsp
  obtain ⟨a, ws, rfl, hwl, hsm, ea, hq⟩ := hsp
  have KX : K.In s.heap := e0.mod.kin.keeps fun b o e => (e0.bs b o e).1
  have lim : s.heap.NoLimit := e0.mod.nolimit.keeps fun b o e => (e0.bs b o e).1
  have hccb := e0.bs cc _ (e0.mod.kin _ _ hcc)
  refine codeAny_call_function hr.depth (KX _ _ lk) rfl S.co S.gen rfl (PySem.W.codeRec_of KX hcode) (hb _ _ _ _ ?_)
  refine wpAny_newFunctionEnv S.nocell (fun ⟨n, _⟩ hy => S.par n (List.of_mem_zip hy).1) (fun h₁ hns hsb => ⟨lim.fresh _ hsb, ?_⟩) S.kind
  have kp : ∀ b o, s.heap.get? b = some o → h₁.get? b = some o := fun b o e => hsb.extBut b o (Nat.ne_of_lt (Heap.lt_size e)) (Heap.get?_push_of_some _ e)
  obtain ⟨Fx, hFx⟩ : ∃ Fx : NdefX.NF, Fx = ⟨name, qual, { posonlyargs := [], args := al, vararg := none, kwonlyargs := [], kw_defaults := [], kwarg := none, defaults := [] }, .Expr (.Call (.Attribute (.Call (.Name "super" p0) [] [] p1) "__init__" p2) [.JoinedStr (v1 :: v2 :: parts) jp] [] p3) p4 :: rest, scope, [(("__class__" : Str), cc)], cd⟩ := ⟨_, rfl⟩
  have Cl : NdefX.CellsAt [(("__class__" : Str), cc)] [("__class__" : Str)] [none] s.heap H := by
    refine ⟨rfl, fun y c e => ?_, fun x y c e1 e2 => ?_, fun i y e => ?_⟩
    · have : c = cc := by
        rw [List.lookup_cons] at e
        split at e
        · exact (Option.some.inj e).symm
        · cases e
      subst this
      exact ⟨hccb.2, _, _, hccb.1, rfl⟩
    · have k1 : ∀ {z : Str}, List.lookup z [(("__class__" : Str), cc)] = some c → z = ("__class__" : Str) := fun {z} e => by
        rw [List.lookup_cons] at e
        split at e
        · rename_i h; exact beq_iff_eq.mp h
        · cases e
      rw [k1 e1, k1 e2]
    · cases i with
      | zero =>
        obtain rfl : ("__class__" : Str) = y := Option.some.inj e
        exact ⟨cc, by rw [List.lookup_cons]; simp, fun v z => by cases (show none = some v from Option.some.inj z)⟩
      | succ i => cases e
  have I : Inv (NdefX.ncx CX P w K mg base (("self" : Str) :: fl ++ [("__class__" : Str)]) Fx fI A outer s H E) [] (NdefX.startF (("self" : Str) :: fl ++ [("__class__" : Str)]) (.ref a :: ws) [none]) H { s with heap := h₁, toks := s.toks + ((("self" : Str) :: fl).zip us).length } := by
    subst hFx
    exact NdefX.inv_startN S hr.hd e0 hl r Cl hns kp
  obtain ⟨X, hX⟩ : ∃ X, X = NdefX.ncx CX P w K mg base (("self" : Str) :: fl ++ [("__class__" : Str)]) Fx fI A outer s H E := ⟨_, rfl⟩
  have hfx : Fx.qual = qual ∧ Fx.scope = scope ∧ Fx.cl = [(("__class__" : Str), cc)] ∧ Fx.c = cd := by subst hFx; exact ⟨rfl, rfl, rfl, rfl⟩
  obtain ⟨hx1, hx2, hx3, hx4⟩ := hfx
  obtain ⟨σ, hσ⟩ : ∃ σ, σ = NdefX.startF (("self" : Str) :: fl ++ [("__class__" : Str)]) (.ref a :: ws) [none] := ⟨_, rfl⟩
  rw [← hX, ← hσ] at I
  have xK : X.K = K := by rw [hX]; rfl
  have xN : X.N = ("self" : Str) :: fl ++ [("__class__" : Str)] := by rw [hX]; rfl
  have xenv : X.env = PySem.W.envX qual scope s.heap.objs.size fI (.ref cd) [(("__class__" : Str), cc)] := by
    rw [hX, ← hx1, ← hx2, ← hx3, ← hx4]; rfl
  have xsc : X.env.scope = scope := by rw [xenv]
  have hs0 : σ[0]? = some (some (.ref a)) := by rw [hσ]; rfl
  have hself : Hold X σ "self" (.ref a) := ⟨⟨0, by rw [xN]; rfl, hs0⟩, .inl (by rw [xsc]; exact S.par _ (List.mem_cons_self ..)), by decide, by decide⟩
  have hH : Holds X σ fl ws := by
    refine holds_start fl ws 1 σ hwl (fun j f hj => ⟨?_, ?_⟩) fun f hf => ⟨.inl (by rw [xsc]; exact S.par _ (List.mem_cons_of_mem _ hf)), List.all_eq_true.mp hok f hf⟩
    · rw [xN, List.cons_append, Nat.add_comm, List.getElem?_cons_succ, List.getElem?_append_left (List.getElem?_eq_some_iff.mp hj).1]
      exact hj
    · have hlt : j < ws.length := by rw [hwl]; exact (List.getElem?_eq_some_iff.mp hj).1
      rw [hσ]
      unfold NdefX.startF
      rw [List.map_cons, List.cons_append, Nat.add_comm, List.getElem?_cons_succ, List.getElem?_append_left (by rw [List.length_map]; exact hlt), List.getElem?_map]
  have hSup : SupT X C := by
    refine ⟨by rw [xenv]; exact hsup, by rw [xenv]; exact S.frk _ (List.mem_singleton.mpr rfl), ?_, ?_, by rw [hX]; exact htop, ?_, by rw [hX]; exact hmg, by rw [xenv]; exact S.par _ (List.mem_cons_self ..), by rw [xN]; rfl, hself.vis, by rw [xsc]; exact S.kind, by rw [xK]; exact L.su, by rw [xK]; exact L.ve, by rw [xK]; exact L.mr, by rw [xK]; exact L.st⟩
    · cases al with
      | nil => cases hal
      | cons a1 al =>
        refine ⟨fI, oc, od, _, osl, a1, by rw [xenv], by rw [xK]; exact lk, rfl, ?_⟩
        rw [List.map_cons] at hal
        exact (List.cons.inj hal).1
    · exact ⟨cd, cfoc, cfod, cvs, cosl, file, tf, by rw [xenv], by rw [xK]; exact hcd, hvs, by rw [hX]; exact hfl⟩
    · exact ⟨cc, ccoc, ccod, ccsl, by rw [xenv, List.lookup_cons]; simp, by rw [xK]; exact hcc⟩
  have TX : OexC X.K C := by rw [xK]; exact T
  obtain ⟨ts, hpj, hjs⟩ := js_ok (hH.all hsm) _ hparts
  have fin : ∀ s', (∃ σ' H', Inv X [] σ' H' s' ∧ Q .non H') → CE outer P w H s Q .none s' := fun s' hz => by
    obtain ⟨σ', H', J, q⟩ := hz
    rw [hX] at J
    exact ⟨V.non, H', J.os, J.bare, J.base, J.hok, rfl, q⟩
  have main : _root_.PySem.wpAt (model X.prog X.w) X.A (.func (.Expr (.Call (.Attribute (.Call (.Name "super" p0) [] [] p1) "__init__" p2) [.JoinedStr (v1 :: v2 :: parts) jp] [] p3) p4 :: rest) X.env) (execs (.Expr (.Call (.Attribute (.Call (.Name "super" p0) [] [] p1) "__init__" p2) [.JoinedStr (v1 :: v2 :: parts) jp] [] p3) p4 :: rest) X.env)
      (fun f s' => CR CX outer P w H s Q E (.ok (.ret (match f with | .ret v => v | _ => .none))) s') X.xe { s with heap := h₁, toks := s.toks + ((("self" : Str) :: fl).zip us).length } := by
    refine ks_wpAt_execs_cons (sup_init TX hSup I ea hs0 (pa_cons (pe_joined hpj) pa_nil) hline (by unfold interactive; rw [xsc, S.kind]; rfl) ?_ fun s' J => ?_)
    · exact hjs Str.empty H _ (by show 0 + _ ≤ _; rw [List.length_cons, List.length_cons]; omega) fun out => ⟨by simp, rfl⟩
    · refine wpAt_of_wpAny (asg_all TX hself hasg (fun z => by rw [z] at hlen; simp at hlen) (by omega) hH (by rw [xK]; exact L.no) J ea fun dx s2 h1 h2 J2 => ?_)
      exact fin s2 ⟨_, _, J2, hq dx h1 h2⟩
  rw [hX] at main
  subst hFx
  exact ks_codeAny_funcAt main
/-! ### the facts of such a class, read off a look -/
structure ExcT (P : Program) (K : PySem.W.Frag) (c : Str) (fl : List Str) : Prop where
  len : fl.length = 1 ∨ fl.length = 2
  nd : fl.Nodup
  ok : fl.all okName = true
  top : (P.main.scope.names.lookup ("super" : Str)).isSome = false
  cls : clsB K (He.ga K c) = true
  look : LookT K (He.ga K c) (He.ma K (He.ga K c) "__init__") fl
  fn : ∃ (oc : Value) (od : Option Addr) (fd : FuncData) (osl : Array (Option Value)), K.lookup (He.ma K (He.ga K c) "__init__") = some ⟨oc, od, .func fd, osl⟩ ∧ defB P K (He.ga K c) fl fd = true
theorem exc_of {P : Program} {K : PySem.W.Frag} {c : Str} {fl : List Str} (h : excB P K c fl = true) : ExcT P K c fl := by
  unfold excB at h
  simp only [Bool.and_eq_true, decide_eq_true_eq] at h
  obtain ⟨⟨⟨⟨⟨⟨h1, h2⟩, h3⟩, h4⟩, h5⟩, h6⟩, h7⟩ := h
  refine ⟨h1, h2, h3, by simpa using h4, h5, look_of h6, ?_⟩
  split at h7
  · rename_i hk
    exact ⟨_, _, _, _, hk, h7⟩
  · cases h7
theorem excF_ok {P : Program} {K : PySem.W.Frag} {mg : Str → Option Value} {c : Str} {fl : List Str} (g : mg c = some (.ref (He.ga K c))) (h : excB P K c fl = true) : ∃ C, ExcK K mg c fl C := by
  have T := exc_of h
  refine ⟨_, g, T.look.kp, T.look.sb, T.look.ty, T.look.ex, fun z => ?_, fun _ => ⟨T.look.xf, T.look.no⟩⟩
  have := T.len
  rw [z] at this
  simp at this
theorem zip_lookV : ∀ {ps : List Str} {us : List V} {i : Nat} {x : Str} {u : V}, ps.Nodup → ps[i]? = some x → us[i]? = some u → (ps.zip us).reverse.lookup x = some u
  | [], _, _, _, _, _, h, _ => by simp at h
  | _ :: _, [], _, _, _, _, _, h => by simp at h
  | p :: ps, v :: us, 0, x, u, nd, h1, h2 => by
    simp at h1 h2
    subst h1
    subst h2
    have hn : (ps.zip us).reverse.lookup p = none := by
      cases e : (ps.zip us).reverse.lookup p with
      | none => rfl
      | some v => exact absurd (List.of_mem_zip (List.mem_reverse.mp (PySem.mem_of_lookup e))).1 (List.nodup_cons.mp nd).1
    rw [List.zip_cons_cons, List.reverse_cons, List.lookup_append, hn]
    simp [List.lookup]
  | p :: ps, v :: us, i + 1, x, u, nd, h1, h2 => by
    have e : (ps.zip us).reverse.lookup x = some u := zip_lookV (i := i) (List.nodup_cons.mp nd).2 (by simpa using h1) (by simpa using h2)
    rw [List.zip_cons_cons, List.reverse_cons, List.lookup_append, e] <;> rfl
theorem mk_ok {X : Cx} {c : Str} {fl : List Str} (h : excB X.prog X.K c fl = true) (hbd : BindOk fl) (g : X.mg c = some (.ref (He.ga X.K c))) (hsg : X.mg "super" = none) : MkOk X c fl := by
  have T := exc_of h
  obtain ⟨oc, od, fd, osl, lk, hB⟩ := T.fn
  obtain ⟨F1, hBi⟩ := init_fn (CX := L2.CX X.prog X.w) (w := X.w) (base := X.base) hB lk T.look T.cls T.len hbd T.ok T.top hsg
  have TC : OexC X.K (He.ga X.K c) := ⟨cls_of T.cls, T.look.sa, T.look.sb, T.look.ty, T.look.kp⟩
  intro hne es fs p pos hlen hstar ha hroom hgl hdb
  have hstar : es.all notStar = true := hstar
  cases es with
  | nil => exact absurd (List.length_eq_zero_iff.mp hlen.symm) hne
  | cons e es =>
    rw [List.all_cons, Bool.and_eq_true] at hstar
    intro pins s σ H Q I hh
    obtain ⟨ρ, M, α, ds, M', xs, r, e1, e2, e3, hsm, q⟩ := hh
    refine pmk_oex TC T.look.ini T.look.tI F1 hroom hBi .nil passL hgl g ha hdb (star_cons hstar.1) (star_any hstar.2) pins s σ H Q I ?_
    refine ⟨ρ, M, α, ds, M', r, e1, fun vs H1 α1 n rds => ?_⟩
    have rp := datas_ok rds e2
    have hvl : vs.length = fl.length := by rw [← rp.length, e3]
    refine ⟨by have := T.len; omega, fun a ha0 => ⟨a, vs ++ [], rfl, by rw [List.append_nil]; exact hvl, by rw [List.append_nil]; exact sm_ok rp hsm, upd_same, fun dx h1 h2 => ?_⟩⟩
    rw [List.append_nil]
    have h1' : H1 dx = none := by rw [upd_ne h2] at h1; exact h1
    refine ⟨rfl, dx, (fl.zip vs).reverse, upd_same, by rw [upd_ne h2, upd_same], h1', ?_⟩
    have eH : upd (del (upd (upd (upd H1 a (exo a (He.ga X.K c) none)) dx (exd dx (fl.zip vs).reverse)) a (exo a (He.ga X.K c) (some dx))) a) dx (.xd (fl.zip vs).reverse) = upd H1 dx (.xd (fl.zip vs).reverse) := by
      funext b
      by_cases hb : b = dx
      · subst hb; rw [upd_same, upd_same]
      · rw [upd_ne hb, upd_ne hb]
        by_cases hba : b = a
        · subst hba; rw [del_same, ha0]
        · rw [del_ne hba, upd_ne hba, upd_ne hb, upd_ne hba]
    rw [eH]
    have n2 := Nx.new (K := X.K) (α := α1) n.mem n.tab (o := .xd (fl.zip vs).reverse) h1' fun ps z => by cases z
    refine q _ _ _ α1 (n.trans r.mem n2) ⟨He.ga X.K c, fl, by simp [List.lookup], g, rfl, e3.symm, fun _ => ⟨dx, (fl.zip vs).reverse, rfl, upd_same, fun j f x hf hx => ?_⟩⟩
    obtain ⟨v, hv, rv⟩ := rp.get hx
    refine ⟨v, zip_lookV T.nd hf hv, ?_⟩
    have : RD X.K H1 α1 (.p x) v := rv
    exact n2.rd n.mem this
end IX
end

section
set_option Elab.async false
set_option autoImplicit false
set_option linter.all false
set_option maxRecDepth 100000
set_option maxHeartbeats 4000000
/-! The head's Hook that tells the statics too; the makers of a text's exceptions. -/
namespace IX
open PySem PySem.Spec PyProof.Rows L2 GX
def asY (g : Addr → Option Obj) (n : Nat) : List Addr := He.asD g n ++ [cStatics]
def obsY (n : Nat) (fa : List He.Fa) (fn : List He.DefD) (ts : List He.Tab) (tf : List He.Defn) (ex : PySem.W.Frag → Bool) (g : Addr → Option Obj) : He.AlX :=
  (He.obsT fa fn ts (He.frT g (asY g n)), ex (He.frT g (asY g n)) && He.tabsB g tf (He.frT g (asY g n)))
theorem saysY {as : List Addr} {fa : List He.Fa} {fn : List He.DefD} {ts : List He.Tab} {tf : List He.Defn} {ex : PySem.W.Frag → Bool} {w : World} {h : Heap}
    (e1 : He.obsT fa fn ts (He.frT h.get? as) = He.valT fn ts w) (e2 : (ex (He.frT h.get? as) && He.tabsB h.get? tf (He.frT h.get? as)) = true) : He.SaysX fa fn ts tf ex w h (He.frT h.get? as) := by
  obtain ⟨h1, h2⟩ := He.ba e2
  have key : ∀ p ∈ tf, PySem.W.codeHdIn (He.frT h.get? as) (He.cT (He.frT h.get? as) p).1 (He.cT (He.frT h.get? as) p).2 = true ∧ ∃ o, h.get? (He.cT (He.frT h.get? as) p).2 = some o ∧ He.emptyTab o = true := fun p hp => by
    obtain ⟨h3, h4⟩ := He.ba (List.all_eq_true.mp h2 p hp)
    refine ⟨h3, ?_⟩
    cases q : h.get? (He.cT (He.frT h.get? as) p).2 with
    | none => rw [q] at h4; cases h4
    | some o => rw [q] at h4; exact ⟨o, rfl, h4⟩
  refine ⟨e1, h1, fun p hp => (key p hp).1, fun p hp => ?_, fun p hp => ?_⟩
  · obtain ⟨_, o, q, z⟩ := key p hp
    exact He.frT_none q z
  · obtain ⟨_, o, q, z⟩ := key p hp
    rw [q, He.emptyTab_eq z]
def hookY (n : Nat) (fa : List He.Fa) (fn : List He.DefD) (ts : List He.Tab) (tf : List He.Defn) (ex : PySem.W.Frag → Bool) : PySem.W.Hook where
  α := He.AlX
  obs := fun s => obsY n fa fn ts tf ex s.heap.get?
  val := fun w => He.valX fn ts w
  says := fun w h => ∃ K : PySem.W.Frag, K.In h ∧ He.SaysX fa fn ts tf ex w h K
  of := fun _ _ e => ⟨_, He.frT_in, saysY (congrArg (fun z : He.AlX => z.1) e) (congrArg (fun z : He.AlX => z.2) e)⟩
  keeps := fun _ _ _ ⟨K, hK, c⟩ k => ⟨K, PySem.W.Frag.In.keeps hK k, ⟨c.t, c.more, c.hd, c.out, fun p hp => k _ _ (c.empty p hp)⟩⟩
theorem obsY_eq {n : Nat} {fa : List He.Fa} {fn : List He.DefD} {ts : List He.Tab} {tf : List He.Defn} {ex : PySem.W.Frag → Bool} {g : Addr → Option Obj} {s : Shared} (h : ∀ a, g a = s.heap.get? a) : obsY n fa fn ts tf ex g = (hookY n fa fn ts tf ex).obs s := by
  have e : g = s.heap.get? := funext h
  rw [e] <;> rfl
theorem mkr_all {P : Program} {w : World} {K : PySem.W.Frag} {h : Heap} {mg : Str → Option Value} {L : List (Str × List Str)} (KX : K.In h) (G : h.Ns mainGlobals mg)
    (hall : ∀ q ∈ L, q.2 ≠ [] → excB P K q.1 q.2 = true ∧ BindOk q.2 ∧ mg q.1 = some (.ref (He.ga K q.1))) (base : Heap) (_ : K.In base) (_ : BmAt base mg) :
    ∀ c fl, L.lookup c = some fl → ∀ X' : Cx, X'.prog = P → X'.w = w → X'.K = K → X'.mg = mg → X'.base = base → MkOk X' c fl := by
  intro c fl hc X' e1 e2 e3 e4 e5 hne
  obtain ⟨h1, h2, h3⟩ := hall (c, fl) (lookup_in hc) hne
  have hs := PySem.W.mg_none_of KX G (exc_of h1).look.sg
  subst e1 e3 e4
  exact mk_ok h1 h2 h3 hs hne
end IX
end

section
set_option linter.all false
set_option autoImplicit false
set_option maxRecDepth 100000
/-! Running the small language by rewriting. -/
namespace IX
open PySem
section
variable (W : Wd) (G : Str → Option P) (N : Nat)
def whl (t : E) (b : List S) (n : Nat) (ρ : Env) (M : Mem) : Option Out := whileL (fun ρ M => evT W G t ρ M) (fun ρ M => evSs W G N b ρ M) n ρ M
def lop (t : T) (b : List S) (s : Src) (xs : List P) (ρ : Env) (M : Mem) : Option Out := forL s (fun x ρ M => (t.put x ρ).bind fun ρ' => evSs W G N b ρ' M) xs ρ M
def lcx (vs : List Nat) (elt : E) (t : T) (ifs : List E) (ρ : Env) (x : P) (M : Mem) : Option (List P × Mem) := do
      let ρ' ← t.put x (wipeE ρ vs)
      let (b, M) ← evIfs W G ifs ρ' M
      if b then do
        let (y, M) ← evE W G elt ρ' M
        match y with
        | .p r => some ([r], M)
        | _ => none
      else some ([], M)
def lcs (vs : List Nat) (elt : E) (t : T) (ifs : List E) (s : Src) (xs : List P) (ρ : Env) (M : Mem) : Option (List P × Mem) := turns s (lcx W G vs elt t ifs ρ) xs M
def gnx (vs : List Nat) (elt : E) (t : T) (ifs : List E) (ρ : Env) (M : Mem) (x : P) : Option (Option P) := do
      let ρ' ← t.put x (wipeE ρ vs)
      let (b, M') ← evIfs W G ifs ρ' M
      if b then do
        let (y, M'') ← evE W G elt ρ' M'
        match y with
        | .p r => if M'' = M then some (some r) else none
        | _ => none
      else if M' = M then some none else none
def gn2 (vs : List Nat) (elt : E) (t : T) (ifs : List E) (vs1 : List Nat) (t1 : T) (k1 : IK) (sr1 ifs1 : List E) (ρ : Env) (M : Mem) (x : P) : Option (List P) := do
      let ρ' ← t.put x (wipeE ρ vs)
      let (b, M1) ← evIfs W G ifs ρ' M
      if b then do
        let (ds1, M2) ← evEs W G sr1 ρ' M1
        let s1 ← src k1 ds1 M2
        if M2 = M then gturns (gnx W G vs1 elt t1 ifs1 ρ' M) s1.xs else none
      else if M1 = M then some [] else none
def callX (f : Nat) (as : List D) (M : Mem) : Option (D × Mem) := (W f as M).bind fun q => some (back M q.1 q.2)
def lcx2 (vs : List Nat) (elt : E) (t : T) (ifs : List E) (vs1 : List Nat) (t1 : T) (k1 : IK) (sr1 ifs1 : List E) (ρ : Env) (x : P) (M : Mem) : Option (List P × Mem) := do
      let ρ' ← t.put x (wipeE ρ vs)
      let (b, M) ← evIfs W G ifs ρ' M
      if b then do
        let (ds1, M) ← evEs W G sr1 ρ' M
        let s1 ← src k1 ds1 M
        if noScr ρ' && s1.fr then lcs W G vs1 elt t1 ifs1 s1 s1.xs ρ' M else none
      else some ([], M)
def lcs2 (vs : List Nat) (elt : E) (t : T) (ifs : List E) (vs1 : List Nat) (t1 : T) (k1 : IK) (sr1 ifs1 : List E) (s : Src) (xs : List P) (ρ : Env) (M : Mem) : Option (List P × Mem) := turns s (lcx2 W G vs elt t ifs vs1 t1 k1 sr1 ifs1 ρ) xs M
variable {W G N} {ρ : Env} {M : Mem}
@[simp] theorem e_lc2 (vs : List Nat) (elt : E) (t : T) (k : IK) (sr ifs : List E) (vs1 : List Nat) (t1 : T) (k1 : IK) (sr1 ifs1 : List E) : evE W G (.lc2 vs elt t k sr ifs vs1 t1 k1 sr1 ifs1) ρ M = (evEs W G sr ρ M).bind fun p => (src k p.1 p.2).bind fun s => (lcs2 W G vs elt t ifs vs1 t1 k1 sr1 ifs1 s s.xs ρ p.2).bind fun q => newl q.1 q.2 := by rfl
@[simp] theorem lcs2_nil (vs : List Nat) (elt : E) (t : T) (ifs : List E) (vs1 : List Nat) (t1 : T) (k1 : IK) (sr1 ifs1 : List E) (s : Src) : lcs2 W G vs elt t ifs vs1 t1 k1 sr1 ifs1 s [] ρ M = some ([], M) := by rfl
theorem lcs2_cons (vs : List Nat) (elt : E) (t : T) (ifs : List E) (vs1 : List Nat) (t1 : T) (k1 : IK) (sr1 ifs1 : List E) (s : Src) (x : P) (r : List P) : lcs2 W G vs elt t ifs vs1 t1 k1 sr1 ifs1 s (x :: r) ρ M = (lcx2 W G vs elt t ifs vs1 t1 k1 sr1 ifs1 ρ x M).bind fun o => if s.ok o.2 = true then (lcs2 W G vs elt t ifs vs1 t1 k1 sr1 ifs1 s r ρ o.2).bind fun q => some (o.1 ++ q.1, q.2) else none := by rfl
@[simp] theorem ge_tup (s : Src) (F : P → Option (Option P)) : genEnd .tuple s F M = (gturns F s.xs).bind fun ys => if ys.length + 1 < sizeLine then some (.p (.tup ys), M) else none := by rfl
@[simp] theorem ge_sum (s : Src) (F : P → Option (Option P)) : genEnd .sum s F M = (gturns F s.xs).bind fun ys => (intsP ys).bind fun is => if ys.length + 1 < sizeLine then some (.p (.int is.sum), M) else none := by rfl
@[simp] theorem e_v (i : Nat) : evE W G (.v i) ρ M = (match ρ[i]? with | some (some d) => some (d, M) | _ => none) := by rfl
@[simp] theorem e_c (x : P) : evE W G (.c x) ρ M = some (.p x, M) := by rfl
@[simp] theorem e_g (n : Str) : evE W G (.g n) ρ M = (G n).map fun x => (.p x, M) := by rfl
@[simp] theorem e_bin (o : BO) (a b : E) : evE W G (.bin o a b) ρ M = (evE W G a ρ M).bind fun p => (evE W G b ρ p.2).bind fun q => binop o p.1 q.1 q.2 := by rfl
@[simp] theorem e_neg (a : E) : evE W G (.neg a) ρ M = (evE W G a ρ M).bind fun p => (match p.1 with | .p (.int i) => some (.p (.int (-i)), p.2) | _ => none) := by rfl
@[simp] theorem e_not (a : E) : evE W G (.not a) ρ M = (evE W G a ρ M).bind fun p => (truth p.2 p.1).bind fun b => some (.p (.bl (!b)), p.2) := by rfl
@[simp] theorem e_cmp (o : CO) (a b : E) : evE W G (.cmp o a b) ρ M = (evE W G a ρ M).bind fun p => (evE W G b ρ p.2).bind fun q => (cmpop o p.1 q.1 q.2).bind fun r => some (.p (.bl r), q.2) := by rfl
@[simp] theorem e_and (l : List E) : evE W G (.and l) ρ M = evAnd W G l ρ M := by rfl
@[simp] theorem e_or (l : List E) : evE W G (.or l) ρ M = evOr W G l ρ M := by rfl
@[simp] theorem e_ife (t a b : E) : evE W G (.ife t a b) ρ M = (evT W G t ρ M).bind fun p => if p.1 = true then evE W G a ρ p.2 else evE W G b ρ p.2 := by rfl
@[simp] theorem e_tup (l : List E) : evE W G (.tup l) ρ M = (evEs W G l ρ M).bind fun p => (datas p.1).bind fun ps => if ps.length ≤ sizeLine then some (.p (.tup ps), p.2) else none := by rfl
@[simp] theorem e_lst (l : List E) : evE W G (.lst l) ρ M = (evEs W G l ρ M).bind fun p => (datas p.1).bind fun ps => newl ps p.2 := by rfl
@[simp] theorem e_idx (a i : E) : evE W G (.idx a i) ρ M = (evE W G a ρ M).bind fun p => (evE W G i ρ p.2).bind fun q => (index p.1 q.1 q.2).bind fun r => some (.p r, q.2) := by rfl
@[simp] theorem e_call (f : Nat) (l : List E) (ix : List Nat) : evE W G (.call f l ix) ρ M = (evEs W G l ρ M).bind fun p => (getAll p.1 ix).bind fun as => callX W f as p.2 := by rfl
@[simp] theorem e_bi (b : BI) (l : List E) : evE W G (.bi b l) ρ M = (evEs W G l ρ M).bind fun p => bfun b p.1 p.2 := by rfl
@[simp] theorem e_mt (m : MT) (o : E) (l : List E) : evE W G (.mt m o l) ρ M = (evE W G o ρ M).bind fun p => (evEs W G l ρ p.2).bind fun q => (match p.1 with | .p (.ref i) => (q.2[i]?).bind fun xs => (mtf m q.2 xs q.1).bind fun r => some (.p r.1, q.2.set i r.2) | _ => none) := by rfl
@[simp] theorem e_lc (vs : List Nat) (elt : E) (t : T) (k : IK) (sr ifs : List E) : evE W G (.lc vs elt t k sr ifs) ρ M = (evEs W G sr ρ M).bind fun p => (src k p.1 p.2).bind fun s => (lcs W G vs elt t ifs s s.xs ρ p.2).bind fun q => newl q.1 q.2 := by rfl
@[simp] theorem e_gen (gk : GK) (vs : List Nat) (elt : E) (t : T) (k : IK) (sr ifs : List E) : evE W G (.gen gk vs elt t k sr ifs) ρ M = (evEs W G sr ρ M).bind fun p => (src k p.1 p.2).bind fun s => genEnd gk s (gnx W G vs elt t ifs ρ p.2) p.2 := by rfl
@[simp] theorem e_gen2 (vs : List Nat) (elt : E) (t : T) (k : IK) (sr ifs : List E) (vs1 : List Nat) (t1 : T) (k1 : IK) (sr1 ifs1 : List E) : evE W G (.gen2 vs elt t k sr ifs vs1 t1 k1 sr1 ifs1) ρ M = (evEs W G sr ρ M).bind fun p => (src k p.1 p.2).bind fun s => (cturns (gn2 W G vs elt t ifs vs1 t1 k1 sr1 ifs1 ρ p.2) s.xs).bind fun ys => if ys.length + 1 < sizeLine then some (.p (.tup ys), p.2) else none := by rfl
@[simp] theorem e_dsub (a b : Int) (x y i : E) : evE W G (.dsub a b x y i) ρ M = (evE W G x ρ M).bind fun p => (evE W G y ρ p.2).bind fun q => (evE W G i ρ q.2).bind fun k => (match k.1 with | .p (.int n) => if n = a then some (p.1, k.2) else if n = b then some (q.1, k.2) else none | _ => none) := by rfl
@[simp] theorem e_rl (b : Bool) (l : List E) : evE W G (.rl b l) ρ M = (evEs W G l ρ M).bind fun p => rangeL b p.1 p.2 := by rfl
@[simp] theorem es_nil : evEs W G [] ρ M = some ([], M) := by rfl
@[simp] theorem es_cons (e : E) (es : List E) : evEs W G (e :: es) ρ M = (evE W G e ρ M).bind fun p => (evEs W G es ρ p.2).bind fun q => some (p.1 :: q.1, q.2) := by rfl
@[simp] theorem t_tru' (a : E) : evT W G (.tru a) ρ M = (evE W G a ρ M).bind fun p => (truth p.2 p.1).bind fun b => some (b, p.2) := by rfl
@[simp] theorem t_not' (a : E) : evT W G (.not a) ρ M = (evT W G a ρ M).bind fun p => some (!p.1, p.2) := by rfl
@[simp] theorem t_cmp' (o : CO) (a b : E) : evT W G (.cmp o a b) ρ M = (evE W G a ρ M).bind fun p => (evE W G b ρ p.2).bind fun q => (cmpop o p.1 q.1 q.2).bind fun r => some (r, q.2) := by rfl
@[simp] theorem t_and' (l : List E) : evT W G (.and l) ρ M = evTAnd W G l ρ M := by rfl
@[simp] theorem t_or' (l : List E) : evT W G (.or l) ρ M = evTOr W G l ρ M := by rfl
@[simp] theorem ta1 (e : E) : evTAnd W G [e] ρ M = evT W G e ρ M := by rfl
@[simp] theorem ta2 (e f : E) (es : List E) : evTAnd W G (e :: f :: es) ρ M = (evT W G e ρ M).bind fun p => if p.1 = true then evTAnd W G (f :: es) ρ p.2 else some (false, p.2) := by rfl
@[simp] theorem to1 (e : E) : evTOr W G [e] ρ M = evT W G e ρ M := by rfl
@[simp] theorem to2 (e f : E) (es : List E) : evTOr W G (e :: f :: es) ρ M = (evT W G e ρ M).bind fun p => if p.1 = true then some (true, p.2) else evTOr W G (f :: es) ρ p.2 := by rfl
@[simp] theorem va1 (e : E) : evAnd W G [e] ρ M = evE W G e ρ M := by rfl
@[simp] theorem vo1 (e : E) : evOr W G [e] ρ M = evE W G e ρ M := by rfl
@[simp] theorem va2 (e f : E) (es : List E) : evAnd W G (e :: f :: es) ρ M = (evE W G e ρ M).bind fun p => (match p.1 with | .p (.bl true) => evAnd W G (f :: es) ρ p.2 | .p (.bl false) => some (.p (.bl false), p.2) | _ => none) := by rfl
@[simp] theorem vo2 (e f : E) (es : List E) : evOr W G (e :: f :: es) ρ M = (evE W G e ρ M).bind fun p => (match p.1 with | .p (.bl true) => some (.p (.bl true), p.2) | .p (.bl false) => evOr W G (f :: es) ρ p.2 | _ => none) := by rfl
@[simp] theorem ifs0 : evIfs W G [] ρ M = some (true, M) := by rfl
@[simp] theorem ifs1 (c : E) : evIfs W G [c] ρ M = evT W G c ρ M := by rfl
@[simp] theorem ss_nil' : evSs W G N [] ρ M = some (.nx ρ M) := by rfl
theorem ss_cons' (s : S) (r : List S) : evSs W G N (s :: r) ρ M = (evS W G N s ρ M).bind fun o => (match o with | .nx ρ M => evSs W G N r ρ M | o => some o) := by rfl
@[simp] theorem s_set' (t : T) (e : E) : evS W G N (.set t e) ρ M = (evE W G e ρ M).bind fun p => (t.putD p.1 ρ).bind fun ρ' => some (.nx ρ' p.2) := by rfl
@[simp] theorem s_par' (is : List Nat) (es : List E) : evS W G N (.par is es) ρ M = (evEs W G es ρ M).bind fun p => (parE is p.1 ρ).bind fun ρ' => some (.nx ρ' p.2) := by rfl
@[simp] theorem s_seti' (o i e : E) : evS W G N (.seti o i e) ρ M = (evE W G e ρ M).bind fun d => (evE W G o ρ d.2).bind fun x => (evE W G i ρ x.2).bind fun k => (match x.1, k.1, d.1 with
    | .p (.ref j), .p (.int n), .p v => (k.2[j]?).bind fun xs => (seti xs n v).bind fun ys => some (.nx ρ (k.2.set j ys))
    | _, _, _ => none) := by rfl
@[simp] theorem s_aug' (i : Nat) (o : BO) (e : E) : evS W G N (.aug i o e) ρ M = (match ρ[i]? with
    | some (some x) => (evE W G e ρ M).bind fun y => (augop o x y.1).bind fun z => some (.nx (ρ.set i (some (.p z))) y.2)
    | _ => none) := by rfl
@[simp] theorem s_augi' (a i : E) (o : BO) (e : E) : evS W G N (.augi a i o e) ρ M = (evE W G a ρ M).bind fun x => (evE W G i ρ x.2).bind fun k => (index x.1 k.1 k.2).bind fun old => (evE W G e ρ k.2).bind fun y => (augop o (.p old) y.1).bind fun z => (match x.1, k.1 with
    | .p (.ref j), .p (.int n) => (y.2[j]?).bind fun xs => (seti xs n z).bind fun ys => some (.nx ρ (y.2.set j ys))
    | _, _ => none) := by rfl
@[simp] theorem s_ife' (t : E) (a b : List S) : evS W G N (.ife t a b) ρ M = (evT W G t ρ M).bind fun p => if p.1 = true then evSs W G N a ρ p.2 else evSs W G N b ρ p.2 := by rfl
@[simp] theorem s_loop' (t : T) (k : IK) (sr : List E) (b : List S) : evS W G N (.loop t k sr b) ρ M = (evEs W G sr ρ M).bind fun p => (src k p.1 p.2).bind fun s => lop W G N t b s s.xs ρ p.2 := by rfl
@[simp] theorem s_whl' (t : E) (b : List S) : evS W G N (.whl t b) ρ M = whl W G N t b N ρ M := by rfl
@[simp] theorem s_ret' (e : E) : evS W G N (.ret e) ρ M = (evE W G e ρ M).bind fun p => some (.rt p.1 p.2) := by rfl
@[simp] theorem s_retn' : evS W G N .retn ρ M = some (.rt (.p .non) M) := by rfl
@[simp] theorem s_ex' (e : E) : evS W G N (.ex e) ρ M = (evE W G e ρ M).bind fun p => some (.nx ρ p.2) := by rfl
@[simp] theorem s_pas' : evS W G N .pas ρ M = some (.nx ρ M) := by rfl
theorem whl_step (t : E) (b : List S) (n : Nat) : whl W G N t b (n + 1) ρ M = (evT W G t ρ M).bind fun p => if p.1 = true then (evSs W G N b ρ p.2).bind fun o => (match o with
      | .nx ρ M => whl W G N t b n ρ M
      | .ct ρ M => whl W G N t b n ρ M
      | .bk ρ M => some (.nx ρ M)
      | .rt d M => some (.rt d M)
      | .xc c xs M => some (.xc c xs M)) else some (.nx ρ p.2) := by rfl
@[simp] theorem lop_nil (t : T) (b : List S) (s : Src) : lop W G N t b s [] ρ M = some (.nx ρ M) := by rfl
theorem lop_cons (t : T) (b : List S) (s : Src) (x : P) (r : List P) : lop W G N t b s (x :: r) ρ M = ((t.put x ρ).bind fun ρ' => evSs W G N b ρ' M).bind fun o => (match o with
    | .nx ρ M => if s.ok M = true then lop W G N t b s r ρ M else none
    | .ct ρ M => if s.ok M = true then lop W G N t b s r ρ M else none
    | .bk ρ M => some (.nx ρ M)
    | .rt d M => some (.rt d M)
    | .xc c xs M => some (.xc c xs M)) := by rfl
@[simp] theorem lcs_nil (vs : List Nat) (elt : E) (t : T) (ifs : List E) (s : Src) : lcs W G vs elt t ifs s [] ρ M = some ([], M) := by rfl
theorem lcs_cons (vs : List Nat) (elt : E) (t : T) (ifs : List E) (s : Src) (x : P) (r : List P) : lcs W G vs elt t ifs s (x :: r) ρ M = (lcx W G vs elt t ifs ρ x M).bind fun o => if s.ok o.2 = true then (lcs W G vs elt t ifs s r ρ o.2).bind fun q => some (o.1 ++ q.1, q.2) else none := by rfl
@[simp] theorem putD_nm (i : Nat) (d : D) : T.putD (.nm i) d ρ = if i < ρ.length then some (ρ.set i (some d)) else none := by rfl
@[simp] theorem putD_tp (ts : List T) (x : P) : T.putD (.tp ts) (.p x) ρ = T.put (.tp ts) x ρ := by rfl
@[simp] theorem put_nm (i : Nat) (x : P) : T.put (.nm i) x ρ = if i < ρ.length then some (ρ.set i (some (.p x))) else none := by rfl
@[simp] theorem put_tp (ts : List T) (l : List P) : T.put (.tp ts) (.tup l) ρ = T.puts ts l ρ := by rfl
@[simp] theorem puts_nil : T.puts [] [] ρ = some ρ := by rfl
@[simp] theorem puts_cons (t : T) (ts : List T) (x : P) (xs : List P) : T.puts (t :: ts) (x :: xs) ρ = (T.put t x ρ).bind fun ρ' => T.puts ts xs ρ' := by rfl
@[simp] theorem b_add (a b : Int) : binop .add (.p (.int a)) (.p (.int b)) M = some (.p (.int (a + b)), M) := by rfl
@[simp] theorem b_sub (a b : Int) : binop .sub (.p (.int a)) (.p (.int b)) M = some (.p (.int (a - b)), M) := by rfl
@[simp] theorem b_mul (a b : Int) : binop .mul (.p (.int a)) (.p (.int b)) M = if mulOk a b = true then some (.p (.int (a * b)), M) else none := by rfl
@[simp] theorem b_div (a b : Int) : binop .fdiv (.p (.int a)) (.p (.int b)) M = if divOk b = true then some (.p (.int (a.fdiv b)), M) else none := by rfl
@[simp] theorem b_mod (a b : Int) : binop .mod (.p (.int a)) (.p (.int b)) M = if b ≠ 0 then some (.p (.int (a.fmod b)), M) else none := by rfl
@[simp] theorem c_lt (a b : Int) : cmpop .lt (.p (.int a)) (.p (.int b)) M = some (decide (a < b)) := by rfl
@[simp] theorem c_le (a b : Int) : cmpop .le (.p (.int a)) (.p (.int b)) M = some (decide (a ≤ b)) := by rfl
@[simp] theorem c_gt (a b : Int) : cmpop .gt (.p (.int a)) (.p (.int b)) M = some (decide (b < a)) := by rfl
@[simp] theorem c_ge (a b : Int) : cmpop .ge (.p (.int a)) (.p (.int b)) M = some (decide (b ≤ a)) := by rfl
@[simp] theorem eqv_int (a b : Int) : P.eqv (.int a) (.int b) = (a == b) := by rfl
@[simp] theorem c_eq (a b : Int) : cmpop .eq (.p (.int a)) (.p (.int b)) M = some (a == b) := by rfl
@[simp] theorem c_ne (a b : Int) : cmpop .ne (.p (.int a)) (.p (.int b)) M = some (!(a == b)) := by rfl
@[simp] theorem tr_int (a : Int) : truth M (.p (.int a)) = some (a != 0) := by rfl
@[simp] theorem tr_bl (a : Bool) : truth M (.p (.bl a)) = some a := by rfl
@[simp] theorem bf_abs (a : Int) : bfun .abs [.p (.int a)] M = some (.p (.int (if a < 0 then -a else a)), M) := by rfl
@[simp] theorem bf_int (a : Int) : bfun .int [.p (.int a)] M = some (.p (.int a), M) := by rfl
@[simp] theorem bf_intb (b : Bool) : bfun .int [.p (.bl b)] M = some (.p (.int (if b then 1 else 0)), M) := by rfl
@[simp] theorem bf_len (d : D) : bfun .len [d] M = (items M d).bind fun l => some (.p (.int l.length), M) := by rfl
@[simp] theorem bf_tuple (d : D) : bfun .tuple [d] M = (items M d).bind fun l => some (.p (.tup l), M) := by rfl
@[simp] theorem bf_list (d : D) : bfun .list [d] M = (items M d).bind fun l => newl l M := by rfl
@[simp] theorem it_tup' (l : List P) : items M (.p (.tup l)) = some l := by rfl
@[simp] theorem it_l' (i : Nat) : items M (.p (.ref i)) = M[i]? := by rfl
@[simp] theorem it_scr' (l : List P) : items M (.scr l) = some l := by rfl
@[simp] theorem datas_nil : datas [] = some [] := by rfl
@[simp] theorem datas_cons (x : P) (r : List D) : datas (.p x :: r) = (datas r).bind fun xs => some (x :: xs) := by rfl
@[simp] theorem par_nil : parE [] [] ρ = some ρ := by rfl
@[simp] theorem par_cons (i : Nat) (is : List Nat) (d : D) (ds : List D) : parE (i :: is) (d :: ds) ρ = if i < ρ.length then parE is ds (ρ.set i (some d)) else none := by rfl
@[simp] theorem ga_nil {A : Type} (xs : List A) : getAll xs [] = some [] := by rfl
@[simp] theorem ga_cons {A : Type} (xs : List A) (i : Nat) (r : List Nat) : getAll xs (i :: r) = (xs[i]?).bind fun x => (getAll xs r).bind fun rs => some (x :: rs) := by rfl
@[simp] theorem fin_rt (d : D) (M : Mem) : fin (.rt d M) = some (d, M) := by rfl
@[simp] theorem fin_nx (ρ : Env) (M : Mem) : fin (.nx ρ M) = some (.p .non, M) := by rfl
@[simp] theorem s_raise' (c : Str) (l : List E) : evS W G N (.raise c l) ρ M = (evEs W G l ρ M).bind fun p => (datas p.1).bind fun xs => if smallPs xs = true then some (.xc c xs p.2) else none := by rfl
@[simp] theorem smallPs_nil : smallPs [] = true := by rfl
@[simp] theorem smallPs_cons (x : P) (r : List P) : smallPs (x :: r) = (smallP x && smallPs r) := by rfl
@[simp] theorem smallP_int (i : Int) : smallP (.int i) = decide (i.natAbs < 18446744073709551616) := by rfl
@[simp] theorem smallP_str (s : Str) : smallP (.str s) = decide (s.length ≤ 1000) := by rfl
def xcall (f : Nat) (as : List D) (M : Mem) : Option (D × Mem) := (W (f + XO) as M).bind fun q => some (back M q.1 q.2)
@[simp] theorem s_xcall' (k : XC) (f : Nat) (l : List E) (ix : List Nat) : evS W G N (.xcall k f l ix) ρ M = (evEs W G l ρ M).bind fun p => (getAll p.1 ix).bind fun as => (xcall (W := W) f as p.2).bind fun q => callS k ρ q.1 q.2 := by
  show (evEs W G l ρ M).bind (fun p => (getAll p.1 ix).bind fun as => (W (f + XO) as p.2).bind fun q => callS k ρ (back p.2 q.1 q.2).1 (back p.2 q.1 q.2).2) = _
  cases evEs W G l ρ M with
  | none => rfl
  | some p =>
    show (getAll p.1 ix).bind _ = (getAll p.1 ix).bind _
    cases getAll p.1 ix with
    | none => rfl
    | some as =>
      show (W (f + XO) as p.2).bind _ = ((W (f + XO) as p.2).bind _).bind _
      cases W (f + XO) as p.2 <;> rfl
@[simp] theorem s_try' (b : List S) (c : Str) (h : HR) : evS W G N (.tryS b c h) ρ M = (evSs W G N b ρ M).bind (tryO c h) := by rfl
@[simp] theorem cs_ex (x : P) : callS .ex ρ (.p (.tup [.bl true, x])) M = some (.nx ρ M) := by rfl
@[simp] theorem cs_ret (x : P) : callS .ret ρ (.p (.tup [.bl true, x])) M = some (.rt (.p x) M) := by rfl
@[simp] theorem cs_retc (c x : P) : callS (.retc c) ρ (.p (.tup [.bl true, x])) M = some (.rt (.p (.tup [c, x])) M) := by rfl
@[simp] theorem cs_xc (k : XC) (c : Str) (xs : List P) : callS k ρ (.p (.tup [.bl false, .str c, .tup xs])) M = some (.xc c xs M) := by rfl
theorem evF_step (Φ : Nat → Option Fn) (k f : Nat) (ds : List D) (fn : Fn) (h : Φ f = some fn) (hl : ds.length = fn.np) (hf : f < XO) : evF Φ G N (k + 1) f ds M = (evSs (evF Φ G N k) G N fn.body (entry fn ds) M).bind fin := by
  show (if XO ≤ f then (Φ (f - XO)).bind fun fn => if ds.length = fn.np then (evSs (evF Φ G N k) G N fn.body (entry fn ds) M).bind finx else none
    else (Φ f).bind fun fn => if ds.length = fn.np then (evSs (evF Φ G N k) G N fn.body (entry fn ds) M).bind fin else none) = _
  rw [if_neg (by omega), h]
  exact if_pos hl
theorem evF_stepx (Φ : Nat → Option Fn) (k f : Nat) (ds : List D) (fn : Fn) (h : Φ f = some fn) (hl : ds.length = fn.np) : evF Φ G N (k + 1) (f + XO) ds M = (evSs (evF Φ G N k) G N fn.body (entry fn ds) M).bind finx := by
  show (if XO ≤ f + XO then (Φ (f + XO - XO)).bind fun fn => if ds.length = fn.np then (evSs (evF Φ G N k) G N fn.body (entry fn ds) M).bind finx else none
    else (Φ (f + XO)).bind fun fn => if ds.length = fn.np then (evSs (evF Φ G N k) G N fn.body (entry fn ds) M).bind fin else none) = _
  rw [if_pos (by omega), show f + XO - XO = f by omega, h]
  exact if_pos hl
@[simp] theorem obs {A B : Type} (a : A) (f : A → Option B) : (some a).bind f = f a := by rfl
theorem back_pure {d : D} {X : Mem} (h : d.und M.length = true) : back M d (M ++ X) = (d, M) := by
  unfold back
  rw [if_pos]
  · rw [List.take_left]
  · rw [h, Bool.true_and, List.all_eq_true]
    intro i hi
    rw [List.mem_range] at hi
    rw [Bool.or_eq_true]
    exact .inl (decide_eq_true (List.getElem?_append_left hi))
/-- a call that only computes -/
theorem callX_pure {f : Nat} {as : List D} {x : P} {X : Mem} (h : W f as M = some (.p x, M ++ X)) (hx : x.und M.length = true) : callX W f as M = some (.p x, M) := by
  unfold callX
  rw [h]
  show some (back M (.p x) (M ++ X)) = _
  rw [back_pure (d := .p x) hx]
end
end IX
end

section
set_option linter.all false
set_option autoImplicit false
set_option maxRecDepth 100000
/-! Running the small language forward: an outcome of which something holds. -/
namespace IX
open PySem
/-- there is an outcome, and Q holds of it -/
def Wp {A : Type} (o : Option A) (Q : A → Prop) : Prop := ∃ a, o = some a ∧ Q a
section
variable {A B : Type}
@[simp] theorem wp_some {a : A} {Q : A → Prop} : Wp (some a) Q ↔ Q a := ⟨fun ⟨_, e, h⟩ => by cases e; exact h, fun h => ⟨a, rfl, h⟩⟩
@[simp] theorem wp_none {Q : A → Prop} : Wp (none : Option A) Q ↔ False := ⟨fun ⟨_, e, _⟩ => (by cases e), fun h => h.elim⟩
theorem Wp.mono {o : Option A} {P Q : A → Prop} (h : Wp o P) (k : ∀ a, P a → Q a) : Wp o Q := by
  obtain ⟨a, e, p⟩ := h; exact ⟨a, e, k a p⟩
theorem Wp.bind {o : Option A} {f : A → Option B} {P : A → Prop} {Q : B → Prop} (h : Wp o P) (k : ∀ a, P a → Wp (f a) Q) : Wp (o.bind f) Q := by
  obtain ⟨a, rfl, p⟩ := h; exact k a p
theorem Wp.bindI {o : Option A} {f : A → Option B} {Q : B → Prop} (h : Wp o fun a => Wp (f a) Q) : Wp (o.bind f) Q := h.bind fun _ z => z
@[simp] theorem wp_ite {c : Prop} [Decidable c] {a b : Option A} {Q : A → Prop} : Wp (if c then a else b) Q ↔ (c → Wp a Q) ∧ (¬c → Wp b Q) := by
  split <;> simp [*]
@[simp] theorem bind_ite {c : Prop} [Decidable c] {a b : Option A} {f : A → Option B} : (if c then a else b).bind f = if c then a.bind f else b.bind f := by split <;> rfl
@[simp] theorem none_bind {f : A → Option B} : (none : Option A).bind f = none := by rfl
@[simp] theorem bind_as {C : Type} {o : Option A} {f : A → Option B} {g : B → Option C} : (o.bind f).bind g = o.bind fun a => (f a).bind g := by cases o <;> rfl
@[simp] theorem map_some' {a : A} {f : A → B} : (some a).map f = some (f a) := by rfl
end
section
variable {W : Wd} {G : Str → Option P} {N : Nat} {ρ : Env} {M : Mem}
def After (W : Wd) (G : Str → Option P) (N : Nat) (r : List S) (Q : Out → Prop) : Out → Prop
  | .nx ρ M => Wp (evSs W G N r ρ M) Q
  | o => Q o
variable {r : List S} {Q : Out → Prop}
@[simp] theorem after_nx : After W G N r Q (.nx ρ M) ↔ Wp (evSs W G N r ρ M) Q := by exact Iff.rfl
@[simp] theorem after_rt {d : D} : After W G N r Q (.rt d M) ↔ Q (.rt d M) := by exact Iff.rfl
@[simp] theorem after_bk : After W G N r Q (.bk ρ M) ↔ Q (.bk ρ M) := by exact Iff.rfl
@[simp] theorem after_xc {c : Str} {xs : List P} : After W G N r Q (.xc c xs M) ↔ Q (.xc c xs M) := by exact Iff.rfl
@[simp] theorem after_ct : After W G N r Q (.ct ρ M) ↔ Q (.ct ρ M) := by exact Iff.rfl
@[simp] theorem wp_cons {s : S} : Wp (evSs W G N (s :: r) ρ M) Q ↔ Wp (evS W G N s ρ M) (After W G N r Q) := by
  rw [ss_cons']
  constructor
  · rintro ⟨a, e, h⟩
    obtain ⟨o, e1, e2⟩ := Option.bind_eq_some_iff.mp e
    refine ⟨o, e1, ?_⟩
    cases o with
    | nx ρ M => exact ⟨a, e2, h⟩
    | _ => cases e2; exact h
  · rintro ⟨o, e, h⟩
    rw [e]
    cases o with
    | nx ρ M => exact h
    | _ => exact ⟨_, rfl, h⟩
@[simp] theorem wp_nil : Wp (evSs W G N [] ρ M) Q ↔ Q (.nx ρ M) := wp_some
def Fin (Q : D × Mem → Prop) : Out → Prop
  | .rt d M => Q (d, M)
  | .nx _ M => Q (.p .non, M)
  | _ => False
@[simp] theorem Fin_rt {Q : D × Mem → Prop} {d : D} : Fin Q (.rt d M) ↔ Q (d, M) := by exact Iff.rfl
@[simp] theorem Fin_nx {Q : D × Mem → Prop} : Fin Q (.nx ρ M) ↔ Q (.p .non, M) := by exact Iff.rfl
theorem wp_fn {Φ : Nat → Option Fn} {k f : Nat} {ds : List D} (fn : Fn) {Q : D × Mem → Prop} (h : Φ f = some fn) (hl : ds.length = fn.np) (w : Wp (evSs (evF Φ G N k) G N fn.body (entry fn ds) M) (Fin Q)) (hf : f < XO := by decide) : Wp (evF Φ G N (k + 1) f ds M) Q := by
  rw [evF_step Φ k f ds fn h hl hf]
  refine w.bind fun o q => ?_
  cases o <;> first | exact ⟨_, rfl, q⟩ | exact q.elim
/-- a def that may raise -/
def Finx (Q : D × Mem → Prop) : Out → Prop
  | .rt (.p x) M => Q (.p (.tup [.bl true, x]), M)
  | .nx _ M => Q (.p (.tup [.bl true, .non]), M)
  | .xc c xs M => Q (.p (.tup [.bl false, .str c, .tup xs]), M)
  | _ => False
@[simp] theorem Finx_rt {Q : D × Mem → Prop} {x : P} : Finx Q (.rt (.p x) M) ↔ Q (.p (.tup [.bl true, x]), M) := by exact Iff.rfl
@[simp] theorem Finx_nx {Q : D × Mem → Prop} : Finx Q (.nx ρ M) ↔ Q (.p (.tup [.bl true, .non]), M) := by exact Iff.rfl
@[simp] theorem Finx_xc {Q : D × Mem → Prop} {c : Str} {xs : List P} : Finx Q (.xc c xs M) ↔ Q (.p (.tup [.bl false, .str c, .tup xs]), M) := by exact Iff.rfl
theorem wp_fnx {Φ : Nat → Option Fn} {k f : Nat} {ds : List D} (fn : Fn) {Q : D × Mem → Prop} (h : Φ f = some fn) (hl : ds.length = fn.np) (w : Wp (evSs (evF Φ G N k) G N fn.body (entry fn ds) M) (Finx Q)) : Wp (evF Φ G N (k + 1) (f + XO) ds M) Q := by
  rw [evF_stepx Φ k f ds fn h hl]
  refine w.bind fun o q => ?_
  cases o with
  | rt d M => cases d <;> first | exact ⟨_, rfl, q⟩ | exact q.elim
  | nx ρ M => exact ⟨_, rfl, q⟩
  | xc c xs M => exact ⟨_, rfl, q⟩
  | _ => exact q.elim
/-- behind a try's body -/
def Tr (c : Str) (h : HR) (Q : Out → Prop) : Out → Prop
  | .xc c' xs M => c' = c ∧ ∃ r, h.ev xs = some r ∧ Q (.rt (.p r) M)
  | o => Q o
theorem wp_try {b : List S} {c : Str} {h : HR} {Q : Out → Prop} (w : Wp (evSs W G N b ρ M) (Tr c h Q)) : Wp (evS W G N (.tryS b c h) ρ M) Q := by
  rw [s_try']
  refine w.bind fun o q => ?_
  cases o with
  | xc c' xs M =>
    obtain ⟨rfl, r, e, q⟩ := q
    exact ⟨_, by show (if c' = c' then (h.ev xs).map fun r => Out.rt (.p r) M else none) = _; rw [if_pos rfl, e]; rfl, q⟩
  | _ => exact ⟨_, rfl, q⟩
@[simp] theorem Tr_rt {c : Str} {h : HR} {Q : Out → Prop} {d : D} : Tr c h Q (.rt d M) ↔ Q (.rt d M) := by exact Iff.rfl
@[simp] theorem Tr_nx {c : Str} {h : HR} {Q : Out → Prop} : Tr c h Q (.nx ρ M) ↔ Q (.nx ρ M) := by exact Iff.rfl
@[simp] theorem Tr_xc {c c' : Str} {xs : List P} {h : HR} {Q : Out → Prop} : Tr c h Q (.xc c' xs M) ↔ c' = c ∧ ∃ r, h.ev xs = some r ∧ Q (.rt (.p r) M) := by exact Iff.rfl
/-- behind a loop's turn -/
def LP (s : Src) (I : Env → Mem → Prop) (Q : Out → Prop) : Out → Prop
  | .nx ρ M => s.ok M = true ∧ I ρ M
  | .ct ρ M => s.ok M = true ∧ I ρ M
  | .bk ρ M => Q (.nx ρ M)
  | .rt d M => Q (.rt d M)
  | .xc c xs M => Q (.xc c xs M)
variable {s : Src} {I : Env → Mem → Prop}
@[simp] theorem LP_nx : LP s I Q (.nx ρ M) ↔ s.ok M = true ∧ I ρ M := by exact Iff.rfl
@[simp] theorem LP_ct : LP s I Q (.ct ρ M) ↔ s.ok M = true ∧ I ρ M := by exact Iff.rfl
@[simp] theorem LP_bk : LP s I Q (.bk ρ M) ↔ Q (.nx ρ M) := by exact Iff.rfl
@[simp] theorem LP_xc {c : Str} {xs : List P} : LP s I Q (.xc c xs M) ↔ Q (.xc c xs M) := by exact Iff.rfl
@[simp] theorem LP_rt {d : D} : LP s I Q (.rt d M) ↔ Q (.rt d M) := by exact Iff.rfl
theorem lop_wp {A : Type} (g : A → P) {t : T} {b : List S} (J : List A → List A → Env → Mem → Prop) (as : List A) (h0 : J [] as ρ M)
    (step : ∀ pre a r ρ M, as = pre ++ a :: r → J pre (a :: r) ρ M → Wp ((t.put (g a) ρ).bind fun ρ' => evSs W G N b ρ' M) (LP s (J (pre ++ [a]) r) Q))
    (done : ∀ ρ M, J as [] ρ M → Q (.nx ρ M)) : Wp (lop W G N t b s (as.map g) ρ M) Q := by
  have key : ∀ (r pre : List A) (ρ : Env) (M : Mem), as = pre ++ r → J pre r ρ M → Wp (lop W G N t b s (r.map g) ρ M) Q := by
    intro r
    induction r with
    | nil =>
      intro pre ρ M e h
      rw [List.append_nil] at e; subst e
      exact ⟨_, rfl, done ρ M h⟩
    | cons a r ih =>
      intro pre ρ M e h
      rw [List.map_cons, lop_cons]
      refine (step pre a r ρ M e h).bind fun o q => ?_
      cases o with
      | nx ρ M => rw [LP_nx] at q; simp only [q.1, if_true]; exact ih _ ρ M (by simp [e]) q.2
      | ct ρ M => rw [LP_ct] at q; simp only [q.1, if_true]; exact ih _ ρ M (by simp [e]) q.2
      | bk ρ M => exact ⟨_, rfl, q⟩
      | rt d M => exact ⟨_, rfl, q⟩
      | xc c xs M => exact ⟨_, rfl, q⟩
  exact key as [] ρ M rfl h0
/-- with the invariant and what follows as letters -/
theorem lop_wpJ {A : Type} (g : A → P) {t : T} {b : List S} (J : List A → List A → Env → Mem → Prop) (as : List A) (h0 : J [] as ρ M)
    (step : ∀ J' Q', J' = J → Q' = Q → ∀ pre a r ρ M, as = pre ++ a :: r → J pre (a :: r) ρ M → Wp ((t.put (g a) ρ).bind fun ρ' => evSs W G N b ρ' M) (LP s (J' (pre ++ [a]) r) Q'))
    (done : ∀ ρ M, J as [] ρ M → Q (.nx ρ M)) : Wp (lop W G N t b s (as.map g) ρ M) Q :=
  lop_wp g J as h0 (fun pre a r ρ M => step J Q rfl rfl pre a r ρ M) done
theorem lcs_wp {A : Type} (g : A → P) {vs : List Nat} {elt : E} {t : T} {ifs : List E} (J : List A → List A → List P → Mem → Prop) (as : List A) (h0 : J [] as [] M) {Q : List P × Mem → Prop}
    (step : ∀ pre a r acc M, as = pre ++ a :: r → J pre (a :: r) acc M → Wp (lcx W G vs elt t ifs ρ (g a) M) fun o => s.ok o.2 = true ∧ J (pre ++ [a]) r (acc ++ o.1) o.2)
    (done : ∀ acc M, J as [] acc M → Q (acc, M)) : Wp (lcs W G vs elt t ifs s (as.map g) ρ M) Q := by
  have key : ∀ (r pre : List A) (acc : List P) (M : Mem), as = pre ++ r → J pre r acc M → Wp (lcs W G vs elt t ifs s (r.map g) ρ M) fun q => Q (acc ++ q.1, q.2) := by
    intro r
    induction r with
    | nil =>
      intro pre acc M e h
      rw [List.append_nil] at e; subst e
      refine ⟨_, rfl, ?_⟩
      show Q (acc ++ [], M)
      rw [List.append_nil]; exact done acc M h
    | cons a r ih =>
      intro pre acc M e h
      rw [List.map_cons, lcs_cons]
      refine (step pre a r acc M e h).bind fun o q => ?_
      rw [q.1]
      simp only [if_true]
      refine (ih _ _ _ (by simp [e]) q.2).bind fun z hz => ⟨_, rfl, ?_⟩
      rw [List.append_assoc] at hz; exact hz
  exact (key as [] [] M rfl h0).mono fun q h => h
theorem lcs_map {A : Type} (g h : A → P) {vs : List Nat} {elt : E} {t : T} {ifs : List E} (ok : s.ok M = true) : ∀ as : List A, (∀ a ∈ as, lcx W G vs elt t ifs ρ (g a) M = some ([h a], M)) → lcs W G vs elt t ifs s (as.map g) ρ M = some (as.map h, M)
  | [], _ => rfl
  | a :: as, H => by
    rw [List.map_cons, lcs_cons, H a List.mem_cons_self]
    simp only [obs, ok, if_true]
    rw [lcs_map g h ok as fun b hb => H b (List.mem_cons_of_mem _ hb)]
    rfl
theorem lcs_filter {A : Type} (g h : A → P) (p : A → Bool) {vs : List Nat} {elt : E} {t : T} {ifs : List E} (ok : s.ok M = true) : ∀ as : List A, (∀ a ∈ as, lcx W G vs elt t ifs ρ (g a) M = some (if p a = true then [h a] else [], M)) → lcs W G vs elt t ifs s (as.map g) ρ M = some ((as.filter p).map h, M)
  | [], _ => rfl
  | a :: as, H => by
    rw [List.map_cons, lcs_cons, H a List.mem_cons_self]
    simp only [obs, ok, if_true]
    rw [lcs_filter g h p ok as fun b hb => H b (List.mem_cons_of_mem _ hb)]
    cases e : p a <;> simp [List.filter_cons, e]
theorem gturns_map {A : Type} {F : P → Option (Option P)} (g h : A → P) : ∀ as : List A, (∀ a ∈ as, F (g a) = some (some (h a))) → gturns F (as.map g) = some (as.map h)
  | [], _ => rfl
  | a :: as, H => by
    show (F (g a)).bind (fun o => (gturns F (as.map g)).bind fun ys => some (o.toList ++ ys)) = _
    rw [H a List.mem_cons_self, gturns_map g h as fun b hb => H b (List.mem_cons_of_mem _ hb)]
    rfl
theorem gturns_filter {A : Type} {F : P → Option (Option P)} (g h : A → P) (p : A → Bool) : ∀ as : List A, (∀ a ∈ as, F (g a) = some (if p a = true then some (h a) else none)) → gturns F (as.map g) = some ((as.filter p).map h)
  | [], _ => rfl
  | a :: as, H => by
    show (F (g a)).bind (fun o => (gturns F (as.map g)).bind fun ys => some (o.toList ++ ys)) = _
    rw [H a List.mem_cons_self, gturns_filter g h p as fun b hb => H b (List.mem_cons_of_mem _ hb)]
    cases e : p a <;> simp [List.filter_cons, e]
theorem gtest_all {A : Type} {F : P → Option (Option P)} (g : A → P) (p : A → Bool) : ∀ as : List A, (∀ a ∈ as, F (g a) = some (some (.bl (p a)))) → gtest false F (as.map g) = some (as.all p)
  | [], _ => rfl
  | a :: as, H => by
    show (F (g a)).bind (fun o => (match o with | none => gtest false F (as.map g) | some y => (truth [] (.p y)).bind fun b => if b = false then some false else gtest false F (as.map g))) = _
    rw [H a List.mem_cons_self]
    show (some (p a)).bind (fun b => if b = false then some false else gtest false F (as.map g)) = _
    rw [gtest_all g p as fun b hb => H b (List.mem_cons_of_mem _ hb)]
    cases e : p a <;> simp [e]
theorem gtest_any {A : Type} {F : P → Option (Option P)} (g : A → P) (p : A → Bool) : ∀ as : List A, (∀ a ∈ as, F (g a) = some (some (.bl (p a)))) → gtest true F (as.map g) = some (as.any p)
  | [], _ => rfl
  | a :: as, H => by
    show (F (g a)).bind (fun o => (match o with | none => gtest true F (as.map g) | some y => (truth [] (.p y)).bind fun b => if b = true then some true else gtest true F (as.map g))) = _
    rw [H a List.mem_cons_self]
    show (some (p a)).bind (fun b => if b = true then some true else gtest true F (as.map g)) = _
    rw [gtest_any g p as fun b hb => H b (List.mem_cons_of_mem _ hb)]
    cases e : p a <;> simp [e]
theorem cturns_map {A : Type} {F : P → Option (List P)} (g : A → P) (h : A → List P) : ∀ as : List A, (∀ a ∈ as, F (g a) = some (h a)) → cturns F (as.map g) = some (as.flatMap h)
  | [], _ => rfl
  | a :: as, H => by
    show (F (g a)).bind (fun o => (cturns F (as.map g)).bind fun ys => some (o ++ ys)) = _
    rw [H a List.mem_cons_self, cturns_map g h as fun b hb => H b (List.mem_cons_of_mem _ hb)]
    rfl
theorem rl_list {n : Int} {M : Mem} (h : small n = true) (h2 : n.toNat ≤ sizeLine) : rangeL true [.p (.int n)] M = newl (rangeP 0 n.toNat) M := by
  show (if small n && decide (n.toNat ≤ sizeLine) then (if true then newl (rangeP 0 n.toNat) M else one (.tup (rangeP 0 n.toNat)) M) else none) = _
  rw [h, decide_eq_true h2]; rfl
theorem rl_tup {n : Int} {M : Mem} (h : small n = true) (h2 : n.toNat ≤ sizeLine) : rangeL false [.p (.int n)] M = some (.p (.tup (rangeP 0 n.toNat)), M) := by
  show (if small n && decide (n.toNat ≤ sizeLine) then (if false then newl (rangeP 0 n.toNat) M else one (.tup (rangeP 0 n.toNat)) M) else none) = _
  rw [h, decide_eq_true h2]; rfl
/-! calls -/
/-- no list number -/
def P.cl (x : P) : Prop := ∀ n, x.und n = true
/-- a call that gives x and leaves what stands -/
def Pure (V : Wd) (f : Nat) (as : List D) (x : P) (M : Mem) : Prop := x.cl ∧ Wp (V f as M) fun r => r.1 = .p x ∧ ∃ X, r.2 = M ++ X
theorem Pure.call {V : Wd} {f : Nat} {as : List D} {x : P} (h : Pure V f as x M) : callX V f as M = some (.p x, M) := by
  obtain ⟨hc, ⟨d, M'⟩, e, h1, X, h2⟩ := h
  dsimp only at h1 h2
  subst h1 h2
  exact callX_pure e (hc _)
theorem pure_of {V : Wd} {f : Nat} {as : List D} {x : P} (hc : x.cl) (w : Wp (V f as M) fun r => r.1 = .p x ∧ ∃ X, r.2 = M ++ X) : Pure V f as x M := ⟨hc, w⟩
@[simp] theorem und_int (i : Int) (n : Nat) : P.und n (.int i) = true := by simp [P.und]
@[simp] theorem und_bl (i : Bool) (n : Nat) : P.und n (.bl i) = true := by simp [P.und]
@[simp] theorem und_str (i : Str) (n : Nat) : P.und n (.str i) = true := by simp [P.und]
@[simp] theorem und_non (n : Nat) : P.und n .non = true := by simp [P.und]
@[simp] theorem und_tup (l : List P) (n : Nat) : P.und n (.tup l) = P.unds n l := by simp [P.und]
@[simp] theorem unds_nil (n : Nat) : P.unds n [] = true := by simp [P.unds]
@[simp] theorem unds_cons (x : P) (l : List P) (n : Nat) : P.unds n (x :: l) = (x.und n && P.unds n l) := by simp [P.unds]
theorem unds_map {A : Type} (g : A → P) (n : Nat) : ∀ as : List A, (∀ a ∈ as, (g a).und n = true) → P.unds n (as.map g) = true
  | [], _ => by simp
  | a :: as, h => by simp [h a List.mem_cons_self, unds_map g n as fun b hb => h b (List.mem_cons_of_mem _ hb)]
theorem cl_int (i : Int) : (P.int i).cl := fun n => by simp
theorem cl_bl (i : Bool) : (P.bl i).cl := fun n => by simp
theorem cl_non : (P.non).cl := fun n => by simp
theorem cl_tup {A : Type} {g : A → P} {as : List A} (h : ∀ a ∈ as, (g a).cl) : (P.tup (as.map g)).cl := fun n => by
  rw [und_tup]; exact unds_map g n as fun a ha => h a ha n
/-! more of the running -/
@[simp] theorem b_pow (a b : Int) : binop .pow (.p (.int a)) (.p (.int b)) M = if (decide (0 ≤ b) && decide (b ≤ 1000000) && decide (a.natAbs < 2 ^ 64)) = true then some (.p (.int (a ^ b.toNat)), M) else none := by rfl
@[simp] theorem b_addT (a b : List P) : binop .add (.p (.tup a)) (.p (.tup b)) M = if a.length + b.length ≤ sizeLine then some (.p (.tup (a ++ b)), M) else none := by rfl
@[simp] theorem b_addL (i j : Nat) : binop .add (.p (.ref i)) (.p (.ref j)) M = (M[i]?).bind fun a => (M[j]?).bind fun b => newl (a ++ b) M := by rfl
@[simp] theorem tr_non : truth M (.p .non) = some false := by rfl
@[simp] theorem tr_tup (l : List P) : truth M (.p (.tup l)) = some (!l.isEmpty) := by rfl
@[simp] theorem tr_ref (i : Nat) : truth M (.p (.ref i)) = M[i]?.map fun xs => !xs.isEmpty := by rfl
@[simp] theorem s_brk' : evS W G N .brk ρ M = some (.bk ρ M) := by rfl
@[simp] theorem s_cnt' : evS W G N .cnt ρ M = some (.ct ρ M) := by rfl
@[simp] theorem c_isN (a : P) : cmpop .is (.p a) (.p .non) M = some (decide (a = .non)) := by rfl
@[simp] theorem c_notN (a : P) : cmpop .isnot (.p a) (.p .non) M = some (!decide (a = .non)) := by rfl
@[simp] theorem bf_isint (x : P) : bfun .isint [.p x] M = some (.p (.bl (match x with | .int _ => true | .bl _ => true | _ => false)), M) := by rfl
@[simp] theorem bf_isbool (x : P) : bfun .isbool [.p x] M = some (.p (.bl (match x with | .bl _ => true | _ => false)), M) := by rfl
@[simp] theorem bf_istup (x : P) : bfun .istup [.p x] M = some (.p (.bl (match x with | .tup _ => true | _ => false)), M) := by rfl
@[simp] theorem bf_isstr (x : P) : bfun .isstr [.p x] M = some (.p (.bl (match x with | .str _ => true | _ => false)), M) := by rfl
@[simp] theorem bf_max2 (a b : Int) : bfun .max [.p (.int a), .p (.int b)] M = some (.p (.int (if b > a then b else a)), M) := by rfl
@[simp] theorem bf_min2 (a b : Int) : bfun .min [.p (.int a), .p (.int b)] M = some (.p (.int (if b < a then b else a)), M) := by rfl
@[simp] theorem e_slc (a : E) (lo hi : Option E) : evE W G (.slc a lo hi) ρ M = (evE W G a ρ M).bind fun p => (evO W G lo ρ p.2).bind fun l => (evO W G hi ρ l.2).bind fun h => slice p.1 l.1 h.1 h.2 := by rfl
@[simp] theorem eo_none : evO W G none ρ M = some (none, M) := by rfl
@[simp] theorem eo_some (e : E) : evO W G (some e) ρ M = (evE W G e ρ M).bind fun p => (match p.1 with | .p (.int i) => some (some i, p.2) | _ => none) := by rfl
@[simp] theorem sl_tup (l : List P) (lo hi : Option Int) : slice (.p (.tup l)) lo hi M = some (.p (.tup (cutp l lo hi)), M) := by rfl
@[simp] theorem sl_ref (i : Nat) (lo hi : Option Int) : slice (.p (.ref i)) lo hi M = M[i]?.bind fun xs => newl (cutp xs lo hi) M := by rfl
@[simp] theorem sl_scr (xs : List P) (lo hi : Option Int) : slice (.scr xs) lo hi M = newl (cutp xs lo hi) M := by rfl
@[simp] theorem e_cmp2 (o o' : CO) (a b c : E) : evE W G (.cmp2 o o' a b c) ρ M = (evE W G a ρ M).bind fun x => (evE W G b ρ x.2).bind fun y => (cmpop o x.1 y.1 y.2).bind fun r => if r = true then (evE W G c ρ y.2).bind fun z => (cmpop o' y.1 z.1 z.2).bind fun r' => some (.p (.bl r'), z.2) else some (.p (.bl false), y.2) := by rfl
@[simp] theorem t_cmp2' (o o' : CO) (a b c : E) : evT W G (.cmp2 o o' a b c) ρ M = (evE W G a ρ M).bind fun x => (evE W G b ρ x.2).bind fun y => (cmpop o x.1 y.1 y.2).bind fun r => if r = true then (evE W G c ρ y.2).bind fun z => (cmpop o' y.1 z.1 z.2).bind fun r' => some (r', z.2) else some (false, y.2) := by rfl
@[simp] theorem mt_append' (xs : List P) (x : P) : mtf .append M xs [.p x] = if xs.length < sizeLine then some (.non, xs ++ [x]) else none := by rfl
@[simp] theorem mt_popi' (xs : List P) (i : Int) : mtf .popi M xs [.p (.int i)] = if (decide (-(2 ^ 63) ≤ i) && decide (i < 2 ^ 63)) = true then (pix xs.length i).bind fun k => (xs[k]?).map fun y => (y, xs.eraseIdx k) else none := by rfl
@[simp] theorem src_tup (l : List P) : src .seq [.p (.tup l)] M = some ⟨l, [], true⟩ := by rfl
@[simp] theorem src_ref (i : Nat) : src .seq [.p (.ref i)] M = M[i]?.map fun xs => ⟨xs, [(i, xs)], true⟩ := by rfl
@[simp] theorem src_enmT (l : List P) : src .enm [.p (.tup l)] M = some ⟨enumP 0 l, [], true⟩ := by rfl
@[simp] theorem src_enmR (i : Nat) : src .enm [.p (.ref i)] M = M[i]?.map fun xs => ⟨enumP 0 xs, [(i, xs)], true⟩ := by
  show (M[i]?.map _).map _ = _
  cases M[i]? <;> rfl
@[simp] theorem src_zipT (l r : List P) : src .zip [.p (.tup l), .p (.tup r)] M = some ⟨zipP l r, [], true⟩ := by rfl
theorem src_rng1 {n : Int} (h : small n = true) : src .rng [.p (.int n)] M = some ⟨rangeP 0 n.toNat, [], true⟩ := by
  show (if small n then _ else _) = _
  rw [if_pos h]
theorem src_rng2 {a n : Int} (h0 : small a = true) (h : small n = true) : src .rng [.p (.int a), .p (.int n)] M = some ⟨rangeP a (n - a).toNat, [], true⟩ := by
  show (if small a && small n then _ else _) = _
  rw [if_pos (by simp [h0, h])]
@[simp] theorem ok_nil (l : List P) (b : Bool) : Src.ok ⟨l, [], b⟩ M = true := by rfl
@[simp] theorem ok_one (l : List P) (i : Nat) (xs : List P) (b : Bool) : Src.ok ⟨l, [(i, xs)], b⟩ M = decide (M[i]? = some xs) := by simp [Src.ok]
theorem rangeP_map (a : Int) (n : Nat) : rangeP a n = (List.range n).map fun (k : Nat) => P.int (a + (k : Int)) := rangeP_eq n a
theorem newl_ok {xs : List P} (h : xs.length ≤ sizeLine) : newl xs M = some (.p (.ref M.length), M ++ [xs]) := if_pos h
end
end IX
end

section
set_option linter.all false
set_option autoImplicit false
set_option maxRecDepth 10000
set_option exponentiation.threshold 100000
/-! Fractions as pairs, their sizes; Euclid's loop. -/
namespace IX
open PySem
def fr (q : Rat) : P := .tup [.int q.num, .int q.den]
def row (l : List Rat) : P := .tup (l.map fr)
theorem fr_cl (q : Rat) : (fr q).cl := fun n => by simp [fr]
theorem row_cl (l : List Rat) : (row l).cl := cl_tup fun q _ => fr_cl q
@[simp] theorem und_fr (q : Rat) (n : Nat) : (fr q).und n = true := fr_cl q n
@[simp] theorem und_row (l : List Rat) (n : Nat) : (row l).und n = true := row_cl l n
@[simp] theorem unds_frs (l : List Rat) (n : Nat) : P.unds n (l.map fr) = true := unds_map fr n l fun q _ => fr_cl q n
theorem fr_inj {a b : Rat} (h : fr a = fr b) : a = b := by
  simp only [fr, P.tup.injEq, List.cons.injEq, P.int.injEq] at h
  exact Rat.ext h.1 (by omega)
theorem fr_eq {a b : Rat} : fr a = fr b ↔ a = b := ⟨fr_inj, fun h => by rw [h]⟩
theorem eqv_fr (a b : Rat) : (fr a).eqv (fr b) = decide (a = b) := by
  have : (fr a).eqv (fr b) = (a.num == b.num && ((a.den : Int) == (b.den : Int) && true)) := by
    simp only [fr, P.eqv, P.toD, P.toDs, PyData.eqv, PyData.eqvAll]
  rw [this]
  by_cases h : a = b
  · subst h; simp
  · rw [decide_eq_false h]
    by_cases h1 : a.num = b.num
    · have h2 : a.den ≠ b.den := fun z => h (Rat.ext h1 z)
      have h3 : ((a.den : Int) == (b.den : Int)) = false := by
        rw [beq_eq_false_iff_ne]; omega
      rw [h3]; simp
    · simp [h1]
theorem fit_fr (q : Rat) (k : Nat) : (fr q).fit (k + 1) = true := by simp [fr, P.fit, P.fits]
theorem fits_frs (k : Nat) : ∀ l : List Rat, P.fits (k + 1) (l.map fr) = true
  | [] => by simp [P.fits]
  | q :: l => by simp [P.fits, fit_fr, fits_frs k l]
theorem fit_row (k : Nat) (l : List Rat) : (row l).fit (k + 2) = true := by simp [row, P.fit, fits_frs]
@[simp] theorem eqd_fr (a b : Rat) (M : Mem) : eqd M (.p (fr a)) (.p (fr b)) = some (decide (a = b)) := by
  show (if (fr a).fit 64 && (fr b).fit 64 then some ((fr a).eqv (fr b)) else none) = _
  rw [fit_fr, fit_fr, eqv_fr]; rfl
@[simp] theorem ceq_fr (a b : Rat) (M : Mem) : cmpop .eq (.p (fr a)) (.p (fr b)) M = some (decide (a = b)) := eqd_fr a b M
@[simp] theorem cne_fr (a b : Rat) (M : Mem) : cmpop .ne (.p (fr a)) (.p (fr b)) M = some (!decide (a = b)) := by
  have : cmpop .ne (.p (fr a)) (.p (fr b)) M = (eqd M (.p (fr a)) (.p (fr b))).map (!·) := by rfl
  rw [this, eqd_fr]; rfl
/-- the value, whatever it is -/
theorem eqvs_fr : ∀ (l m : List Rat), PyData.eqvAll (P.toDs (l.map fr)) (P.toDs (m.map fr)) = decide (l = m)
  | [], [] => by simp [P.toDs, PyData.eqvAll]
  | [], b :: m => by simp [P.toDs, PyData.eqvAll]
  | a :: l, [] => by simp [P.toDs, PyData.eqvAll]
  | a :: l, b :: m => by
    have h := eqv_fr a b
    unfold P.eqv at h
    simp only [List.map_cons, P.toDs, PyData.eqvAll, h, eqvs_fr l m, List.cons.injEq]
    by_cases h1 : a = b <;> by_cases h2 : l = m <;> simp [h1, h2]
theorem eqv_row (l m : List Rat) : (row l).eqv (row m) = decide (l = m) := by
  simp only [row, P.eqv, P.toD, PyData.eqv]; exact eqvs_fr l m
@[simp] theorem at0 (a b : P) (M : Mem) : index (.p (.tup [a, b])) (.p (.int 0)) M = some a := by rfl
@[simp] theorem at1 (a b : P) (M : Mem) : index (.p (.tup [a, b])) (.p (.int 1)) M = some b := by rfl
@[simp] theorem at30 (a b c : P) (M : Mem) : index (.p (.tup [a, b, c])) (.p (.int 0)) M = some a := by rfl
@[simp] theorem at31 (a b c : P) (M : Mem) : index (.p (.tup [a, b, c])) (.p (.int 1)) M = some b := by rfl
@[simp] theorem at32 (a b c : P) (M : Mem) : index (.p (.tup [a, b, c])) (.p (.int 2)) M = some c := by rfl
theorem at_nat {d : D} {M : Mem} {xs : List P} {x : P} {i : Nat} (h : items M d = some xs) (hx : xs[i]? = some x) : index d (.p (.int (i : Int))) M = some x := by
  show (items M d).bind (fun xs => atx xs i) = _
  rw [h]
  have hi := (List.getElem?_eq_some_iff.mp hx).1
  show (pix xs.length i).bind _ = _
  have : pix xs.length (i : Int) = some i := by
    unfold pix
    rw [if_pos (by omega), if_pos (by omega)]; simp
  rw [this]; exact hx
theorem num_eq (n : Int) (d : Nat) (h : d ≠ 0) : (mkRat n d).num = n / ((n.natAbs.gcd d : Nat) : Int) ∧ (mkRat n d).den = d / n.natAbs.gcd d := by
  rw [Rat.mkRat_def, dif_neg h, Rat.normalize_eq]
  exact ⟨rfl, rfl⟩
theorem abs_nat (n : Int) : (if n < 0 then -n else n) = (n.natAbs : Int) := by split <;> omega
theorem fmod_nat (a b : Nat) : ((a : Int).fmod (b : Int)) = ((a % b : Nat) : Int) := by
  rw [Int.fmod_eq_emod_of_nonneg _ (by omega)]; rfl
theorem divOk_of {b : Nat} (h : 0 < b) (h2 : b < 2 ^ 9000) : divOk (b : Int) = true := by
  unfold divOk
  have : (b : Int).natAbs.log2 < 9000 := by
    rw [Int.natAbs_natCast]
    exact (Nat.log2_lt (by omega)).mpr h2
  simp only [Bool.or_eq_true, Bool.and_eq_true, decide_eq_true_eq]
  exact .inl ⟨Int.natCast_pos.mpr h, this⟩
theorem mulOk_of {a b : Int} (h1 : a.natAbs < 2 ^ 4000) (h2 : b.natAbs < 2 ^ 4000) : mulOk a b = true := by
  unfold mulOk
  have l1 : a.natAbs.log2 < 4000 := by
    by_cases h : a.natAbs = 0
    · rw [h]; decide
    · exact (Nat.log2_lt h).mpr h1
  have l2 : b.natAbs.log2 < 4000 := by
    by_cases h : b.natAbs = 0
    · rw [h]; decide
    · exact (Nat.log2_lt h).mpr h2
  rw [Bool.or_eq_true, Bool.or_eq_true, decide_eq_true_eq]
  omega
theorem mulOk_r {a b : Int} (h1 : -(2 ^ 64) < b) (h2 : b < 2 ^ 64) : mulOk a b = true := by
  unfold mulOk
  rw [Bool.or_eq_true, Bool.and_eq_true, decide_eq_true_eq, decide_eq_true_eq]
  exact .inr ⟨h1, h2⟩
theorem mulOk_l {a b : Int} (h1 : -(2 ^ 64) < a) (h2 : a < 2 ^ 64) : mulOk a b = true := by
  unfold mulOk
  rw [Bool.or_eq_true, Bool.or_eq_true, Bool.and_eq_true, decide_eq_true_eq, decide_eq_true_eq, decide_eq_true_eq]
  exact .inl (.inr ⟨h1, h2⟩)
/-! sizes -/
/-- small: below 2^m -/
def Bd (m : Nat) (q : Rat) : Prop := q.num.natAbs < 2 ^ m ∧ q.den < 2 ^ m
theorem Bd.mono {m n : Nat} {q : Rat} (h : Bd m q) (hl : m ≤ n) : Bd n q := ⟨Nat.lt_of_lt_of_le h.1 (Nat.pow_le_pow_right (by decide) hl), Nat.lt_of_lt_of_le h.2 (Nat.pow_le_pow_right (by decide) hl)⟩
theorem mk_bd {n : Int} {d m : Nat} (hd : 0 < d) (h1 : n.natAbs < 2 ^ m) (h2 : d < 2 ^ m) : Bd m (mkRat n d) := by
  obtain ⟨e1, e2⟩ := num_eq n d (by omega)
  refine ⟨?_, ?_⟩
  · rw [e1]
    refine Nat.lt_of_le_of_lt ?_ h1
    exact Int.natAbs_ediv_le_natAbs _ _
  · rw [e2]
    exact Nat.lt_of_le_of_lt (Nat.div_le_self _ _) h2
theorem pw {a b m n : Nat} (h1 : a < 2 ^ m) (h2 : b < 2 ^ n) : a * b < 2 ^ (m + n) := by
  rw [Nat.pow_add]
  exact Nat.mul_lt_mul'' h1 h2
theorem Bd.add {m n : Nat} {q r : Rat} (h1 : Bd m q) (h2 : Bd n r) : Bd (m + n + 1) (q + r) := by
  rw [Rat.add_def']
  refine mk_bd (Nat.mul_pos q.den_pos r.den_pos) ?_ (Nat.lt_of_lt_of_le (pw h1.2 h2.2) (Nat.pow_le_pow_right (by decide) (by omega)))
  refine Nat.lt_of_le_of_lt (Int.natAbs_add_le _ _) ?_
  rw [Int.natAbs_mul, Int.natAbs_mul, Int.natAbs_natCast, Int.natAbs_natCast, Nat.pow_succ]
  have a1 := pw h1.1 h2.2
  have a2 := pw h2.1 h1.2
  rw [Nat.add_comm n m] at a2
  omega
theorem Bd.neg {m : Nat} {q : Rat} (h : Bd m q) : Bd m (-q) := ⟨by rw [Rat.neg_num, Int.natAbs_neg]; exact h.1, by rw [Rat.neg_den]; exact h.2⟩
theorem Bd.sub {m n : Nat} {q r : Rat} (h1 : Bd m q) (h2 : Bd n r) : Bd (m + n + 1) (q - r) := by
  rw [Rat.sub_eq_add_neg]; exact h1.add h2.neg
theorem Bd.mul {m n : Nat} {q r : Rat} (h1 : Bd m q) (h2 : Bd n r) : Bd (m + n) (q * r) := by
  rw [Rat.mul_def']
  refine mk_bd (Nat.mul_pos q.den_pos r.den_pos) ?_ (pw h1.2 h2.2)
  rw [Int.natAbs_mul]; exact pw h1.1 h2.1
theorem Bd.inv {m : Nat} {q : Rat} (h : Bd m q) (hm : 1 ≤ m) : Bd m q⁻¹ := by
  refine ⟨?_, ?_⟩
  · rw [Rat.num_inv, Int.natAbs_mul, Int.natAbs_natCast]
    have : q.num.sign.natAbs ≤ 1 := by
      rcases Int.lt_trichotomy q.num 0 with z | z | z
      · rw [Int.sign_eq_neg_one_of_neg z]; decide
      · rw [z]; decide
      · rw [Int.sign_eq_one_of_pos z]; decide
    calc q.num.sign.natAbs * q.den ≤ 1 * q.den := Nat.mul_le_mul_right _ this
      _ < 2 ^ m := by rw [Nat.one_mul]; exact h.2
  · rw [Rat.den_inv]
    split
    · exact Nat.lt_of_lt_of_le (by decide : 1 < 2 ^ 1) (Nat.pow_le_pow_right (by decide) hm)
    · exact h.1
theorem Bd.div {m n : Nat} {q r : Rat} (h1 : Bd m q) (h2 : Bd n r) (hn : 1 ≤ n) : Bd (m + n) (q / r) := h1.mul (h2.inv hn)
theorem big {m : Nat} {a : Nat} (h : a < 2 ^ m) (hm : m ≤ 4000) : a < 2 ^ 4000 := Nat.lt_of_lt_of_le h (Nat.pow_le_pow_right (by decide) hm)
/-- an int that is small -/
def Sm (i : Int) : Prop := i.natAbs < 2 ^ 4000
theorem Bd.n {m : Nat} {q : Rat} (h : Bd m q) (hm : m ≤ 4000) : Sm q.num := big h.1 hm
theorem Bd.d {m : Nat} {q : Rat} (h : Bd m q) (hm : m ≤ 4000) : Sm (q.den : Int) := by unfold Sm; rw [Int.natAbs_natCast]; exact big h.2 hm
theorem mulOk_sm {a b : Int} (h1 : Sm a) (h2 : Sm b) : mulOk a b = true := mulOk_of h1 h2
theorem lt_iff' (q r : Rat) : decide (q.num * (r.den : Int) < r.num * (q.den : Int)) = decide (q < r) := decide_eq_decide.mpr (Rat.lt_iff q r).symm
theorem le_iff' (q r : Rat) : decide (q.num * (r.den : Int) ≤ r.num * (q.den : Int)) = decide (q ≤ r) := decide_eq_decide.mpr (Rat.le_iff q r).symm
theorem eq_iff' (q r : Rat) : (q.num * (r.den : Int) == r.num * (q.den : Int)) = decide (q = r) := by
  by_cases h : q = r
  · subst h; simp
  · rw [decide_eq_false h, beq_eq_false_iff_ne]
    exact fun z => h (Rat.eq_iff_mul_eq_mul.mpr z)
/-! Euclid -/
theorem euclid_half {a b : Nat} (ha : 0 < a % b) (hb : 0 < b) : 2 * (b % (a % b)) < b := by
  have h1 := Nat.mod_lt b ha
  have h2 := Nat.mod_lt a hb
  have h3 := Nat.div_add_mod b (a % b)
  have h4 : 1 ≤ b / (a % b) := (Nat.one_le_div_iff ha).mpr (by omega)
  have h5 : a % b ≤ (a % b) * (b / (a % b)) := Nat.le_mul_of_pos_right _ h4
  omega
section
variable {W : Wd} {G : Str → Option P} {N : Nat} {t : T} {b : List S} {s : Src} {M : Mem}
theorem gcd_lop (E : Nat → Nat → Env → Prop) (ok : s.ok M = true)
    (z : ∀ x a ρ, E a 0 ρ → ∃ ρ', ((t.put x ρ).bind fun ρ' => evSs W G N b ρ' M) = some (.bk ρ' M) ∧ E a 0 ρ')
    (st : ∀ x a c ρ, 0 < c → E a c ρ → ∃ ρ', ((t.put x ρ).bind fun ρ' => evSs W G N b ρ' M) = some (.nx ρ' M) ∧ E c (a % c) ρ') :
    ∀ (m : Nat) (xs : List P) (a c : Nat) (ρ : Env), 2 * m + 1 ≤ xs.length → c < 2 ^ m → E a c ρ → ∃ ρ', lop W G N t b s xs ρ M = some (.nx ρ' M) ∧ E (Nat.gcd a c) 0 ρ'
  | m, [], a, c, ρ, hl, _, _ => by simp at hl
  | m, x :: xs, a, 0, ρ, hl, hc, h => by
    obtain ⟨ρ', e, h'⟩ := z x a ρ h
    refine ⟨ρ', ?_, by rw [Nat.gcd_zero_right]; exact h'⟩
    rw [lop_cons, e]; rfl
  | 0, x :: xs, a, c + 1, ρ, hl, hc, h => by simp at hc
  | m + 1, [x], a, c + 1, ρ, hl, hc, h => by simp at hl
  | m + 1, x :: y :: xs, a, c + 1, ρ, hl, hc, h => by
    obtain ⟨ρ1, e1, h1⟩ := st x a (c + 1) ρ (by omega) h
    have g1 : Nat.gcd a (c + 1) = Nat.gcd (c + 1) (a % (c + 1)) := by rw [Nat.gcd_comm (c + 1), ← Nat.gcd_rec, Nat.gcd_comm]
    by_cases h0 : a % (c + 1) = 0
    · rw [h0] at h1
      obtain ⟨ρ2, e2, h2⟩ := z y (c + 1) ρ1 h1
      refine ⟨ρ2, ?_, by rw [g1, h0, Nat.gcd_zero_right]; exact h2⟩
      rw [lop_cons, e1]
      simp only [obs, ok, if_true]
      rw [lop_cons, e2]; rfl
    · obtain ⟨ρ2, e2, h2⟩ := st y (c + 1) (a % (c + 1)) ρ1 (by omega) h1
      have hh := euclid_half (a := a) (b := c + 1) (by omega) (by omega)
      obtain ⟨ρ3, e3, h3⟩ := gcd_lop E ok z st m xs (a % (c + 1)) ((c + 1) % (a % (c + 1))) ρ2 (by simp at hl; omega) (by rw [Nat.pow_succ] at hc; omega) h2
      refine ⟨ρ3, ?_, ?_⟩
      · rw [lop_cons, e1]
        simp only [obs, ok, if_true]
        rw [lop_cons, e2]
        simp only [obs, ok, if_true]
        exact e3
      · have g2 : Nat.gcd (c + 1) (a % (c + 1)) = Nat.gcd (a % (c + 1)) ((c + 1) % (a % (c + 1))) := by rw [Nat.gcd_comm (a % (c + 1)), ← Nat.gcd_rec, Nat.gcd_comm]
        rw [g1, g2]; exact h3
theorem gcd_wp {Q : Out → Prop} (E : Nat → Nat → Env → Prop) {m : Nat} {xs : List P} {a c : Nat} {ρ : Env} (hl : 2 * m + 1 ≤ xs.length) (hc : c < 2 ^ m) (h : E a c ρ) (ok : s.ok M = true)
    (z : ∀ x a ρ, E a 0 ρ → ∃ ρ', ((t.put x ρ).bind fun ρ' => evSs W G N b ρ' M) = some (.bk ρ' M) ∧ E a 0 ρ')
    (st : ∀ x a c ρ, 0 < c → E a c ρ → ∃ ρ', ((t.put x ρ).bind fun ρ' => evSs W G N b ρ' M) = some (.nx ρ' M) ∧ E c (a % c) ρ')
    (done : ∀ ρ', E (Nat.gcd a c) 0 ρ' → Q (.nx ρ' M)) : Wp (lop W G N t b s xs ρ M) Q := by
  obtain ⟨ρ', e, h'⟩ := gcd_lop E ok z st m xs a c ρ hl hc h
  exact ⟨_, e, done ρ' h'⟩
end
end IX
end

section
set_option linter.all false
set_option autoImplicit false
set_option maxRecDepth 10000
set_option exponentiation.threshold 100000
/-! Rows of fractions over a common bottom; sums and products. -/
namespace IX
open PySem
def AllB (m : Nat) (l : List Rat) : Prop := ∀ q ∈ l, Bd m q
theorem AllB.mono {m n : Nat} {l : List Rat} (h : AllB m l) (hl : m ≤ n) : AllB n l := fun q hq => (h q hq).mono hl
theorem szl : sizeLine = 16777216 := rfl
theorem s1 : (1 : Nat) ≤ sizeLine := by decide
theorem s2 : (2 : Nat) ≤ sizeLine := by decide
theorem s3 : (3 : Nat) ≤ sizeLine := by decide
theorem s4 : (4 : Nat) ≤ sizeLine := by decide
theorem s5 : (5 : Nat) ≤ sizeLine := by decide
theorem s6 : (6 : Nat) ≤ sizeLine := by decide
theorem len_ok {n : Nat} (h : n ≤ 4000) : n + 1 < sizeLine := by
  rw [szl]; omega
theorem len_le {n : Nat} (h : n ≤ 4000) : n ≤ sizeLine := by
  rw [szl]; omega
theorem den_ok {m : Nat} {q : Rat} (h : Bd m q) (hm : m ≤ 4000) : divOk (q.den : Int) = true := divOk_of q.den_pos (Nat.lt_of_lt_of_le (big h.2 hm) (Nat.pow_le_pow_right (by decide) (by omega)))
/-- the common bottom -/
def bot : List Rat → Nat → Nat
  | [], b => b
  | q :: r, b => bot r (if b % q.den = 0 then b else b / Nat.gcd b q.den * q.den)
theorem step_pos {b : Nat} {q : Rat} (h : 0 < b) : 0 < (if b % q.den = 0 then b else b / Nat.gcd b q.den * q.den) := by
  split
  · exact h
  · exact Nat.mul_pos (Nat.div_pos (Nat.gcd_le_left _ h) (Nat.gcd_pos_of_pos_left _ h)) q.den_pos
theorem step_dvd {b : Nat} {q : Rat} : b ∣ (if b % q.den = 0 then b else b / Nat.gcd b q.den * q.den) ∧ q.den ∣ (if b % q.den = 0 then b else b / Nat.gcd b q.den * q.den) := by
  split
  · rename_i h
    exact ⟨Nat.dvd_refl _, Nat.dvd_of_mod_eq_zero h⟩
  · have e : b / Nat.gcd b q.den * q.den = Nat.lcm b q.den := by
      unfold Nat.lcm
      rw [Nat.mul_comm b, Nat.mul_div_assoc _ (Nat.gcd_dvd_left _ _), Nat.mul_comm]
    rw [e]
    exact ⟨Nat.dvd_lcm_left _ _, Nat.dvd_lcm_right _ _⟩
theorem step_le {b : Nat} {q : Rat} : (if b % q.den = 0 then b else b / Nat.gcd b q.den * q.den) ≤ b * q.den := by
  split
  · exact Nat.le_mul_of_pos_right _ q.den_pos
  · exact Nat.mul_le_mul_right _ (Nat.div_le_self _ _)
theorem bot_pos : ∀ (l : List Rat) (b : Nat), 0 < b → 0 < bot l b
  | [], b, h => h
  | q :: r, b, h => bot_pos r _ (step_pos h)
theorem bot_dvd : ∀ (l : List Rat) (b : Nat), b ∣ bot l b
  | [], b => Nat.dvd_refl _
  | q :: r, b => Nat.dvd_trans step_dvd.1 (bot_dvd r _)
theorem bot_mem : ∀ (l : List Rat) (b : Nat), ∀ q ∈ l, q.den ∣ bot l b
  | [], b, q, h => by simp at h
  | p :: r, b, q, h => by
    rcases List.mem_cons.mp h with e | h
    · subst e; exact Nat.dvd_trans step_dvd.2 (bot_dvd r _)
    · exact bot_mem r _ q h
theorem bot_lt {a : Nat} : ∀ (l : List Rat) (b m : Nat), AllB a l → b < 2 ^ m → bot l b < 2 ^ (m + a * l.length)
  | [], b, m, _, h => by simpa [bot] using h
  | q :: r, b, m, hA, h => by
    have := bot_lt r _ (m + a) (fun x hx => hA x (List.mem_cons_of_mem _ hx)) (Nat.lt_of_le_of_lt (step_le (b := b) (q := q)) (pw h (hA q List.mem_cons_self).2))
    rw [List.length_cons, Nat.mul_succ]
    rw [show m + (a * r.length + a) = m + a + a * r.length from by omega]
    exact this
theorem bot4 {a : Nat} {l : List Rat} (hA : AllB a l) (h : 1 + a * l.length ≤ 4000) : bot l 1 < 2 ^ 4000 := big (bot_lt l 1 1 hA (by decide)) h
theorem bot_snoc : ∀ (l : List Rat) (b : Nat) (q : Rat), bot (l ++ [q]) b = (if bot l b % q.den = 0 then bot l b else bot l b / Nat.gcd (bot l b) q.den * q.den)
  | [], b, q => rfl
  | p :: r, b, q => bot_snoc r _ q
/-- a top over a bottom -/
def tp (B : Nat) (q : Rat) : Int := q.num * (B / q.den : Nat)
theorem nat_ne {n : Nat} (h : 0 < n) : (n : Rat) ≠ 0 := by
  intro z
  have z : ((n : Nat) : Rat) = ((0 : Nat) : Rat) := z
  have := Rat.natCast_inj.mp z
  omega
theorem tp_eq {B : Nat} {q : Rat} (h : q.den ∣ B) : ((tp B q : Int) : Rat) = q * (B : Rat) := by
  obtain ⟨c, rfl⟩ := h
  unfold tp
  rw [Nat.mul_div_cancel_left _ q.den_pos]
  have h1 := nat_ne q.den_pos
  have h2 : q * (q.den : Rat) = (q.num : Rat) := by
    have := Rat.mkRat_self q
    rw [Rat.mkRat_eq_div] at this
    rw [← this]
    grind
  have e : ((q.num * ((c : Nat) : Int) : Int) : Rat) = (q.num : Rat) * (c : Rat) := by rw [Rat.intCast_mul]; rfl
  rw [e, ← h2, Rat.natCast_mul]
  grind
theorem tp_lt {a B m : Nat} {q : Rat} (h : Bd a q) (hB : B < 2 ^ m) (hs : a + m ≤ 4000) : (tp B q).natAbs < 2 ^ 4000 := by
  unfold tp
  rw [Int.natAbs_mul, Int.natAbs_natCast]
  exact big (pw h.1 (Nat.lt_of_le_of_lt (Nat.div_le_self _ _) hB)) hs
theorem zipP_map {A C : Type} (f : A → P) (g : C → P) : ∀ (l : List A) (r : List C), zipP (l.map f) (r.map g) = (l.zip r).map fun q => .tup [f q.1, g q.2]
  | [], _ => by simp [zipP]
  | _ :: _, [] => by simp [zipP]
  | x :: l, y :: r => by simp [zipP, zipP_map f g l r]
theorem enumP_map {A : Type} (f : A → P) : ∀ (k : Nat) (l : List A), enumP k (l.map f) = (l.zipIdx k).map fun q => .tup [.int (q.2 : Int), f q.1]
  | _, [] => by simp [enumP]
  | k, x :: l => by simp [enumP, enumP_map f (k + 1) l, List.zipIdx_cons]
theorem intsP_map {A : Type} (f : A → Int) : ∀ l : List A, intsP (l.map fun x => .int (f x)) = some (l.map f)
  | [] => rfl
  | x :: l => by
    show (intsP (l.map fun x => .int (f x))).map (f x :: ·) = _
    rw [intsP_map f l]; rfl
/-- the sum, the dot -/
def dot (l r : List Rat) : Rat := ((l.zip r).map fun q => q.1 * q.2).sum
@[simp] theorem dot_cons (x y : Rat) (l r : List Rat) : dot (x :: l) (y :: r) = x * y + dot l r := by simp [dot]
@[simp] theorem dot_nil (r : List Rat) : dot [] r = 0 := by simp [dot]
@[simp] theorem dot_nil2 (r : List Rat) : dot r [] = 0 := by simp [dot]
def sumZ (B C : Nat) (l r : List Rat) : Int := ((l.zip r).map fun q => tp B q.1 * tp C q.2).sum
theorem sumZ_eq {B C : Nat} : ∀ (l r : List Rat), (∀ q ∈ l, q.den ∣ B) → (∀ q ∈ r, q.den ∣ C) → ((sumZ B C l r : Int) : Rat) = dot l r * ((B : Rat) * (C : Rat))
  | [], r, _, _ => by simp [sumZ, dot]
  | _ :: _, [], _, _ => by simp [sumZ, dot]
  | x :: l, y :: r, h1, h2 => by
    have ih := sumZ_eq l r (fun q h => h1 q (List.mem_cons_of_mem _ h)) (fun q h => h2 q (List.mem_cons_of_mem _ h))
    have e : sumZ B C (x :: l) (y :: r) = tp B x * tp C y + sumZ B C l r := by simp [sumZ]
    rw [e, dot_cons, Rat.intCast_add, Rat.intCast_mul, ih, tp_eq (h1 x List.mem_cons_self), tp_eq (h2 y List.mem_cons_self)]
    grind
theorem sumT_eq {B : Nat} : ∀ (l : List Rat), (∀ q ∈ l, q.den ∣ B) → (((l.map (tp B)).sum : Int) : Rat) = l.sum * (B : Rat)
  | [], _ => by simp
  | x :: l, h1 => by
    have ih := sumT_eq l (fun q h => h1 q (List.mem_cons_of_mem _ h))
    rw [List.map_cons, List.sum_cons, List.sum_cons, Rat.intCast_add, ih, tp_eq (h1 x List.mem_cons_self)]
    grind
theorem mk_of {S : Int} {n : Nat} {q : Rat} (hn : 0 < n) (h : (S : Rat) = q * (n : Rat)) : mkRat S n = q := by
  rw [Rat.mkRat_eq_div, h]
  have := nat_ne hn
  grind
theorem Bd.sum {m : Nat} : ∀ {l : List Rat}, AllB m l → Bd ((m + 1) * l.length + 1) l.sum
  | [], _ => ⟨by simp, by simp⟩
  | q :: l, h => by
    have h2 := Bd.sum fun x hx => h x (List.mem_cons_of_mem _ hx)
    have h1 := h q List.mem_cons_self
    rw [List.sum_cons, List.length_cons, Nat.mul_succ]
    exact (h1.add h2).mono (by omega)
theorem Bd.dot {m : Nat} {l r : List Rat} (h1 : AllB m l) (h2 : AllB m r) : Bd ((2 * m + 1) * l.length + 1) (IX.dot l r) := by
  unfold IX.dot
  have := Bd.sum (m := 2 * m) (l := (l.zip r).map fun q => q.1 * q.2) (by
    intro x hx
    obtain ⟨q, hq, rfl⟩ := List.mem_map.mp hx
    exact ((h1 _ (List.of_mem_zip (a := q.1) (b := q.2) hq).1).mul (h2 _ (List.of_mem_zip (a := q.1) (b := q.2) hq).2)).mono (by omega))
  refine this.mono ?_
  rw [List.length_map, List.length_zip]
  exact Nat.add_le_add_right (Nat.mul_le_mul_left _ (Nat.min_le_left _ _)) _
/-- what a loop over it walks -/
structure Seq (M : Mem) (d : D) (xs : List P) : Prop where
  it : items M d = some xs
  src : ∃ s, IX.src .seq [d] M = some s ∧ s.xs = xs ∧ s.ok M = true
  en : ∃ s, IX.src .enm [d] M = some s ∧ s.xs = enumP 0 xs ∧ s.ok M = true
theorem Seq.tup (M : Mem) (l : List P) : Seq M (.p (.tup l)) l := ⟨rfl, ⟨_, rfl, rfl, rfl⟩, ⟨_, rfl, rfl, rfl⟩⟩
theorem Seq.ref {M : Mem} {i : Nat} {l : List P} (h : M[i]? = some l) : Seq M (.p (.ref i)) l := by
  refine ⟨h, ⟨⟨l, [(i, l)], true⟩, ?_, rfl, ?_⟩, ⟨⟨enumP 0 l, [(i, l)], true⟩, ?_, rfl, ?_⟩⟩
  · rw [src_ref, h]; rfl
  · simp [h]
  · rw [src_enmR, h]; rfl
  · simp [h]
end IX
namespace IX
open PySem
/-! memories that change at one place -/
@[simp] theorem ix_ref {M : Mem} (i : Nat) (k : Int) : index (.p (.ref i)) (.p (.int k)) M = M[i]?.bind fun xs => atx xs k := by rfl
@[simp] theorem ix_tup {M : Mem} (l : List P) (k : Int) : index (.p (.tup l)) (.p (.int k)) M = atx l k := by rfl
theorem atx_nat {xs : List P} {i : Nat} {x : P} (hx : xs[i]? = some x) : atx xs (i : Int) = some x := at_nat (d := .p (.tup xs)) (M := []) rfl hx
def Chg (i : Nat) (M M' : Mem) : Prop := M'.length = M.length ∧ ∀ n, n ≠ i → M'[n]? = M[n]?
def Kp (i : Nat) (M M' : Mem) : Prop := M.length ≤ M'.length ∧ ∀ n, n < M.length → n ≠ i → M'[n]? = M[n]?
theorem Chg.kp {i : Nat} {M M' : Mem} (h : Chg i M M') : Kp i M M' := ⟨by rw [h.1]; exact Nat.le_refl _, fun n _ hn => h.2 n hn⟩
theorem Chg.refl (i : Nat) (M : Mem) : Chg i M M := ⟨rfl, fun _ _ => rfl⟩
theorem Chg.trans {i : Nat} {A B C : Mem} (h : Chg i A B) (h' : Chg i B C) : Chg i A C := ⟨h'.1.trans h.1, fun n hn => (h'.2 n hn).trans (h.2 n hn)⟩
theorem Chg.set (i : Nat) (M : Mem) (xs : List P) : Chg i M (M.set i xs) := ⟨by simp, fun n hn => List.getElem?_set_ne (Ne.symm hn)⟩
theorem Kp.refl (i : Nat) (M : Mem) : Kp i M M := ⟨Nat.le_refl _, fun _ _ _ => rfl⟩
theorem Kp.trans {i : Nat} {A B C : Mem} (h : Kp i A B) (h' : Kp i B C) : Kp i A C := ⟨Nat.le_trans h.1 h'.1, fun n hn hi => (h'.2 n (Nat.lt_of_lt_of_le hn h.1) hi).trans (h.2 n hn hi)⟩
theorem Kp.app (i : Nat) (M X : Mem) : Kp i M (M ++ X) := ⟨by simp, fun n hn _ => List.getElem?_append_left hn⟩
theorem Kp.set {i n : Nat} {A B : Mem} (h : Kp i A B) (hn : A.length ≤ n) (xs : List P) : Kp i A (B.set n xs) := ⟨by rw [List.length_set]; exact h.1, fun m hm hi => by rw [List.getElem?_set_ne (by omega)]; exact h.2 m hm hi⟩
theorem Kp.chg {i : Nat} {A B C : Mem} (h : Kp i A B) (h' : Chg i B C) : Kp i A C := h.trans h'.kp
theorem Chg.at {i n : Nat} {A B : Mem} {xs : List P} (h : Chg i A B) (hn : n ≠ i) (e : A[n]? = some xs) : B[n]? = some xs := by rw [h.2 n hn]; exact e
theorem Kp.at {i n : Nat} {A B : Mem} {xs : List P} (h : Kp i A B) (hn : n ≠ i) (e : A[n]? = some xs) : B[n]? = some xs := by rw [h.2 n (List.getElem?_eq_some_iff.mp e).1 hn]; exact e
theorem get_lt {M : Mem} {i : Nat} {xs : List P} (h : M[i]? = some xs) : i < M.length := (List.getElem?_eq_some_iff.mp h).1
theorem get_app {M X : Mem} {i : Nat} {xs : List P} (h : M[i]? = some xs) : (M ++ X)[i]? = some xs := by rw [List.getElem?_append_left (get_lt h)]; exact h
@[simp] theorem get_end (M : Mem) (xs : List P) : (M ++ [xs])[M.length]? = some xs := by simp
theorem get_ek (M X : Mem) (k : Nat) : (M ++ X)[M.length + k]? = X[k]? := by rw [List.getElem?_append_right (by omega)]; congr 1; omega
@[simp] theorem get_e0 (M X : Mem) (x : List P) : (M ++ x :: X)[M.length]? = some x := by have := get_ek M (x :: X) 0; simpa using this
@[simp] theorem get_e1 (M X : Mem) (x y : List P) : (M ++ x :: y :: X)[M.length + 1]? = some y := by have := get_ek M (x :: y :: X) 1; simpa using this
@[simp] theorem get_e2 (M X : Mem) (x y z : List P) : (M ++ x :: y :: z :: X)[M.length + 2]? = some z := by have := get_ek M (x :: y :: z :: X) 2; simpa using this
theorem items_app {M : Mem} {d : D} {xs : List P} (h : items M d = some xs) (X : Mem) : items (M ++ X) d = some xs := by
  cases d with
  | scr l => exact h
  | p x => cases x <;> first | exact h | exact get_app h
theorem perm_erase {A : Type} : ∀ (l : List A) (i : Nat) (y : A), l[i]? = some y → (y :: l.eraseIdx i).Perm l
  | [], i, y, e => by simp at e
  | a :: l, 0, y, e => by
    have q : a = y := by simpa using e
    subst q
    exact List.Perm.refl _
  | a :: l, i + 1, y, e => by
    have q := perm_erase l i y (by simpa using e)
    exact (List.Perm.swap a y _).trans (q.cons a)
theorem perm_map_inv {A B : Type} (f : A → B) : ∀ {ys zs : List B}, ys.Perm zs → ∀ l : List A, zs = l.map f → ∃ ps : List A, ps.Perm l ∧ ys = ps.map f := by
  intro ys zs h
  induction h with
  | nil => intro l e; cases l with
    | nil => exact ⟨[], List.Perm.refl _, rfl⟩
    | cons a l => simp at e
  | cons x h ih => intro l e; cases l with
    | nil => simp at e
    | cons a l =>
      simp at e
      obtain ⟨ps, p, e2⟩ := ih l e.2
      exact ⟨a :: ps, p.cons a, by simp [e.1, e2]⟩
  | swap x y l' => intro l e
                   match l, e with
                   | [], e => simp at e
                   | [a], e => simp at e
                   | a :: b :: l, e =>
                     simp at e
                     exact ⟨b :: a :: l, List.Perm.swap a b l, by simp [e.1, e.2.1, e.2.2]⟩
  | trans h1 h2 ih1 ih2 =>
    intro l e
    obtain ⟨ps, p, e2⟩ := ih2 l e
    obtain ⟨qs, p2, e3⟩ := ih1 ps e2
    exact ⟨qs, p2.trans p, e3⟩
theorem perm_sumN {l r : List Nat} (h : l.Perm r) : l.sum = r.sum := by
  induction h with
  | nil => rfl
  | cons x _ ih => simp [ih]
  | swap x y l => simp; omega
  | trans _ _ a b => exact a.trans b
theorem sum_parts (w : Nat) (hw : 0 < w) : ∀ ps : List Nat, (ps.map fun (p : Nat) => mkRat (p : Int) w).sum = mkRat ((ps.sum : Nat) : Int) w
  | [] => by simp
  | p :: ps => by
    rw [List.map_cons, List.sum_cons, sum_parts w hw ps, List.sum_cons, Rat.mkRat_eq_div, Rat.mkRat_eq_div, Rat.mkRat_eq_div]
    have : (((p + ps.sum : Nat) : Int) : Rat) = ((p : Int) : Rat) + ((ps.sum : Int) : Rat) := by rw [Int.natCast_add, Rat.intCast_add]
    rw [this]
    grind
theorem mkRat_self' (w : Nat) (hw : 0 < w) : mkRat (w : Int) w = 1 := by
  rw [Rat.mkRat_eq_div]
  have := nat_ne hw
  have e : ((w : Int) : Rat) = (w : Rat) := rfl
  rw [e]; grind
theorem mkRat_nonneg {n : Nat} (w : Nat) : 0 ≤ mkRat (n : Int) w := by
  rw [← Rat.divInt_ofNat]
  exact Rat.divInt_nonneg (by omega) (by omega)
theorem back_new {M M' : Mem} {n : Nat} (h : M.length ≤ n) : back M (.p (.ref n)) M' = (.p (.ref n), M') := by
  unfold back
  rw [if_neg]
  have : (D.p (.ref n)).und M.length = false := by
    show P.und M.length (.ref n) = false
    simp [P.und]; omega
  rw [this]; simp
theorem le_sumN {p : Nat} : ∀ {l : List Nat}, p ∈ l → p ≤ l.sum
  | [], h => by simp at h
  | a :: l, h => by
    rw [List.sum_cons]
    rcases List.mem_cons.mp h with rfl | h
    · omega
    · have := le_sumN h; omega
theorem lt9000 {n : Nat} (h : n ≤ 4000) : n < 2 ^ 9000 := Nat.lt_of_le_of_lt h (Nat.lt_of_lt_of_le (by decide : 4000 < 2 ^ 12) (Nat.pow_le_pow_right (by decide) (by decide)))
theorem get_set {M : Mem} {i : Nat} {xs ys : List P} (h : M[i]? = some xs) : (M.set i ys)[i]? = some ys := List.getElem?_set_self (get_lt h)
theorem get_set_ne {M : Mem} {i n : Nat} {xs ys : List P} (h : M[i]? = some xs) (hn : n ≠ i) : (M.set n ys)[i]? = some xs := by rw [List.getElem?_set_ne hn]; exact h
/-- behind a call that changes one list -/
theorem back_kp {i : Nat} {M M' : Mem} {d : D} {xs : List P} (hd : d.und M.length = true) (k : Kp i M M') (hi : M'[i]? = some xs) (hx : xs.all (P.und M.length) = true) : back M d M' = (d, M'.take M.length) := by
  unfold back
  rw [if_pos]
  rw [hd, Bool.true_and, List.all_eq_true]
  intro n hn
  rw [List.mem_range] at hn
  rw [Bool.or_eq_true]
  by_cases e : n = i
  · subst e
    right
    rw [hi]; exact hx
  · exact .inl (decide_eq_true (k.2 n hn e))
theorem take_chg {i : Nat} {M M' : Mem} (k : Kp i M M') : Chg i M (M'.take M.length) := by
  refine ⟨by rw [List.length_take]; have := k.1; omega, fun n hn => ?_⟩
  rw [List.getElem?_take]
  split
  · rename_i h; exact k.2 n h hn
  · rename_i h; rw [List.getElem?_eq_none (by omega)]
end IX
namespace IX
open PySem
@[simp] theorem atx0 (a : P) (l : List P) : atx (a :: l) 0 = some a := by
  have := atx_nat (xs := a :: l) (i := 0) (x := a) rfl
  exact this
@[simp] theorem atx1 (a b : P) (l : List P) : atx (a :: b :: l) 1 = some b := by
  have := atx_nat (xs := a :: b :: l) (i := 1) (x := b) rfl
  exact this
@[simp] theorem atx2 (a b c : P) (l : List P) : atx (a :: b :: c :: l) 2 = some c := by
  have := atx_nat (xs := a :: b :: c :: l) (i := 2) (x := c) rfl
  exact this
@[simp] theorem atx3 (a b c d : P) (l : List P) : atx (a :: b :: c :: d :: l) 3 = some d := by
  have := atx_nat (xs := a :: b :: c :: d :: l) (i := 3) (x := d) rfl
  exact this
@[simp] theorem atx4 (a b c d e : P) (l : List P) : atx (a :: b :: c :: d :: e :: l) 4 = some e := by
  have := atx_nat (xs := a :: b :: c :: d :: e :: l) (i := 4) (x := e) rfl
  exact this
@[simp] theorem atx5 (a b c d e f : P) (l : List P) : atx (a :: b :: c :: d :: e :: f :: l) 5 = some f := by
  have := atx_nat (xs := a :: b :: c :: d :: e :: f :: l) (i := 5) (x := f) rfl
  exact this
theorem atx_last {xs : List P} {x : P} : atx (xs ++ [x]) (-1) = some x := by
  have : pix (xs ++ [x]).length (-1) = some xs.length := by
    unfold pix
    rw [if_neg (by decide), if_pos (by simp; omega)]
    simp; omega
  show (pix (xs ++ [x]).length (-1)).bind _ = _
  rw [this]; simp
theorem atx_neg1 {xs : List P} (h : xs ≠ []) : atx xs (-1) = xs.getLast? := by
  obtain ⟨ys, y, rfl⟩ : ∃ ys y, xs = ys ++ [y] := ⟨xs.dropLast, xs.getLast h, (List.dropLast_concat_getLast h).symm⟩
  rw [atx_last]; simp
theorem seti_nat {xs : List P} {i : Nat} {x : P} (h : i < xs.length) : seti xs (i : Int) x = some (xs.set i x) := by
  unfold seti pix
  rw [if_pos (by omega), if_pos (by omega)]; simp
@[simp] theorem seti0 (a v : P) (l : List P) : seti (a :: l) 0 v = some (v :: l) := seti_nat (i := 0) (by simp)
@[simp] theorem seti1 (a b v : P) (l : List P) : seti (a :: b :: l) 1 v = some (a :: v :: l) := seti_nat (i := 1) (by simp)
@[simp] theorem seti2 (a b c v : P) (l : List P) : seti (a :: b :: c :: l) 2 v = some (a :: b :: v :: l) := seti_nat (i := 2) (by simp)
@[simp] theorem seti3 (a b c d v : P) (l : List P) : seti (a :: b :: c :: d :: l) 3 v = some (a :: b :: c :: v :: l) := seti_nat (i := 3) (by simp)
@[simp] theorem seti4 (a b c d e v : P) (l : List P) : seti (a :: b :: c :: d :: e :: l) 4 v = some (a :: b :: c :: d :: v :: l) := seti_nat (i := 4) (by simp)
@[simp] theorem seti5 (a b c d e f v : P) (l : List P) : seti (a :: b :: c :: d :: e :: f :: l) 5 v = some (a :: b :: c :: d :: e :: v :: l) := seti_nat (i := 5) (by simp)
theorem popi_nat {M : Mem} {xs : List P} {i : Nat} {x : P} (h : xs[i]? = some x) (hb : i < 2 ^ 63) : mtf .popi M xs [.p (.int (i : Int))] = some (x, xs.eraseIdx i) := by
  have hi := (List.getElem?_eq_some_iff.mp h).1
  rw [mt_popi', if_pos (by simp; omega)]
  have : pix xs.length (i : Int) = some i := by
    unfold pix
    rw [if_pos (by omega), if_pos (by omega)]; simp
  rw [this]
  simp [-getElem?_pos, h]
end IX
namespace IX
open PySem
/-! rows by place -/
def gf (l : List Rat) (a : Nat) : Rat := l.getD a 0
theorem gf_get {l : List Rat} {a : Nat} (h : a < l.length) : l[a]? = some (gf l a) := by simp [gf, List.getD_eq_getElem?_getD, h]
theorem gf_mem {l : List Rat} {a : Nat} (h : a < l.length) : gf l a ∈ l := List.mem_of_getElem? (gf_get h)
theorem mem_gf {l : List Rat} {q : Rat} (h : q ∈ l) : ∃ a, a < l.length ∧ gf l a = q := by
  obtain ⟨a, ha, e⟩ := List.mem_iff_getElem.mp h
  refine ⟨a, ha, ?_⟩
  have := gf_get ha
  rw [List.getElem?_eq_getElem ha, e] at this
  exact (Option.some.inj this).symm
theorem ix_gf {M : Mem} {d : D} {l : List Rat} {a : Nat} (h : items M d = some (l.map fr)) (ha : a < l.length) : index d (.p (.int (a : Int))) M = some (fr (gf l a)) := at_nat h (by rw [List.getElem?_map, gf_get ha]; rfl)
theorem atx_gf {l : List Rat} {a : Nat} (ha : a < l.length) : atx (l.map fr) (a : Int) = some (fr (gf l a)) := atx_nat (by rw [List.getElem?_map, gf_get ha]; rfl)
theorem map_gf (l : List Rat) : l = (List.range l.length).map (gf l) := by
  apply List.ext_getElem (by simp)
  intro i h1 h2
  have := gf_get h1
  rw [List.getElem?_eq_getElem h1] at this
  simp at this ⊢; exact this
theorem enum_gf (l : List Rat) : enumP 0 (l.map fr) = (List.range l.length).map fun a => .tup [.int (a : Int), fr (gf l a)] := by
  rw [enumP_map]
  apply List.ext_getElem (by simp)
  intro i h1 h2
  simp at h1
  have := gf_get h1
  rw [List.getElem?_eq_getElem h1] at this
  simp at this ⊢; rw [this]
theorem range_at {n a : Nat} {pre r : List Nat} (h : List.range n = pre ++ a :: r) : a = pre.length ∧ pre.length < n := by
  have h1 := congrArg List.length h
  simp at h1
  have h2 := congrArg (fun l => l[pre.length]?) h
  simp at h2
  rw [List.getElem?_range (by omega)] at h2
  exact ⟨by simpa using h2.symm, by omega⟩
/-- the least of a row -/
def fmin (q : Rat) (l : List Rat) : Rat := l.foldl (fun b x => if x < b then x else b) q
def fmax (q : Rat) (l : List Rat) : Rat := l.foldl (fun b x => if b < x then x else b) q
theorem fmin_le : ∀ (l : List Rat) (q : Rat), fmin q l ≤ q ∧ (∀ x ∈ l, fmin q l ≤ x) ∧ (fmin q l = q ∨ fmin q l ∈ l)
  | [], q => ⟨Rat.le_refl, by simp, .inl rfl⟩
  | y :: l, q => by
    have h := fmin_le l (if y < q then y else q)
    have e : fmin q (y :: l) = fmin (if y < q then y else q) l := rfl
    rw [e]
    refine ⟨?_, ?_, ?_⟩
    · have := h.1; split at this <;> grind
    · intro x hx
      rcases List.mem_cons.mp hx with rfl | hx
      · have := h.1; split at this <;> grind
      · exact h.2.1 x hx
    · rcases h.2.2 with z | z
      · rw [z]; split <;> simp
      · exact .inr (List.mem_cons_of_mem _ z)
theorem fmax_ge : ∀ (l : List Rat) (q : Rat), q ≤ fmax q l ∧ (∀ x ∈ l, x ≤ fmax q l) ∧ (fmax q l = q ∨ fmax q l ∈ l)
  | [], q => ⟨Rat.le_refl, by simp, .inl rfl⟩
  | y :: l, q => by
    have h := fmax_ge l (if q < y then y else q)
    have e : fmax q (y :: l) = fmax (if q < y then y else q) l := rfl
    rw [e]
    refine ⟨?_, ?_, ?_⟩
    · have := h.1; split at this <;> grind
    · intro x hx
      rcases List.mem_cons.mp hx with rfl | hx
      · have := h.1; split at this <;> grind
      · exact h.2.1 x hx
    · rcases h.2.2 with z | z
      · rw [z]; split <;> simp
      · exact .inr (List.mem_cons_of_mem _ z)
theorem fmin_gf (l : List Rat) (q : Rat) : (∀ a, a < (q :: l).length → fmin q l ≤ gf (q :: l) a) ∧ ∃ a, a < (q :: l).length ∧ gf (q :: l) a = fmin q l := by
  obtain ⟨h1, h2, h3⟩ := fmin_le l q
  refine ⟨fun a ha => ?_, ?_⟩
  · rcases List.mem_cons.mp (gf_mem ha) with e | e
    · rw [e]; exact h1
    · exact h2 _ e
  · refine mem_gf ?_
    rcases h3 with e | e
    · rw [e]; exact List.mem_cons_self
    · exact List.mem_cons_of_mem _ e
theorem ceq_nil {l : List P} {M : Mem} (h : P.fits 63 l = true) : cmpop .eq (.p (.tup l)) (.p (.tup [])) M = some l.isEmpty := by
  have e : cmpop .eq (.p (.tup l)) (.p (.tup [])) M = if (P.tup l).fit 64 && (P.tup []).fit 64 then some ((P.tup l).eqv (.tup [])) else none := by rfl
  have f1 : (P.tup l).fit 64 = true := by rw [P.fit]; exact h
  have f2 : (P.tup []).fit 64 = true := by decide
  rw [e, f1, f2]
  cases l with
  | nil => rfl
  | cons a l => simp [P.eqv, P.toD, P.toDs, PyData.eqv, PyData.eqvAll]
end IX
namespace IX
theorem bd1 : Bd 4 1 := ⟨by decide, by decide⟩
theorem bdz : Bd 4 0 := ⟨by decide, by decide⟩
end IX
namespace IX
open PySem
/-! lists of fractions: in, remove -/
theorem any_fr (x : Rat) : ∀ S : List Rat, ((S.map fr).any fun y => y.eqv (fr x)) = decide (x ∈ S)
  | [] => by simp
  | y :: S => by
    rw [List.map_cons, List.any_cons, eqv_fr, any_fr x S]
    by_cases h1 : x = y
    · subst h1; simp
    · by_cases h2 : x ∈ S <;> simp [h1, h2, Ne.symm h1]
theorem notin_fr (S : List Rat) (x : Rat) (M : Mem) (n : Nat) (h : M[n]? = some (S.map fr)) : cmpop .notin (.p (fr x)) (.p (.ref n)) M = some (!decide (x ∈ S)) := by
  have e : cmpop .notin (.p (fr x)) (.p (.ref n)) M = (items M (.p (.ref n))).bind fun xs => if flat (fr x) && xs.all flat || isLst (.p (.ref n)) && ((fr x).fit 63 && P.fits 63 xs) then some (!xs.any fun y => y.eqv (fr x)) else none := by rfl
  rw [e, it_l', h, obs, fit_fr, fits_frs, any_fr]
  simp [isLst]
theorem find_fr : ∀ (S : List Rat) (x : Rat), x ∈ S → ∃ j, ((S.map fr).findIdx? fun y => y.eqv (fr x)) = some j ∧ S[j]? = some x
  | [], x, h => by simp at h
  | y :: S, x, h => by
    by_cases e : y = x
    · exact ⟨0, by rw [List.map_cons, List.findIdx?_cons, eqv_fr, decide_eq_true e]; rfl, by simp [e]⟩
    · have hx : x ∈ S := by
        rcases List.mem_cons.mp h with z | z
        · exact absurd z.symm e
        · exact z
      obtain ⟨j, h1, h2⟩ := find_fr S x hx
      exact ⟨j + 1, by rw [List.map_cons, List.findIdx?_cons, eqv_fr, decide_eq_false e, h1]; rfl, by simpa using h2⟩
theorem erase_map {A B : Type} (f : A → B) : ∀ (l : List A) (j : Nat), (l.map f).eraseIdx j = (l.eraseIdx j).map f
  | [], j => by simp
  | a :: r, 0 => by simp
  | a :: r, j + 1 => by simp [erase_map f r j]
theorem remove_fr {S : List Rat} {x : Rat} (M : Mem) (h : x ∈ S) : ∃ j, S[j]? = some x ∧ mtf .remove M (S.map fr) [.p (fr x)] = some (.non, (S.eraseIdx j).map fr) := by
  obtain ⟨j, h1, h2⟩ := find_fr S x h
  refine ⟨j, h2, ?_⟩
  have e : mtf .remove M (S.map fr) [.p (fr x)] = if (fr x).fit 63 && P.fits 63 (S.map fr) then ((S.map fr).findIdx? fun y => y.eqv (fr x)).map fun j => (.non, (S.map fr).eraseIdx j) else none := by rfl
  rw [e, fit_fr, fits_frs, h1]
  show some (P.non, (S.map fr).eraseIdx j) = _
  rw [erase_map]
end IX
namespace IX
open PySem
@[simp] theorem b_mulT {M : Mem} (a : List P) (k : Int) : binop .mul (.p (.tup a)) (.p (.int k)) M = if (decide (-(2 ^ 63) ≤ k) && decide (k ≤ 1000) && decide (a.length ≤ 1000)) = true then some (.p (.tup (List.replicate k.toNat a).flatten), M) else none := by rfl
@[simp] theorem b_mulL {M : Mem} (i : Nat) (k : Int) : binop .mul (.p (.ref i)) (.p (.int k)) M = (M[i]?).bind fun a => if (decide (a.length * k.toNat ≤ sizeLine) && decide (-(2 ^ 63) ≤ k) && decide (k < 2 ^ 63)) = true then newl (List.replicate k.toNat a).flatten M else none := by
  show ((M[i]?).bind fun a => if (decide (a.length * k.toNat ≤ sizeLine) && decide (-(2 ^ 63) ≤ k) && decide (k < 2 ^ 63)) = true then newl (List.replicate k.toNat a).flatten M else none) = _
  rfl
theorem rep_one (x : P) (n : Nat) : (List.replicate n [x]).flatten = List.replicate n x := by
  induction n with
  | zero => rfl
  | succ n ih => rw [List.replicate_succ, List.flatten_cons, ih, List.replicate_succ]; rfl
theorem dot_nonneg : ∀ {l r : List Rat}, (∀ q ∈ l, 0 ≤ q) → (∀ q ∈ r, 0 ≤ q) → 0 ≤ dot l r
  | [], r, _, _ => by simp [Rat.le_refl]
  | _ :: _, [], _, _ => by simp [Rat.le_refl]
  | x :: l, y :: r, h1, h2 => by
    rw [dot_cons]
    exact Rat.add_nonneg (Rat.mul_nonneg (h1 x List.mem_cons_self) (h2 y List.mem_cons_self)) (dot_nonneg (fun q h => h1 q (List.mem_cons_of_mem _ h)) fun q h => h2 q (List.mem_cons_of_mem _ h))
theorem dot_zero : ∀ (l : List Rat) (n : Nat), dot l (List.replicate n 0) = 0
  | [], n => by simp
  | _ :: _, 0 => by simp
  | x :: l, n + 1 => by rw [List.replicate_succ, dot_cons, dot_zero l n]; grind
end IX
namespace IX
open PySem
theorem cne_row (l m : List Rat) (M : Mem) : cmpop .ne (.p (row l)) (.p (row m)) M = some (!decide (l = m)) := by
  have h : cmpop .ne (.p (row l)) (.p (row m)) M = (if (row l).fit 64 && (row m).fit 64 then some ((row l).eqv (row m)) else none).map (!·) := by rfl
  rw [h, fit_row, fit_row, eqv_row]; rfl
theorem ceq_row (l m : List Rat) (M : Mem) : cmpop .eq (.p (row l)) (.p (row m)) M = some (decide (l = m)) := by
  have h : cmpop .eq (.p (row l)) (.p (row m)) M = (if (row l).fit 64 && (row m).fit 64 then some ((row l).eqv (row m)) else none) := by rfl
  rw [h, fit_row, fit_row, eqv_row]; rfl
theorem cne_nil {l : List P} {M : Mem} (h : P.fits 63 l = true) : cmpop .ne (.p (.tup l)) (.p (.tup [])) M = some (!l.isEmpty) := by
  have e : cmpop .ne (.p (.tup l)) (.p (.tup [])) M = (cmpop .eq (.p (.tup l)) (.p (.tup [])) M).map (!·) := by rfl
  rw [e, ceq_nil h]; rfl
theorem num_neg {q : Rat} : (q.num < 0) = (q < 0) := by
  apply propext
  have := Rat.lt_iff q 0
  simp at this
  exact this.symm
theorem num_pos {q : Rat} : (0 < q.num) = (0 < q) := by
  apply propext
  have := Rat.lt_iff 0 q
  simp at this
  exact this.symm
theorem num_nn {q : Rat} : (0 ≤ q.num) = (0 ≤ q) := propext Rat.num_nonneg
theorem num_np {q : Rat} : (q.num ≤ 0) = (q ≤ 0) := by
  apply propext
  have := Rat.le_iff q 0
  simp at this
  exact this.symm
theorem num_le_den {q : Rat} : (q.num ≤ (q.den : Int)) = (q ≤ 1) := by
  apply propext
  have := Rat.le_iff q 1
  simp at this
  exact this.symm
theorem num_z {q : Rat} : (q.num = 0) = (q = 0) := propext Rat.num_eq_zero
theorem bd4 {q : Rat} (h : (decide (q.num.natAbs < 2 ^ 4) && decide (q.den < 2 ^ 4)) = true) : Bd 4 q := by
  rw [Bool.and_eq_true, decide_eq_true_eq, decide_eq_true_eq] at h
  exact h
end IX
end

section
set_option linter.all false
set_option autoImplicit false
set_option maxRecDepth 10000
set_option exponentiation.threshold 100000
/-! Draws: a state kept in some lists of the memory. -/
namespace IX
open PySem
def ChgS (S : List Nat) (M M' : Mem) : Prop := M'.length = M.length ∧ ∀ n, n ∉ S → M'[n]? = M[n]?
def KpS (S : List Nat) (M M' : Mem) : Prop := M.length ≤ M'.length ∧ ∀ n, n < M.length → n ∉ S → M'[n]? = M[n]?
section
variable {S : List Nat} {A B C M : Mem}
theorem ChgS.kp (h : ChgS S A B) : KpS S A B := ⟨by rw [h.1]; exact Nat.le_refl _, fun n _ hn => h.2 n hn⟩
theorem ChgS.refl (S : List Nat) (M : Mem) : ChgS S M M := ⟨rfl, fun _ _ => rfl⟩
theorem ChgS.trans (h : ChgS S A B) (h' : ChgS S B C) : ChgS S A C := ⟨h'.1.trans h.1, fun n hn => (h'.2 n hn).trans (h.2 n hn)⟩
theorem ChgS.set {i : Nat} (hi : i ∈ S) (M : Mem) (xs : List P) : ChgS S M (M.set i xs) := ⟨by simp, fun n hn => List.getElem?_set_ne fun z => hn (by rw [← z]; exact hi)⟩
theorem KpS.refl (S : List Nat) (M : Mem) : KpS S M M := ⟨Nat.le_refl _, fun _ _ _ => rfl⟩
theorem KpS.trans (h : KpS S A B) (h' : KpS S B C) : KpS S A C := ⟨Nat.le_trans h.1 h'.1, fun n hn hi => (h'.2 n (Nat.lt_of_lt_of_le hn h.1) hi).trans (h.2 n hn hi)⟩
theorem KpS.app (S : List Nat) (M X : Mem) : KpS S M (M ++ X) := ⟨by simp, fun n hn _ => List.getElem?_append_left hn⟩
theorem KpS.set (h : KpS S A B) {n : Nat} (hn : A.length ≤ n) (xs : List P) : KpS S A (B.set n xs) := ⟨by rw [List.length_set]; exact h.1, fun m hm hi => by rw [List.getElem?_set_ne (by omega)]; exact h.2 m hm hi⟩
theorem KpS.chg (h : KpS S A B) (h' : ChgS S B C) : KpS S A C := h.trans h'.kp
theorem ChgS.at {n : Nat} {xs : List P} (h : ChgS S A B) (hn : n ∉ S) (e : A[n]? = some xs) : B[n]? = some xs := by rw [h.2 n hn]; exact e
theorem KpS.at {n : Nat} {xs : List P} (h : KpS S A B) (hn : n ∉ S) (e : A[n]? = some xs) : B[n]? = some xs := by rw [h.2 n (get_lt e) hn]; exact e
theorem take_chgS (h : KpS S A B) : ChgS S A (B.take A.length) := by
  refine ⟨by rw [List.length_take]; exact Nat.min_eq_left h.1, fun n hn => ?_⟩
  rw [List.getElem?_take]
  split
  · rename_i hl; exact h.2 n hl hn
  · rename_i hl; rw [List.getElem?_eq_none (by omega)]
theorem back_kpS {M' : Mem} {d : D} (h : d.und M.length = true) (kp : KpS S M M') (hx : ∀ n ∈ S, n < M.length → ∃ xs, M'[n]? = some xs ∧ xs.all (P.und M.length) = true) : back M d M' = (d, M'.take M.length) := by
  unfold back
  rw [if_pos]
  rw [h, Bool.true_and, List.all_eq_true]
  intro i hi
  rw [List.mem_range] at hi
  rw [Bool.or_eq_true]
  by_cases hs : i ∈ S
  · obtain ⟨xs, e, hu⟩ := hx i hs hi
    right
    rw [e]; exact hu
  · exact .inl (decide_eq_true (kp.2 i hi hs))
end
/-- a state: the lists that hold it, what is known of them -/
structure Stt where
  S : List Nat
  F : Mem → Prop
  ext : ∀ M M', F M → (∀ n ∈ S, M'[n]? = M[n]?) → F M'
  cell : ∀ M, F M → ∀ n ∈ S, ∃ xs, M[n]? = some xs ∧ ∀ k, (∀ m ∈ S, m < k) → xs.all (P.und k) = true
section
variable {Z : Stt} {M M' : Mem} {V : Wd} {f : Nat} {as : List D} {R : P → Prop}
theorem Stt.lt (h : Z.F M) : ∀ n ∈ Z.S, n < M.length := fun n hn => by
  obtain ⟨xs, e, _⟩ := Z.cell M h n hn
  exact get_lt e
theorem Stt.nin (h : Z.F M) {n : Nat} (hn : M.length ≤ n) : n ∉ Z.S := fun z => by have := Stt.lt h n z; omega
theorem Stt.app (h : Z.F M) (X : Mem) : Z.F (M ++ X) := Z.ext M _ h fun n hn => List.getElem?_append_left (Stt.lt h n hn)
theorem Stt.take {m : Nat} (h : Z.F M) (hm : ∀ n ∈ Z.S, n < m) : Z.F (M.take m) := Z.ext M _ h fun n hn => by rw [List.getElem?_take, if_pos (hm n hn)]
theorem Stt.set {n : Nat} (h : Z.F M) (hn : n ∉ Z.S) (xs : List P) : Z.F (M.set n xs) := Z.ext M _ h fun m hm => List.getElem?_set_ne fun z => hn (by rw [z]; exact hm)
/-- a call that draws: a datum of which R holds -/
def DrS (V : Wd) (Z : Stt) (M : Mem) (f : Nat) (as : List D) (R : P → Prop) : Prop := Wp (callX V f as M) fun r => ∃ x, r.1 = .p x ∧ R x ∧ Z.F r.2 ∧ ChgS Z.S M r.2
theorem DrS.use {B : Type} {g : D × Mem → Option B} {Q : B → Prop} (h : DrS V Z M f as R) (k : ∀ x M', R x → Z.F M' → ChgS Z.S M M' → Wp (g (.p x, M')) Q) : Wp ((callX V f as M).bind g) Q :=
  h.bind fun ⟨d, M'⟩ ⟨x, e, r, fl, c⟩ => by
    dsimp only at e fl c
    subst e
    exact k x M' r fl c
theorem DrS.mono {R' : P → Prop} (h : DrS V Z M f as R) (k : ∀ x, R x → R' x) : DrS V Z M f as R' := Wp.mono h fun r ⟨x, e, q, z⟩ => ⟨x, e, k x q, z⟩
theorem dr_ofS (hf : Z.F M) (w : Wp (V f as M) fun r => ∃ x, r.1 = .p x ∧ x.cl ∧ R x ∧ Z.F r.2 ∧ KpS Z.S M r.2) : DrS V Z M f as R := by
  obtain ⟨⟨d, M'⟩, e, x, rfl, hc, hr, fl, kp⟩ := w
  refine ⟨(.p x, M'.take M.length), ?_, x, rfl, hr, Stt.take fl (Stt.lt hf), take_chgS kp⟩
  unfold callX
  rw [e]
  exact congrArg some (back_kpS (d := .p x) (hc _) kp fun n hn _ => by
    obtain ⟨xs, e1, e2⟩ := Z.cell _ fl n hn
    exact ⟨xs, e1, e2 _ (Stt.lt hf)⟩)
/-- a call that draws and makes a list -/
def DrL (V : Wd) (Z : Stt) (M : Mem) (f : Nat) (as : List D) (R : List P → Prop) : Prop := Wp (callX V f as M) fun r => ∃ n xs, r.1 = .p (.ref n) ∧ M.length ≤ n ∧ r.2[n]? = some xs ∧ R xs ∧ Z.F r.2 ∧ KpS Z.S M r.2
theorem DrL.use {R : List P → Prop} {B : Type} {g : D × Mem → Option B} {Q : B → Prop} (h : DrL V Z M f as R) (k : ∀ n xs M', M.length ≤ n → M'[n]? = some xs → R xs → Z.F M' → KpS Z.S M M' → Wp (g (.p (.ref n), M')) Q) : Wp ((callX V f as M).bind g) Q :=
  h.bind fun ⟨d, M'⟩ ⟨n, xs, e, h1, h2, r, fl, c⟩ => by
    dsimp only at e h2 fl c
    subst e
    exact k n xs M' h1 h2 r fl c
theorem dl_ofS {R : List P → Prop} (w : Wp (V f as M) fun r => ∃ n xs, r.1 = .p (.ref n) ∧ M.length ≤ n ∧ r.2[n]? = some xs ∧ R xs ∧ Z.F r.2 ∧ KpS Z.S M r.2) : DrL V Z M f as R := by
  obtain ⟨⟨d, M'⟩, e, n, xs, h1, h2, h3⟩ := w
  dsimp only at h1 h3
  subst h1
  refine ⟨(.p (.ref n), M'), ?_, n, xs, rfl, h2, h3⟩
  unfold callX
  rw [e]
  exact congrArg some (back_new h2)
variable {G : Str → Option P} {N : Nat}
theorem lcs_drawS {A B : Type} {vs : List Nat} {elt : E} {t : T} {ifs : List E} {s : Src} {ρ : Env} (g : A → P) (h : B → P) (R : B → Prop) (ok : ∀ M, s.ok M = true) (as : List A) (hf : Z.F M)
    (step : ∀ a ∈ as, ∀ M', Z.F M' → KpS Z.S M M' → Wp (lcx V G vs elt t ifs ρ (g a) M') fun o => ∃ b, o.1 = [h b] ∧ R b ∧ Z.F o.2 ∧ KpS Z.S M' o.2) :
    Wp (lcs V G vs elt t ifs s (as.map g) ρ M) fun q => ∃ bs : List B, q.1 = bs.map h ∧ bs.length = as.length ∧ (∀ b ∈ bs, R b) ∧ Z.F q.2 ∧ KpS Z.S M q.2 := by
  refine lcs_wp g (fun pre r acc M' => ∃ bs : List B, acc = bs.map h ∧ bs.length = pre.length ∧ (∀ b ∈ bs, R b) ∧ Z.F M' ∧ KpS Z.S M M') as ⟨[], rfl, rfl, by simp, hf, KpS.refl _ _⟩ ?_ ?_
  · rintro pre a r acc M' e ⟨bs, rfl, hl, hb, fl, kp⟩
    refine (step a (by rw [e]; simp) M' fl kp).mono ?_
    rintro ⟨x, M2⟩ ⟨b, h1, h2, h3, h4⟩
    dsimp only at h1 h3 h4 ⊢
    subst h1
    refine ⟨ok _, bs ++ [b], by simp, by simp [hl], fun c hc => ?_, h3, kp.trans h4⟩
    rcases List.mem_append.mp hc with hc | hc
    · exact hb c hc
    · rw [List.mem_singleton.mp hc]; exact h2
  · rintro acc M' ⟨bs, rfl, hl, hb, fl, kp⟩
    exact ⟨bs, rfl, hl, hb, fl, kp⟩
theorem lcs_app {A : Type} {W : Wd} {vs : List Nat} {elt : E} {t : T} {ifs : List E} {s : Src} {ρ : Env} (g h : A → P) (ok : ∀ M, s.ok M = true) (as : List A) (H : ∀ a ∈ as, ∀ X, ∃ Y, lcx W G vs elt t ifs ρ (g a) (M ++ X) = some ([h a], M ++ Y)) :
    ∃ Y, lcs W G vs elt t ifs s (as.map g) ρ M = some (as.map h, M ++ Y) := by
  have := lcs_wp (W := W) (G := G) (ρ := ρ) (s := s) (M := M) g (vs := vs) (elt := elt) (t := t) (ifs := ifs) (fun pre r acc M' => acc = pre.map h ∧ ∃ X, M' = M ++ X) as ⟨rfl, [], by simp⟩ (Q := fun q => q.1 = as.map h ∧ ∃ Y, q.2 = M ++ Y) (by
    rintro pre a r acc M' hr ⟨rfl, X, rfl⟩
    obtain ⟨Y, e⟩ := H a (by rw [hr]; simp) X
    exact ⟨_, e, ok _, by simp, Y, rfl⟩) (by
    rintro acc M' ⟨rfl, X, rfl⟩
    exact ⟨rfl, X, rfl⟩)
  obtain ⟨⟨a, b⟩, e, h1, Y, h2⟩ := this
  dsimp only at h1 h2
  subst h1 h2
  exact ⟨Y, e⟩
theorem lcs_fapp {A : Type} {W : Wd} {vs : List Nat} {elt : E} {t : T} {ifs : List E} {s : Src} {ρ : Env} (g h : A → P) (p : A → Bool) (ok : ∀ X, s.ok (M ++ X) = true) (as : List A) (H : ∀ a ∈ as, ∀ X, ∃ Y, lcx W G vs elt t ifs ρ (g a) (M ++ X) = some (if p a = true then [h a] else [], M ++ Y)) :
    ∃ Y, lcs W G vs elt t ifs s (as.map g) ρ M = some ((as.filter p).map h, M ++ Y) := by
  have := lcs_wp (W := W) (G := G) (ρ := ρ) (s := s) (M := M) g (vs := vs) (elt := elt) (t := t) (ifs := ifs) (fun pre r acc M' => acc = (pre.filter p).map h ∧ ∃ X, M' = M ++ X) as ⟨rfl, [], by simp⟩ (Q := fun q => q.1 = (as.filter p).map h ∧ ∃ Y, q.2 = M ++ Y) (by
    rintro pre a r acc M' hr ⟨rfl, X, rfl⟩
    obtain ⟨Y, e⟩ := H a (by rw [hr]; simp) X
    refine ⟨_, e, ok _, ?_, Y, rfl⟩
    rw [List.filter_append, List.map_append]
    congr 1
    cases hp : p a <;> simp [hp]) (by
    rintro acc M' ⟨rfl, X, rfl⟩
    exact ⟨rfl, X, rfl⟩)
  obtain ⟨⟨a, b⟩, e, h1, Y, h2⟩ := this
  dsimp only at h1 h2
  subst h1 h2
  exact ⟨Y, e⟩
end
end IX
end

section
set_option linter.all false
namespace K67
open PySem IX
abbrev n_common : Nat := 0
abbrev n_ratio : Nat := 1
abbrev n_is_number : Nat := 2
abbrev n_is_fraction : Nat := 3
abbrev n_is_fractions : Nat := 4
abbrev n_is_chances : Nat := 5
abbrev n_minus : Nat := 6
abbrev n_bottom_of : Nat := 7
abbrev n_tops_over : Nat := 8
abbrev n_wholes : Nat := 9
abbrev n_sum_of : Nat := 10
abbrev n_unit : Nat := 11
abbrev n_check_team : Nat := 12
abbrev n_check_team_costs : Nat := 13
abbrev n_check_team_chances : Nat := 14
abbrev n_check_work : Nat := 15
abbrev n_check_shares : Nat := 16
abbrev n_check_costs : Nat := 17
abbrev n_check_chances : Nat := 18
abbrev n_lone_work : Nat := 19
abbrev n_two_acts : Nat := 20
abbrev n_told_acts : Nat := 21
abbrev n_blind : Nat := 22
abbrev n_twins : Nat := 23
abbrev n_joint : Nat := 24
abbrev n__law_mixed : Nat := 25
abbrev n__law_start : Nat := 26
abbrev n__law_take : Nat := 27
abbrev n__law_pick : Nat := 28
abbrev n__law_same : Nat := 29
abbrev n__law_frac : Nat := 30
abbrev n__law_made : Nat := 31
abbrev n__law_cost : Nat := 32
abbrev n__law_chance : Nat := 33
abbrev n__law_other : Nat := 34
abbrev n__law_is_chance : Nat := 35
abbrev n__law_two_right : Nat := 36
abbrev n__law_told_right : Nat := 37
abbrev n__law_row : Nat := 38
abbrev n__law_twins_right : Nat := 39
abbrev n__law_joint_right : Nat := 40
abbrev n_law : Nat := 41
def F_common : Fn := ⟨2, 2,
  [.par [0, 1] [(.bi .abs [(.v 0)]), (.bi .abs [(.v 1)])],
   .whl (.tru (.v 1))
      [.par [0, 1] [(.v 1), (.bin .mod (.v 0) (.v 1))]],
   .ret (.v 0)]⟩
def N_common : List Str := ["one", "other"]
def F_ratio : Fn := ⟨2, 3,
  [.set (.nm 2) (.call n_common [(.v 0), (.v 1)] [0, 1]),
   .ife (.cmp .lt (.v 1) (.c (.int 0)))
      [.set (.nm 2) (.neg (.v 2))]
      [],
   .ret (.tup [(.bin .fdiv (.v 0) (.v 2)), (.bin .fdiv (.v 1) (.v 2))])]⟩
def N_ratio : List Str := ["top", "bottom", "shared"]
def F_is_number : Fn := ⟨1, 1,
  [.ret (.and [(.bi .isint [(.v 0)]), (.not (.bi .isbool [(.v 0)]))])]⟩
def N_is_number : List Str := ["value"]
def F_is_fraction : Fn := ⟨1, 1,
  [.ife (.or [(.not (.tru (.bi .istup [(.v 0)]))), (.cmp .ne (.bi .len [(.v 0)]) (.c (.int 2)))])
      [.ret (.c (.bl false))]
      [],
   .ife (.or [(.not (.tru (.call n_is_number [(.idx (.v 0) (.c (.int 0)))] [0]))), (.not (.tru (.call n_is_number [(.idx (.v 0) (.c (.int 1)))] [0])))])
      [.ret (.c (.bl false))]
      [],
   .ret (.and [(.cmp .ge (.idx (.v 0) (.c (.int 1))) (.c (.int 1))), (.cmp .eq (.call n_common [(.idx (.v 0) (.c (.int 0))), (.idx (.v 0) (.c (.int 1)))] [0, 1]) (.c (.int 1)))])]⟩
def N_is_fraction : List Str := ["value"]
def F_is_fractions : Fn := ⟨3, 4,
  [.ife (.or [(.not (.tru (.bi .istup [(.v 0)]))), (.not (.cmp2 .le .le (.v 1) (.bi .len [(.v 0)]) (.v 2)))])
      [.ret (.c (.bl false))]
      [],
   .ret (.gen .all [3] (.call n_is_fraction [(.v 3)] [0]) (.nm 3) .seq [(.v 0)] [])]⟩
def N_is_fractions : List Str := ["value", "low", "high", "part"]
def F_is_chances : Fn := ⟨3, 6,
  [.ife (.not (.tru (.call n_is_fractions [(.v 0), (.v 1), (.v 2)] [0, 1, 2])))
      [.ret (.c (.bl false))]
      [],
   .ife (.tru (.gen .any [3] (.or [(.cmp .lt (.idx (.v 3) (.c (.int 0))) (.c (.int 0))), (.cmp .gt (.idx (.v 3) (.c (.int 0))) (.idx (.v 3) (.c (.int 1))))]) (.nm 3) .seq [(.v 0)] []))
      [.ret (.c (.bl false))]
      [],
   .set (.tp [(.nm 4), (.nm 5)]) (.call n_wholes [(.v 0)] [0]),
   .ret (.cmp .eq (.bi .sum [(.v 4)]) (.v 5))]⟩
def N_is_chances : List Str := ["value", "low", "high", "part", "tops", "bottom"]
def F_minus : Fn := ⟨2, 2,
  [.ret (.call n_ratio [(.bin .sub (.bin .mul (.idx (.v 0) (.c (.int 0))) (.idx (.v 1) (.c (.int 1)))) (.bin .mul (.idx (.v 1) (.c (.int 0))) (.idx (.v 0) (.c (.int 1))))), (.bin .mul (.idx (.v 0) (.c (.int 1))) (.idx (.v 1) (.c (.int 1))))] [0, 1])]⟩
def N_minus : List Str := ["one", "other"]
def F_bottom_of : Fn := ⟨1, 3,
  [.set (.nm 1) (.c (.int 1)),
   .loop (.nm 2) .seq [(.v 0)]
      [.ife (.tru (.bin .mod (.v 1) (.idx (.v 2) (.c (.int 1)))))
          [.set (.nm 1) (.bin .mul (.bin .fdiv (.v 1) (.call n_common [(.v 1), (.idx (.v 2) (.c (.int 1)))] [0, 1])) (.idx (.v 2) (.c (.int 1))))]
          []],
   .ret (.v 1)]⟩
def N_bottom_of : List Str := ["row", "bottom", "part"]
def F_tops_over : Fn := ⟨2, 3,
  [.ret (.gen .tuple [2] (.bin .mul (.idx (.v 2) (.c (.int 0))) (.bin .fdiv (.v 1) (.idx (.v 2) (.c (.int 1))))) (.nm 2) .seq [(.v 0)] [])]⟩
def N_tops_over : List Str := ["row", "bottom", "part"]
def F_wholes : Fn := ⟨1, 2,
  [.set (.nm 1) (.call n_bottom_of [(.v 0)] [0]),
   .ret (.tup [(.call n_tops_over [(.v 0), (.v 1)] [0, 1]), (.v 1)])]⟩
def N_wholes : List Str := ["row", "bottom"]
def F_sum_of : Fn := ⟨1, 3,
  [.set (.tp [(.nm 1), (.nm 2)]) (.call n_wholes [(.v 0)] [0]),
   .ret (.call n_ratio [(.bi .sum [(.v 1)]), (.v 2)] [0, 1])]⟩
def N_sum_of : List Str := ["row", "tops", "bottom"]
def F_unit : Fn := ⟨2, 3,
  [.ret (.gen .tuple [2] (.ife (.cmp .eq (.v 2) (.v 1)) (.g "ONE") (.g "ZERO")) (.nm 2) .rng [(.v 0)] [])]⟩
def N_unit : List Str := ["many", "place", "at"]
def F_check_team : Fn := ⟨1, 1,
  [.ife (.or [(.not (.tru (.bi .istup [(.v 0)]))), (.cmp .ne (.bi .len [(.v 0)]) (.c (.int 2)))])
      [.raise "BadWork" [(.c (.str "team")), (.neg (.c (.int 1)))]]
      [],
   .ife (.or [(.not (.tru (.bi .istup [(.idx (.v 0) (.c (.int 0)))]))), (.not (.tru (.bi .istup [(.idx (.v 0) (.c (.int 1)))])))])
      [.raise "BadWork" [(.c (.str "team")), (.neg (.c (.int 1)))]]
      [],
   .xcall .ex n_check_team_costs [(.idx (.v 0) (.c (.int 0)))] [0],
   .xcall .ex n_check_team_chances [(.idx (.v 0) (.c (.int 0))), (.idx (.v 0) (.c (.int 1)))] [0, 1]]⟩
def N_check_team : List Str := ["value"]
def F_check_team_costs : Fn := ⟨1, 3,
  [.ife (.not (.cmp2 .le .le (.c (.int 2)) (.bi .len [(.v 0)]) (.c (.int 3))))
      [.raise "BadWork" [(.c (.str "costs")), (.neg (.c (.int 1)))]]
      [],
   .loop (.tp [(.nm 1), (.nm 2)]) .enm [(.v 0)]
      [.ife (.not (.tru (.call n_is_fractions [(.v 2), (.c (.int 1)), (.c (.int 3))] [0, 1, 2])))
          [.raise "BadWork" [(.c (.str "costs")), (.v 1)]]
          []]]⟩
def N_check_team_costs : List Str := ["costs", "number", "own"]
def F_check_team_chances : Fn := ⟨2, 6,
  [.set (.nm 2) (.c (.int 1)),
   .loop (.nm 3) .seq [(.v 0)]
      [.aug 2 .mul (.bi .len [(.v 3)])],
   .ife (.cmp .ne (.bi .len [(.v 1)]) (.v 2))
      [.raise "BadWork" [(.c (.str "chances")), (.neg (.c (.int 1)))]]
      [],
   .loop (.tp [(.nm 4), (.nm 5)]) .enm [(.v 1)]
      [.ife (.or [(.not (.tru (.call n_is_chances [(.v 5), (.c (.int 1)), (.c (.int 4))] [0, 1, 2]))), (.cmp .ne (.bi .len [(.v 5)]) (.bi .len [(.idx (.v 1) (.c (.int 0)))]))])
          [.raise "BadWork" [(.c (.str "chances")), (.v 4)]]
          []]]⟩
def N_check_team_chances : List Str := ["costs", "chances", "many", "own", "number", "row"]
def F_check_work : Fn := ⟨1, 5,
  [.ife (.or [(.not (.tru (.bi .istup [(.v 0)]))), (.cmp .ne (.bi .len [(.v 0)]) (.c (.int 3))), (.not (.tru (.gen .all [1] (.bi .istup [(.v 1)]) (.nm 1) .seq [(.v 0)] [])))])
      [.raise "BadWork" [(.c (.str "work")), (.neg (.c (.int 1)))]]
      [],
   .set (.tp [(.nm 2), (.nm 3), (.nm 4)]) (.v 0),
   .xcall .ex n_check_shares [(.v 2)] [0],
   .xcall .ex n_check_costs [(.v 3), (.bi .len [(.v 2)])] [0, 1],
   .xcall .ex n_check_chances [(.v 4), (.bi .len [(.idx (.v 3) (.c (.int 0)))])] [0, 1],
   .ret (.c (.non))]⟩
def N_check_work : List Str := ["value", "part", "shares", "costs", "chances"]
def F_check_shares : Fn := ⟨1, 3,
  [.ife (.not (.cmp2 .le .le (.c (.int 1)) (.bi .len [(.v 0)]) (.c (.int 3))))
      [.raise "BadWork" [(.c (.str "shares")), (.neg (.c (.int 1)))]]
      [],
   .loop (.tp [(.nm 1), (.nm 2)]) .enm [(.v 0)]
      [.ife (.or [(.not (.tru (.call n_is_fraction [(.v 2)] [0]))), (.cmp .le (.idx (.v 2) (.c (.int 0))) (.c (.int 0)))])
          [.raise "BadWork" [(.c (.str "shares")), (.v 1)]]
          []],
   .ife (.cmp .ne (.call n_sum_of [(.v 0)] [0]) (.g "ONE"))
      [.raise "BadWork" [(.c (.str "shares")), (.neg (.c (.int 1)))]]
      []]⟩
def N_check_shares : List Str := ["shares", "at", "share"]
def F_check_costs : Fn := ⟨2, 4,
  [.ife (.cmp .ne (.bi .len [(.v 0)]) (.v 1))
      [.raise "BadWork" [(.c (.str "costs")), (.neg (.c (.int 1)))]]
      [],
   .loop (.tp [(.nm 2), (.nm 3)]) .enm [(.v 0)]
      [.ife (.or [(.not (.tru (.call n_is_fractions [(.v 3), (.c (.int 1)), (.c (.int 4))] [0, 1, 2]))), (.cmp .ne (.bi .len [(.v 3)]) (.bi .len [(.idx (.v 0) (.c (.int 0)))]))])
          [.raise "BadWork" [(.c (.str "costs")), (.v 2)]]
          []]]⟩
def N_check_costs : List Str := ["costs", "kinds", "at", "row"]
def F_check_chances : Fn := ⟨2, 4,
  [.ife (.cmp .ne (.bi .len [(.v 0)]) (.v 1))
      [.raise "BadWork" [(.c (.str "chances")), (.neg (.c (.int 1)))]]
      [],
   .loop (.tp [(.nm 2), (.nm 3)]) .enm [(.v 0)]
      [.ife (.or [(.not (.tru (.call n_is_chances [(.v 3), (.c (.int 1)), (.c (.int 6))] [0, 1, 2]))), (.cmp .ne (.bi .len [(.v 3)]) (.bi .len [(.idx (.v 0) (.c (.int 0)))]))])
          [.raise "BadWork" [(.c (.str "chances")), (.v 2)]]
          []]]⟩
def N_check_chances : List Str := ["chances", "acts", "at", "row"]
def F_lone_work : Fn := ⟨2, 3,
  [.set (.nm 2) (.tup [(.tup [(.g "ONE")]), (.tup [(.v 0)]), (.v 1)]),
   .xcall .ex n_check_work [(.v 2)] [0],
   .ret (.v 2)]⟩
def N_lone_work : List Str := ["costs", "chances", "work"]
def F_two_acts : Fn := ⟨3, 3,
  [.xcall .ret n_lone_work [(.tup [(.g "ZERO"), (.v 0)]), (.tup [(.tup [(.call n_minus [(.g "ONE"), (.v 2)] [0, 1]), (.v 2)]), (.tup [(.call n_minus [(.g "ONE"), (.v 1)] [0, 1]), (.v 1)])])] [0, 1]]⟩
def N_two_acts : List Str := ["cost", "high", "low"]
def F_told_acts : Fn := ⟨1, 3,
  [.set (.nm 1) (.bi .len [(.v 0)]),
   .xcall .ret n_lone_work [(.v 0), (.gen .tuple [2] (.call n_unit [(.v 1), (.v 2)] [0, 1]) (.nm 2) .rng [(.v 1)] [])] [0, 1]]⟩
def N_told_acts : List Str := ["costs", "many", "act"]
def F_blind : Fn := ⟨1, 1,
  [.xcall .ret n_lone_work [(.v 0), (.bin .mul (.tup [(.tup [(.g "ONE")])]) (.bi .len [(.v 0)]))] [0, 1]]⟩
def N_blind : List Str := ["costs"]
def F_twins : Fn := ⟨1, 6,
  [.set (.tp [(.nm 1), (.nm 2), (.nm 3)]) (.v 0),
   .set (.nm 4) (.call n_ratio [(.idx (.idx (.v 1) (.c (.int 0))) (.c (.int 0))), (.bin .mul (.c (.int 2)) (.idx (.idx (.v 1) (.c (.int 0))) (.c (.int 1))))] [0, 1]),
   .set (.nm 5) (.tup [(.tup [(.v 4), (.v 4)]), (.tup [(.idx (.v 2) (.c (.int 0))), (.idx (.v 2) (.c (.int 0)))]), (.v 3)]),
   .xcall .ex n_check_work [(.v 5)] [0],
   .ret (.v 5)]⟩
def N_twins : List Str := ["work", "shares", "costs", "chances", "half", "double"]
def F_joint : Fn := ⟨2, 5,
  [.set (.nm 3) (.gen .tuple [2] (.tup [(.call n_minus [(.g "ONE"), (.idx (.v 1) (.v 2))] [0, 1]), (.idx (.v 1) (.v 2))]) (.nm 2) .seq [(.tup [(.c (.int 0)), (.c (.int 1)), (.c (.int 1)), (.c (.int 2))])] []),
   .set (.nm 4) (.tup [(.tup [(.tup [(.g "ZERO"), (.v 0)]), (.tup [(.g "ZERO"), (.v 0)])]), (.v 3)]),
   .xcall .ex n_check_team [(.v 4)] [0],
   .ret (.v 4)]⟩
def N_joint : List Str := ["cost", "chances", "many", "rows", "team"]
def F__law_mixed : Fn := ⟨2, 4,
  [.set (.nm 2) (.bin .mod (.bi .int [(.bin .add (.bin .add (.bin .mul (.v 0) (.c (.int 48271))) (.bin .mul (.v 1) (.c (.int 69621)))) (.c (.int 97)))]) (.c (.int 2147483647))),
   .set (.nm 3) (.bin .mod (.bi .int [(.bin .add (.bin .add (.bin .mul (.v 2) (.bin .add (.bin .add (.v 2) (.bin .mul (.c (.int 2)) (.v 1))) (.c (.int 1)))) (.bin .mul (.v 1) (.c (.int 16807)))) (.c (.int 31)))]) (.c (.int 2147483629))),
   .ret (.bin .mod (.bi .int [(.bin .add (.bin .mul (.v 3) (.c (.int 40692))) (.v 2))]) (.c (.int 2147483587)))]⟩
def N__law_mixed : List Str := ["number", "k", "one", "two"]
def F__law_start : Fn := ⟨1, 3,
  [.set (.nm 1) (.bi .len [(.v 0)]),
   .loop (.nm 2) .seq [(.v 0)]
      [.set (.nm 1) (.call n__law_mixed [(.bin .add (.v 1) (.v 2)), (.c (.int 5))] [0, 1])],
   .ret (.lst [(.c (.int 0)), (.c (.int 0)), (.c (.int 0)), (.v 1), (.bi .list [(.v 0)]), (.c (.int 0))])]⟩
def N__law_start : List Str := ["script", "seed", "cell"]
def F__law_take : Fn := ⟨2, 5,
  [.set (.nm 2) (.idx (.v 0) (.c (.int 4))),
   .augi (.v 0) (.c (.int 2)) .add (.c (.int 1)),
   .ife (.and [(.cmp .eq (.idx (.v 0) (.c (.int 0))) (.c (.int 0))), (.cmp .lt (.idx (.v 0) (.c (.int 1))) (.bi .len [(.v 2)]))])
      [.set (.nm 3) (.idx (.v 2) (.idx (.v 0) (.c (.int 1)))),
       .augi (.v 0) (.c (.int 1)) .add (.c (.int 1)),
       .ife (.or [(.cmp .eq (.bin .mod (.bi .len [(.v 2)]) (.c (.int 2))) (.c (.int 1))), (.cmp .lt (.bi .abs [(.v 3)]) (.bin .pow (.c (.int 10)) (.c (.int 18))))])
          [.ret (.bin .mod (.bi .int [(.call n__law_mixed [(.v 3), (.idx (.v 0) (.c (.int 2)))] [0, 1])]) (.v 1))]
          [],
       .seti (.v 0) (.c (.int 0)) (.bi .abs [(.v 3)]),
       .seti (.v 0) (.c (.int 5)) (.c (.int 60))]
      [],
   .ife (.cmp .eq (.idx (.v 0) (.c (.int 0))) (.c (.int 0)))
      [.ret (.bin .mod (.bi .int [(.call n__law_mixed [(.idx (.v 0) (.c (.int 3))), (.idx (.v 0) (.c (.int 2)))] [0, 1])]) (.v 1))]
      [],
   .set (.nm 4) (.bin .mod (.bi .int [(.idx (.v 0) (.c (.int 0)))]) (.v 1)),
   .augi (.v 0) (.c (.int 5)) .sub (.c (.int 1)),
   .seti (.v 0) (.c (.int 0)) (.bin .mul (.bin .fdiv (.idx (.v 0) (.c (.int 0))) (.v 1)) (.bi .int [(.cmp .gt (.idx (.v 0) (.c (.int 5))) (.c (.int 0)))])),
   .ret (.v 4)]⟩
def N__law_take : List Str := ["state", "limit", "cells", "cell", "value"]
def F__law_pick : Fn := ⟨2, 2,
  [.ret (.idx (.v 1) (.call n__law_take [(.v 0), (.bi .len [(.v 1)])] [0, 1]))]⟩
def N__law_pick : List Str := ["state", "some"]
def F__law_same : Fn := ⟨2, 3,
  [.ife (.cmp .is (.v 1) (.c (.non)))
      [.ret (.cmp .is (.v 0) (.c (.non)))]
      [],
   .ife (.tru (.bi .isbool [(.v 1)]))
      [.ret (.and [(.bi .isbool [(.v 0)]), (.cmp .eq (.v 0) (.v 1))])]
      [],
   .ife (.tru (.bi .isint [(.v 1)]))
      [.ret (.and [(.bi .isint [(.v 0)]), (.not (.bi .isbool [(.v 0)])), (.cmp .eq (.v 0) (.v 1))])]
      [],
   .ife (.tru (.bi .isstr [(.v 1)]))
      [.ret (.and [(.bi .isstr [(.v 0)]), (.cmp .eq (.v 0) (.v 1))])]
      [],
   .ife (.or [(.not (.tru (.bi .istup [(.v 0)]))), (.cmp .ne (.bi .len [(.v 0)]) (.bi .len [(.v 1)]))])
      [.ret (.c (.bl false))]
      [],
   .loop (.nm 2) .rng [(.bi .len [(.v 1)])]
      [.ife (.not (.tru (.call n__law_same [(.idx (.v 0) (.v 2)), (.idx (.v 1) (.v 2))] [0, 1])))
          [.ret (.c (.bl false))]
          []],
   .ret (.c (.bl true))]⟩
def N__law_same : List Str := ["actual", "due", "k"]
def F__law_frac : Fn := ⟨2, 4,
  [.par [2, 3] [(.bi .abs [(.v 0)]), (.v 1)],
   .whl (.cmp .gt (.v 3) (.c (.int 0)))
      [.par [2, 3] [(.v 3), (.bin .mod (.v 2) (.v 3))]],
   .ret (.tup [(.bin .fdiv (.v 0) (.v 2)), (.bin .fdiv (.v 1) (.v 2))])]⟩
def N__law_frac : List Str := ["top", "bottom", "one", "other"]
def F__law_made : Fn := ⟨4, 5,
  [.tryS
      [.ife (.cmp .eq (.v 0) (.c (.int 0)))
          [.xcall (.retc (.str "told")) n_two_acts [(.v 1), (.v 2), (.v 3)] [0, 1, 2]]
          [],
       .ife (.cmp .eq (.v 0) (.c (.int 1)))
          [.xcall (.retc (.str "told")) n_told_acts [(.v 1)] [0]]
          [],
       .ife (.cmp .eq (.v 0) (.c (.int 2)))
          [.xcall (.retc (.str "told")) n_blind [(.v 1)] [0]]
          [],
       .xcall (.retc (.str "told")) n_joint [(.v 1), (.v 2)] [0, 1]]
      "BadWork" (.tup [(.c (.str "work")), (.f 0), (.f 1)])]⟩
def N__law_made : List Str := ["way", "one", "two", "three", "e"]
def F__law_cost : Fn := ⟨1, 1,
  [.ret (.call n__law_frac [(.bin .sub (.call n__law_take [(.v 0), (.c (.int 13))] [0, 1]) (.c (.int 3))), (.bin .add (.c (.int 1)) (.call n__law_take [(.v 0), (.c (.int 3))] [0, 1]))] [0, 1])]⟩
def N__law_cost : List Str := ["state"]
def F__law_chance : Fn := ⟨1, 2,
  [.set (.nm 1) (.call n__law_frac [(.call n__law_take [(.v 0), (.c (.int 5))] [0, 1]), (.c (.int 4))] [0, 1]),
   .ret (.call n__law_pick [(.v 0), (.tup [(.v 1), (.v 1), (.v 1), (.v 1), (.v 1), (.v 1), (.tup [(.c (.int 0)), (.c (.int 1))]), (.tup [(.c (.int 1)), (.c (.int 1))]), (.tup [(.c (.int 5)), (.c (.int 4))]), (.tup [(.neg (.c (.int 1))), (.c (.int 3))])])] [0, 1])]⟩
def N__law_chance : List Str := ["state", "one"]
def F__law_other : Fn := ⟨1, 1,
  [.ret (.tup [(.bin .sub (.idx (.v 0) (.c (.int 1))) (.idx (.v 0) (.c (.int 0)))), (.idx (.v 0) (.c (.int 1)))])]⟩
def N__law_other : List Str := ["one"]
def F__law_is_chance : Fn := ⟨1, 1,
  [.ret (.cmp2 .le .le (.c (.int 0)) (.idx (.v 0) (.c (.int 0))) (.idx (.v 0) (.c (.int 1))))]⟩
def N__law_is_chance : List Str := ["one"]
def F__law_two_right : Fn := ⟨1, 7,
  [.set (.tp [(.nm 1), (.nm 2), (.nm 3)]) (.tup [(.call n__law_cost [(.v 0)] [0]), (.call n__law_chance [(.v 0)] [0]), (.call n__law_chance [(.v 0)] [0])]),
   .set (.nm 4) (.tup [(.c (.str "told")), (.tup [(.tup [(.tup [(.c (.int 1)), (.c (.int 1))])]), (.tup [(.tup [(.tup [(.c (.int 0)), (.c (.int 1))]), (.v 1)])]), (.tup [(.tup [(.call n__law_other [(.v 3)] [0]), (.v 3)]), (.tup [(.call n__law_other [(.v 2)] [0]), (.v 2)])])])]),
   .set (.nm 6) (.lc [5] (.v 5) (.nm 5) .rng [(.c (.int 2))] [(.not (.tru (.call n__law_is_chance [(.idx (.tup [(.v 3), (.v 2)]) (.v 5))] [0])))]),
   .ife (.cmp .gt (.bi .len [(.v 6)]) (.c (.int 0)))
      [.set (.nm 4) (.tup [(.c (.str "work")), (.c (.str "chances")), (.idx (.v 6) (.c (.int 0)))])]
      [],
   .ife (.not (.tru (.call n__law_same [(.call n__law_made [(.c (.int 0)), (.v 1), (.v 2), (.v 3)] [0, 1, 2, 3]), (.v 4)] [0, 1])))
      [.ret (.c (.bl false))]
      [],
   .ret (.or [(.cmp .gt (.bi .len [(.v 6)]) (.c (.int 0))), (.call n__law_same [(.call n_two_acts [(.v 3), (.v 2), (.v 1)] [2, 1, 0]), (.idx (.v 4) (.c (.int 1)))] [0, 1])])]⟩
def N__law_two_right : List Str := ["state", "cost", "high", "low", "due", "k", "wrong"]
def F__law_told_right : Fn := ⟨1, 8,
  [.set (.nm 2) (.bi .tuple [(.lc [1] (.call n__law_cost [(.v 0)] [0]) (.nm 1) .rng [(.call n__law_take [(.v 0), (.c (.int 6))] [0, 1])] [])]),
   .set (.nm 3) (.bi .len [(.v 2)]),
   .set (.tp [(.nm 4), (.nm 5)]) (.tup [(.tup [(.c (.str "work")), (.c (.str "costs")), (.c (.int 0))]), (.tup [(.c (.str "work")), (.c (.str "costs")), (.c (.int 0))])]),
   .ife (.cmp2 .lt .lt (.c (.int 0)) (.v 3) (.c (.int 5)))
      [.set (.nm 4) (.tup [(.c (.str "told")), (.tup [(.tup [(.tup [(.c (.int 1)), (.c (.int 1))])]), (.tup [(.v 2)]), (.bi .tuple [(.lc [7] (.bi .tuple [(.lc [6] (.tup [(.bi .int [(.cmp .eq (.v 6) (.v 7))]), (.c (.int 1))]) (.nm 6) .rng [(.v 3)] [])]) (.nm 7) .rng [(.v 3)] [])])])]),
       .set (.nm 5) (.tup [(.c (.str "told")), (.tup [(.tup [(.tup [(.c (.int 1)), (.c (.int 1))])]), (.tup [(.v 2)]), (.bin .mul (.tup [(.tup [(.tup [(.c (.int 1)), (.c (.int 1))])])]) (.v 3))])])]
      [],
   .ife (.or [(.not (.tru (.call n__law_same [(.call n__law_made [(.c (.int 1)), (.v 2), (.c (.non)), (.c (.non))] [0, 1, 2, 3]), (.v 4)] [0, 1]))), (.not (.tru (.call n__law_same [(.call n__law_made [(.c (.int 2)), (.v 2), (.c (.non)), (.c (.non))] [0, 1, 2, 3]), (.v 5)] [0, 1])))])
      [.ret (.c (.bl false))]
      [],
   .ret (.or [(.cmp .eq (.idx (.v 4) (.c (.int 0))) (.c (.str "work"))), (.call n__law_same [(.tup [(.call n_told_acts [(.v 2)] [0]), (.call n_blind [(.v 2)] [0])]), (.tup [(.idx (.v 4) (.c (.int 1))), (.idx (.v 5) (.c (.int 1)))])] [0, 1])])]⟩
def N__law_told_right : List Str := ["state", "k", "costs", "many", "due", "other", "r", "a"]
def F__law_row : Fn := ⟨2, 5,
  [.set (.nm 3) (.lc [2] (.call n__law_take [(.v 0), (.c (.int 4))] [0, 1]) (.nm 2) .rng [(.v 1)] []),
   .augi (.v 3) (.call n__law_take [(.v 0), (.v 1)] [0, 1]) .add (.c (.int 1)),
   .ret (.bi .tuple [(.lc [4] (.call n__law_frac [(.v 4), (.bi .sum [(.v 3)])] [0, 1]) (.nm 4) .seq [(.v 3)] [])])]⟩
def N__law_row : List Str := ["state", "many", "k", "some", "one"]
def F__law_twins_right : Fn := ⟨1, 8,
  [.set (.tp [(.nm 1), (.nm 2)]) (.tup [(.bin .add (.c (.int 1)) (.call n__law_take [(.v 0), (.c (.int 4))] [0, 1])), (.bin .add (.c (.int 1)) (.call n__law_take [(.v 0), (.c (.int 6))] [0, 1]))]),
   .set (.nm 4) (.bi .tuple [(.lc [3] (.call n__law_cost [(.v 0)] [0]) (.nm 3) .rng [(.v 1)] [])]),
   .set (.nm 5) (.bi .tuple [(.lc [3] (.call n__law_row [(.v 0), (.v 2)] [0, 1]) (.nm 3) .rng [(.v 1)] [])]),
   .set (.nm 6) (.tup [(.tup [(.tup [(.c (.int 1)), (.c (.int 2))]), (.tup [(.c (.int 1)), (.c (.int 2))])]), (.tup [(.v 4), (.v 4)]), (.v 5)]),
   .set (.nm 7) (.tup [(.tup [(.tup [(.c (.int 1)), (.c (.int 1))])]), (.tup [(.v 4)]), (.v 5)]),
   .ret (.and [(.call n__law_same [(.call n_twins [(.v 7)] [0]), (.v 6)] [0, 1]), (.call n__law_same [(.call n_twins [(.v 7)] [0]), (.v 6)] [0, 1])])]⟩
def N__law_twins_right : List Str := ["state", "acts", "results", "a", "costs", "chances", "due", "work"]
def F__law_joint_right : Fn := ⟨1, 8,
  [.par [2, 3] [(.call n__law_cost [(.v 0)] [0]), (.bi .tuple [(.lc [1] (.call n__law_chance [(.v 0)] [0]) (.nm 1) .rng [(.c (.int 3))] [])])],
   .set (.nm 4) (.lst [(.idx (.v 3) (.c (.int 0))), (.idx (.v 3) (.c (.int 1))), (.idx (.v 3) (.c (.int 1))), (.idx (.v 3) (.c (.int 2)))]),
   .set (.nm 5) (.lc [1] (.v 1) (.nm 1) .rng [(.c (.int 4))] [(.not (.tru (.call n__law_is_chance [(.idx (.v 4) (.v 1))] [0])))]),
   .set (.nm 7) (.ife (.cmp .gt (.bi .len [(.v 5)]) (.c (.int 0))) (.tup [(.c (.str "work")), (.c (.str "chances")), (.idx (.v 5) (.c (.int 0)))]) (.tup [(.c (.str "told")), (.tup [(.bin .mul (.tup [(.tup [(.tup [(.c (.int 0)), (.c (.int 1))]), (.v 2)])]) (.c (.int 2))), (.bi .tuple [(.lc [6] (.tup [(.call n__law_other [(.v 6)] [0]), (.v 6)]) (.nm 6) .seq [(.v 4)] [])])])])),
   .ife (.not (.tru (.call n__law_same [(.call n__law_made [(.c (.int 3)), (.v 2), (.v 3), (.c (.non))] [0, 1, 2, 3]), (.v 7)] [0, 1])))
      [.ret (.c (.bl false))]
      [],
   .ret (.or [(.cmp .gt (.bi .len [(.v 5)]) (.c (.int 0))), (.call n__law_same [(.call n_joint [(.v 3), (.v 2)] [1, 0]), (.idx (.v 7) (.c (.int 1)))] [0, 1])])]⟩
def N__law_joint_right : List Str := ["state", "k", "cost", "chances", "rows", "wrong", "one", "due"]
def F_law : Fn := ⟨1, 3,
  [.set (.nm 1) (.call n__law_start [(.v 0)] [0]),
   .loop (.nm 2) .rng [(.c (.int 4))]
      [.ife (.or [(.not (.tru (.call n__law_two_right [(.v 1)] [0]))), (.not (.tru (.call n__law_told_right [(.v 1)] [0]))), (.not (.tru (.call n__law_twins_right [(.v 1)] [0]))), (.not (.tru (.call n__law_joint_right [(.v 1)] [0])))])
          [.ret (.c (.bl false))]
          []],
   .ret (.c (.bl true))]⟩
def N_law : List Str := ["script", "state", "turn"]
def fns : List Fn := [F_common, F_ratio, F_is_number, F_is_fraction, F_is_fractions, F_is_chances, F_minus, F_bottom_of, F_tops_over, F_wholes, F_sum_of, F_unit, F_check_team, F_check_team_costs, F_check_team_chances, F_check_work, F_check_shares, F_check_costs, F_check_chances, F_lone_work, F_two_acts, F_told_acts, F_blind, F_twins, F_joint, F__law_mixed, F__law_start, F__law_take, F__law_pick, F__law_same, F__law_frac, F__law_made, F__law_cost, F__law_chance, F__law_other, F__law_is_chance, F__law_two_right, F__law_told_right, F__law_row, F__law_twins_right, F__law_joint_right, F_law]
def tab (n : Nat) : Option Fn := fns[n]?
def pgF_0 : List (Str × (Nat × List Str × List (List Str))) := [("common", (0, ["one", "other"], [])), ("ratio", (1, ["top", "bottom"], [])), ("is_number", (2, ["value"], [])), ("is_fraction", (3, ["value"], [])), ("is_fractions", (4, ["value", "low", "high"], [])), ("is_chances", (5, ["value", "low", "high"], [])), ("minus", (6, ["one", "other"], [])), ("bottom_of", (7, ["row"], [])), ("tops_over", (8, ["row", "bottom"], [])), ("wholes", (9, ["row"], [])), ("sum_of", (10, ["row"], [])), ("unit", (11, ["many", "place"], [])), ("check_team", (12, ["value"], [])), ("check_team_costs", (13, ["costs"], [])), ("check_team_chances", (14, ["costs", "chances"], [])), ("check_work", (15, ["value"], [])), ("check_shares", (16, ["shares"], [])), ("check_costs", (17, ["costs", "kinds"], [])), ("check_chances", (18, ["chances", "acts"], [])), ("lone_work", (19, ["costs", "chances"], [])), ("two_acts", (20, ["cost", "high", "low"], [["low", "high", "cost"]])), ("told_acts", (21, ["costs"], [["costs"]])), ("blind", (22, ["costs"], [["costs"]])), ("twins", (23, ["work"], [["work"]])), ("joint", (24, ["cost", "chances"], [["chances", "cost"]])), ("_law_mixed", (25, ["number", "k"], [])), ("_law_start", (26, ["script"], [])), ("_law_take", (27, ["state", "limit"], [])), ("_law_pick", (28, ["state", "some"], [])), ("_law_same", (29, ["actual", "due"], []))]
def pgF_1 : List (Str × (Nat × List Str × List (List Str))) := [("_law_frac", (30, ["top", "bottom"], [])), ("_law_made", (31, ["way", "one", "two", "three"], [])), ("_law_cost", (32, ["state"], [])), ("_law_chance", (33, ["state"], [])), ("_law_other", (34, ["one"], [])), ("_law_is_chance", (35, ["one"], [])), ("_law_two_right", (36, ["state"], [])), ("_law_told_right", (37, ["state"], [])), ("_law_row", (38, ["state", "many"], [])), ("_law_twins_right", (39, ["state"], [])), ("_law_joint_right", (40, ["state"], [])), ("law", (41, ["script"], []))]
def pgF : List (Str × (Nat × List Str × List (List Str))) := pgF_0 ++ pgF_1

def pg : Pg := ⟨[("ZERO", .tup [.int 0, .int 1]), ("ONE", .tup [.int 1, .int 1])], pgF, [("WorkError", []), ("BadWork", ["part", "number"])], ["check_team", "check_team_costs", "check_team_chances", "check_work", "check_shares", "check_costs", "check_chances", "lone_work", "two_acts", "told_acts", "blind", "joint"]⟩
end K67
end

section
set_option linter.all false
set_option autoImplicit false
set_option maxRecDepth 10000
set_option exponentiation.threshold 100000
set_option maxHeartbeats 4000000
namespace K67
open PySem IX
abbrev G : Str → Option P := fun x => pg.G.lookup x
def LL : Nat := 2 ^ 20000
theorem LL_big : 2 ^ 9000 < LL := Nat.pow_lt_pow_right (by decide) (by decide)
theorem LL_of {b : Nat} (h : b < 2 ^ 9000) : b < LL := Nat.lt_trans h LL_big
abbrev W (k : Nat) : Wd := evF tab G LL k
/-- the def f, with fuel k + 1 -/
theorem enter {k f : Nat} {ds : List D} {M : Mem} (fn : Fn) {Q : D × Mem → Prop} (h : tab f = some fn) (hl : ds.length = fn.np) (w : Wp (evSs (W k) G LL fn.body (entry fn ds) M) (Fin Q)) (hf : f < XO := by decide) : Wp (W (k + 1) f ds M) Q := wp_fn fn h hl w hf
theorem enterx {k f : Nat} {ds : List D} {M : Mem} (fn : Fn) {Q : D × Mem → Prop} (h : tab f = some fn) (hl : ds.length = fn.np) (w : Wp (evSs (W k) G LL fn.body (entry fn ds) M) (Finx Q)) : Wp (W (k + 1) (f + XO) ds M) Q := wp_fnx fn h hl w

theorem gcd_whl {V : Wd} {N : Nat} {M : Mem} : ∀ (fuel b a : Nat), b < fuel →
    whl V G N (.tru (.v 1)) [.par [0, 1] [.v 1, .bin .mod (.v 0) (.v 1)]] fuel [some (.p (.int a)), some (.p (.int b))] M =
      some (.nx [some (.p (.int (Nat.gcd a b))), some (.p (.int 0))] M) := by
  intro fuel
  induction fuel with
  | zero => intro b a h; omega
  | succ fuel ih =>
    intro b a h
    rw [whl_step]
    by_cases hb : b = 0
    · subst hb
      simp
    · have hne : (b : Int) ≠ 0 := by omega
      simp [-Option.bind_some, ss_cons', hb]
      rw [fmod_nat, ih (a % b) b (by have := Nat.mod_lt a (Nat.pos_of_ne_zero hb); omega)]
      rw [Nat.gcd_comm b (a % b), ← Nat.gcd_rec, Nat.gcd_comm b a]
theorem p_common (k : Nat) (a b : Int) (hL : b.natAbs < 2 ^ 9000) (M : Mem) : Pure (W (k + 1)) n_common [.p (.int a), .p (.int b)] (.int (Nat.gcd a.natAbs b.natAbs)) M := by
  refine pure_of (cl_int _) (enter F_common rfl rfl ?_)
  have lp := gcd_whl (V := W k) (N := LL) (M := M) LL b.natAbs a.natAbs (LL_of hL)
  simp [-Option.bind_some, F_common, entry, abs_nat, lp]
theorem c_common (k : Nat) (a b : Int) (hL : b.natAbs < 2 ^ 9000) (M : Mem) : callX (W (k + 1)) n_common [.p (.int a), .p (.int b)] M = some (.p (.int (Nat.gcd a.natAbs b.natAbs)), M) := (p_common k a b hL M).call
theorem p_ratio (k : Nat) (n : Int) (d : Nat) (hd : 0 < d) (h1 : d < 2 ^ 9000) (M : Mem) : Pure (W (k + 2)) n_ratio [.p (.int n), .p (.int d)] (fr (mkRat n d)) M := by
  refine pure_of (fr_cl _) (enter F_ratio rfl rfl ?_)
  have hg : 0 < n.natAbs.gcd d := Nat.gcd_pos_of_pos_right _ hd
  have hg2 : n.natAbs.gcd d < 2 ^ 9000 := Nat.lt_of_le_of_lt (Nat.gcd_le_right _ hd) h1
  have c := c_common k n d h1 M
  rw [Int.natAbs_natCast] at c
  have hdo := divOk_of hg hg2
  have hn : ¬ ((d : Int) < 0) := by omega
  obtain ⟨e1, e2⟩ := num_eq n d (by omega)
  have f1 : n.fdiv ((n.natAbs.gcd d : Nat) : Int) = (mkRat n d).num := by rw [e1, Int.fdiv_eq_ediv_of_nonneg _ (by omega)]
  have f2 : (d : Int).fdiv ((n.natAbs.gcd d : Nat) : Int) = ((mkRat n d).den : Int) := by rw [e2, Int.fdiv_eq_ediv_of_nonneg _ (by omega)]; rfl
  simp [-Option.bind_some, F_ratio, entry, c, hn, hdo, f1, f2, fr, s2]
theorem c_ratio (k : Nat) (n : Int) {dI : Int} (d : Nat) (he : dI = (d : Int)) (hd : 0 < d) (h1 : d < 2 ^ 9000) (M : Mem) : callX (W (k + 2)) n_ratio [.p (.int n), .p (.int dI)] M = some (.p (fr (mkRat n d)), M) := by
  subst he; exact (p_ratio k n d hd h1 M).call
theorem c_ratio_bd (k : Nat) {m n : Nat} (q r : Rat) (t : Int) (h1 : Bd m q) (h2 : Bd n r) (hm : m ≤ 4000) (hn : n ≤ 4000) (M : Mem) : callX (W (k + 2)) n_ratio [.p (.int t), .p (.int ((q.den : Int) * r.den))] M = some (.p (fr (mkRat t (q.den * r.den))), M) :=
  c_ratio k t (q.den * r.den) (by simp) (Nat.mul_pos q.den_pos r.den_pos) (Nat.lt_of_lt_of_le (pw h1.2 h2.2) (Nat.pow_le_pow_right (by decide) (by omega))) M
theorem c_minus (k : Nat) {m n : Nat} {q r : Rat} (h1 : Bd m q) (h2 : Bd n r) (hm : m ≤ 4000) (hn : n ≤ 4000) (M : Mem) : callX (W (k + 3)) n_minus [.p (fr q), .p (fr r)] M = some (.p (fr (q - r)), M) := by
  refine (pure_of (fr_cl _) (enter F_minus rfl rfl ?_)).call
  have c := c_ratio_bd k q r (q.num * r.den - r.num * q.den) h1 h2 hm hn M
  rw [← Rat.sub_def'] at c
  simp [-Option.bind_some, F_minus, entry, fr, mulOk_sm (h1.n hm) (h2.d hn), mulOk_sm (h2.n hn) (h1.d hm), mulOk_sm (h1.d hm) (h2.d hn)] at c ⊢
  simp [c]
theorem c_bottom_of (k a : Nat) {d : D} (l : List Rat) (hA : AllB a l) (h : 1 + a * l.length ≤ 4000) {M : Mem} (hd : Seq M d (l.map fr)) : callX (W (k + 2)) n_bottom_of [d] M = some (.p (.int (bot l 1)), M) := by
  refine (pure_of (cl_int _) (enter F_bottom_of rfl rfl ?_)).call
  obtain ⟨s, e1, e2, e3⟩ := hd.src
  simp [-Option.bind_some, F_bottom_of, entry, e1, e2]
  refine lop_wp fr (fun pre r ρ M' => M' = M ∧ ∃ z, ρ = [some d, some (.p (.int (bot pre 1))), z]) l ⟨rfl, none, rfl⟩ ?_ ?_
  · rintro pre q r ρ M' hl ⟨rfl, z, rfl⟩
    have hq : Bd a q := hA q (by rw [hl]; simp)
    have hlen : pre.length + 1 ≤ l.length := by rw [hl]; simp
    have ha : 1 + a * (pre.length + 1) ≤ 4000 := Nat.le_trans (Nat.add_le_add_left (Nat.mul_le_mul_left a hlen) 1) h
    rw [Nat.mul_succ] at ha
    have hp : AllB a pre := fun y hy => hA y (by rw [hl]; simp [hy])
    have hb0 := bot_pos pre 1 (by decide)
    have hb : bot pre 1 < 2 ^ (1 + a * pre.length) := bot_lt pre 1 1 hp (by decide)
    have hd0 := q.den_pos
    have hne : ¬ (q.den = 0) := by omega
    have hqd : q.den < 2 ^ 4000 := big hq.2 (by omega)
    have cc := c_common k (bot pre 1 : Nat) (q.den : Int) (by rw [Int.natAbs_natCast]; exact Nat.lt_of_lt_of_le hqd (Nat.pow_le_pow_right (by decide) (by decide))) M'
    rw [Int.natAbs_natCast, Int.natAbs_natCast] at cc
    have hg : 0 < (bot pre 1).gcd q.den := Nat.gcd_pos_of_pos_left _ hb0
    have hdo : divOk (((bot pre 1).gcd q.den : Nat) : Int) = true := divOk_of hg (Nat.lt_of_le_of_lt (Nat.gcd_le_left _ hb0) (Nat.lt_of_lt_of_le (big hb (by omega)) (Nat.pow_le_pow_right (by decide) (by decide))))
    have hf0 : ((bot pre 1 : Nat) : Int).fdiv (((bot pre 1).gcd q.den : Nat) : Int) = ((bot pre 1 / (bot pre 1).gcd q.den : Nat) : Int) := by rw [Int.fdiv_eq_ediv_of_nonneg _ (by omega)]; simp
    have hmo : mulOk ((bot pre 1 / (bot pre 1).gcd q.den : Nat) : Int) (q.den : Int) = true := mulOk_of (by
      rw [Int.natAbs_natCast]
      exact Nat.lt_of_le_of_lt (Nat.div_le_self _ _) (big hb (by omega))) (by rw [Int.natAbs_natCast]; exact hqd)
    have hs := bot_snoc pre 1 q
    by_cases hz : bot pre 1 % q.den = 0
    · have i1 : (((bot pre 1 : Nat) : Int).fmod (q.den : Int) != 0) = false := by rw [fmod_nat, hz]; rfl
      rw [if_pos hz] at hs
      simp [-Option.bind_some, fr, hne, i1, e3, hs]
    · have i1 : (((bot pre 1 : Nat) : Int).fmod (q.den : Int) != 0) = true := by
        rw [fmod_nat]
        have : ((bot pre 1 % q.den : Nat) : Int) ≠ 0 := by omega
        simpa using this
      rw [if_neg hz] at hs
      simp [-Option.bind_some, -Int.natCast_ediv, fr, hne, i1, e3, hs, cc, hdo, hf0, hmo]
  · rintro ρ M' ⟨rfl, z, rfl⟩
    simp
theorem c_tops_over (k a B : Nat) {d : D} (l : List Rat) (hA : AllB a l) (ha : a ≤ 4000) (hB : B < 2 ^ 4000) (hl : l.length ≤ 4000) {M : Mem} (hd : Seq M d (l.map fr)) : callX (W (k + 1)) n_tops_over [d, .p (.int B)] M = some (.p (.tup (l.map fun q => .int (tp B q))), M) := by
  refine (pure_of (cl_tup fun _ _ => cl_int _) (enter F_tops_over rfl rfl ?_)).call
  obtain ⟨s, e1, e2, e3⟩ := hd.src
  simp [-Option.bind_some, F_tops_over, entry, e1, e2]
  rw [gturns_map fr (fun q => .int (tp B q)) l]
  · simp [len_ok hl]
  · intro q hq
    have b := hA q hq
    have hd : divOk (q.den : Int) = true := den_ok b ha
    have e : (B : Int).fdiv (q.den : Int) = ((B / q.den : Nat) : Int) := by
      rw [Int.fdiv_eq_ediv_of_nonneg _ (by omega)]; rfl
    have hm : mulOk q.num ((B / q.den : Nat) : Int) = true := mulOk_of (b.n ha) (by rw [Int.natAbs_natCast]; exact Nat.lt_of_le_of_lt (Nat.div_le_self _ _) hB)
    simp [-Option.bind_some, -Int.natCast_ediv, gnx, wipeE, fr, hd, e, hm, tp]
theorem c_wholes (k a : Nat) {d : D} (l : List Rat) (hA : AllB a l) (ha : a ≤ 4000) (h : 1 + a * l.length ≤ 4000) (hl : l.length ≤ 4000) {M : Mem} (hd : Seq M d (l.map fr)) : callX (W (k + 3)) n_wholes [d] M = some (.p (.tup [.tup (l.map fun q => .int (tp (bot l 1) q)), .int (bot l 1)]), M) := by
  refine (pure_of (fun n => ?_) (enter F_wholes rfl rfl ?_)).call
  · simp [cl_tup (g := fun q => P.int (tp (bot l 1) q)) (as := l) (fun _ _ => cl_int _) n, unds_map (fun q => P.int (tp (bot l 1) q)) n l fun _ _ => by simp]
  · have c1 := c_bottom_of k a l hA h hd
    have c2 := c_tops_over (k + 1) a (bot l 1) l hA ha (bot4 hA h) hl hd
    simp [-Option.bind_some, F_wholes, entry, c1, c2, s2]
theorem c_sum_of (k a : Nat) {d : D} (l : List Rat) (hA : AllB a l) (ha : a ≤ 4000) (h : 1 + a * l.length ≤ 4000) (hl : l.length ≤ 4000) {M : Mem} (hd : Seq M d (l.map fr)) : callX (W (k + 4)) n_sum_of [d] M = some (.p (fr l.sum), M) := by
  refine (pure_of (fr_cl _) (enter F_sum_of rfl rfl ?_)).call
  have c1 := c_wholes k a l hA ha h hl hd
  have hp := bot_pos l 1 (by decide)
  have c2 := c_ratio (k + 1) (l.map (tp (bot l 1))).sum (bot l 1) rfl hp (Nat.lt_of_lt_of_le (bot4 hA h) (Nat.pow_le_pow_right (by decide) (by decide))) M
  rw [mk_of hp (sumT_eq l (bot_mem l 1))] at c2
  simp [-Option.bind_some, F_sum_of, entry, c1, bfun, items, one, intsP_map, c2]
end K67
end

section
set_option linter.all false
set_option autoImplicit false
set_option maxRecDepth 10000
set_option exponentiation.threshold 100000
set_option maxHeartbeats 4000000
namespace K67
open PySem IX
/-- the state: list i, the cells list l -/
def stF (i l : Nat) (M : Mem) : Prop := i ≠ l ∧ ∃ (a b c d e : Int) (cs : List Int), M[i]? = some [.int a, .int b, .int c, .int d, .ref l, .int e] ∧ M[l]? = some (cs.map .int) ∧ 0 ≤ b
theorem ints_und (k : Nat) (l : List Int) : (l.map P.int).all (P.und k) = true := by
  rw [List.all_map, List.all_eq_true]
  intro x _
  simp
def Sta (i l : Nat) : Stt where
  S := [i, l]
  F := stF i l
  ext := fun M M' ⟨h1, a, b, c, d, e, cs, e1, e2, h4⟩ h => ⟨h1, a, b, c, d, e, cs, (h i (by simp)).trans e1, (h l (by simp)).trans e2, h4⟩
  cell := fun M ⟨h1, a, b, c, d, e, cs, e1, e2, h4⟩ n hn => by
    simp only [List.mem_cons, List.not_mem_nil, or_false] at hn
    rcases hn with rfl | rfl
    · exact ⟨_, e1, fun k hk => by simp [P.und, hk]⟩
    · exact ⟨_, e2, fun k _ => ints_und k cs⟩
def mix1 (x y : Int) : Int := (x * 48271 + y * 69621 + 97).fmod 2147483647
def mix2 (f y : Int) : Int := (f * (f + 2 * y + 1) + y * 16807 + 31).fmod 2147483629
def mixZ (x y : Int) : Int := (mix2 (mix1 x y) y * 40692 + mix1 x y).fmod 2147483587
theorem c_mixed (k : Nat) (x y : Int) (M : Mem) : callX (W (k + 1)) n__law_mixed [.p (.int x), .p (.int y)] M = some (.p (.int (mixZ x y)), M) := by
  have m1 : ∀ x : Int, mulOk x 48271 = true := fun x => mulOk_r (by decide) (by decide)
  have m2 : ∀ x : Int, mulOk x 69621 = true := fun x => mulOk_r (by decide) (by decide)
  have m3 : ∀ x : Int, mulOk x 40692 = true := fun x => mulOk_r (by decide) (by decide)
  have m4 : ∀ x : Int, mulOk x 16807 = true := fun x => mulOk_r (by decide) (by decide)
  have m5 : ∀ (x y : Int), mulOk (x.fmod 2147483647) y = true := fun x y => mulOk_l (by have := Int.fmod_nonneg_of_pos x (b := 2147483647) (by decide); omega) (by have := Int.fmod_lt_of_pos x (b := 2147483647) (by decide); omega)
  have m6 : ∀ x : Int, mulOk 2 x = true := fun x => mulOk_l (by decide) (by decide)
  have d1 : divOk 2147483647 = true := by decide
  have d2 : divOk 2147483629 = true := by decide
  have d3 : divOk 2147483587 = true := by decide
  refine (pure_of (cl_int _) (enter F__law_mixed rfl rfl ?_)).call
  generalize W k = V
  simp [-Option.bind_some, F__law_mixed, entry, m1, m2, m3, m4, m5, m6, d1, d2, d3]
  rfl
theorem d_take (k : Nat) {i l : Nat} {M : Mem} (hf : (Sta i l).F M) (m : Nat) (hm : 0 < m) (hm2 : m < 2 ^ 9000) : DrS (W (k + 2)) (Sta i l) M n__law_take [.p (.ref i), .p (.int m)] fun x => ∃ d : Nat, x = .int d ∧ d < m := by
  refine dr_ofS hf (enter F__law_take rfl rfl ?_)
  have cm := fun x y M => c_mixed k x y M
  generalize W (k + 1) = V at *
  obtain ⟨hil, a, b, c, d, e, cs, e1, e2, hb⟩ := hf
  have hli := Ne.symm hil
  have li := get_lt e1
  have ll := get_lt e2
  have dm : divOk (m : Int) = true := divOk_of hm hm2
  have m0 : ¬ m = 0 := by omega
  have q : ∀ x : Int, ∃ d : Nat, x.fmod m = d ∧ d < m := fun x => ⟨(x.fmod m).toNat, by have := Int.fmod_nonneg_of_pos x (b := m) (by omega); omega, by have := Int.fmod_lt_of_pos x (b := m) (by omega); have := Int.fmod_nonneg_of_pos x (b := m) (by omega); omega⟩
  have ss : i ∈ (Sta i l).S := by show i ∈ [i, l]; simp
  have fin : ∀ (x a b c d e : Int), 0 ≤ b → (P.int (x.fmod m)).cl ∧ (∃ d : Nat, x.fmod m = d ∧ d < m) ∧ (Sta i l).F (M.set i [.int a, .int b, .int c, .int d, .ref l, .int e]) ∧ KpS (Sta i l).S M (M.set i [.int a, .int b, .int c, .int d, .ref l, .int e]) := fun x a b c d e hb => ⟨cl_int _, q x, ⟨hil, a, b, c, d, e, cs, List.getElem?_set_self li, by rw [List.getElem?_set_ne hil]; exact e2, hb⟩, (ChgS.set ss M _).kp⟩
  have gi : ∀ ys : List P, (M.set i ys)[i]? = some ys := fun ys => List.getElem?_set_self li
  have gl : ∀ ys : List P, (M.set i ys)[l]? = some (cs.map .int) := fun ys => by rw [List.getElem?_set_ne hil]; exact e2
  have m1 : ∀ x : Int, mulOk x 1 = true := fun x => mulOk_r (by decide) (by decide)
  have m2 : ∀ x : Int, mulOk x 0 = true := fun x => mulOk_r (by decide) (by decide)
  have ag : ∀ x y : Int, augop .add (.p (.int x)) (.p (.int y)) = some (.int (x + y)) := fun _ _ => rfl
  have as : ∀ x y : Int, augop .sub (.p (.int x)) (.p (.int y)) = some (.int (x - y)) := fun _ _ => rfl
  by_cases h : a = 0 ∧ b < (cs.length : Int)
  · obtain ⟨rfl, hlt⟩ := h
    obtain ⟨n, rfl⟩ : ∃ n : Nat, b = n := ⟨b.toNat, by omega⟩
    have hn : n < cs.length := by omega
    have hx : atx (cs.map P.int) (n : Int) = some (.int cs[n]) := atx_nat (by rw [List.getElem?_map, List.getElem?_eq_getElem hn]; rfl)
    generalize cs[n] = x at *
    have hz := cm x (c + 1) (M.set i [.int 0, .int ((n : Int) + 1), .int (c + 1), .int d, .ref l, .int e])
    have hz2 := cm d (c + 1) (M.set i [.int (if x < 0 then -x else x), .int ((n : Int) + 1), .int (c + 1), .int d, .ref l, .int 60])
    have ab : ∀ M, bfun .abs [.p (.int x)] M = some (.p (.int (if x < 0 then -x else x)), M) := fun _ => by rfl
    generalize (if x < 0 then -x else x) = ax at *
    have dm2 : divOk 2 = true := by decide
    by_cases ho : ((cs.length : Nat) : Int).fmod 2 = 1
    · simp [-Option.bind_some, -bf_abs, F__law_take, entry, ag, as, e1, gi, gl, hn, hx, ab, dm2, ho, hz, dm, m0]
      exact fin _ _ _ _ _ _ (by omega)
    by_cases h18 : ax < 1000000000000000000
    · simp [-Option.bind_some, -bf_abs, F__law_take, entry, ag, as, e1, gi, gl, hn, hx, ab, dm2, ho, h18, hz, dm, m0]
      exact fin _ _ _ _ _ _ (by omega)
    · by_cases hax : ax = 0
      · subst hax
        simp at h18
      · simp [-Option.bind_some, -bf_abs, F__law_take, entry, ag, as, e1, gi, gl, hn, hx, ab, dm2, ho, h18, hax, dm, m0, m1, m2]
        exact fin _ _ _ _ _ _ (by omega)
  · have h' : a = 0 → ¬ b < (cs.length : Int) := fun z y => h ⟨z, y⟩
    have hz2 := cm d (c + 1) (M.set i [.int 0, .int b, .int (c + 1), .int d, .ref l, .int e])
    by_cases h0 : a = 0
    · subst h0
      have h' := h' rfl
      simp [-Option.bind_some, F__law_take, entry, ag, as, e1, gi, gl, h', hz2, dm, m0]
      exact fin _ _ _ _ _ _ hb
    · by_cases he : 1 < e
      · simp [-Option.bind_some, F__law_take, entry, ag, as, e1, gi, gl, h0, dm, m0, he, m1, m2]
        exact fin _ _ _ _ _ _ hb
      · simp [-Option.bind_some, F__law_take, entry, ag, as, e1, gi, gl, h0, dm, m0, he, m1, m2]
        exact fin _ _ _ _ _ _ hb
theorem d_pick (k : Nat) {i l : Nat} {M : Mem} (hf : (Sta i l).F M) {d : D} {xs : List P} (hd : ∀ M', ChgS (Sta i l).S M M' → items M' d = some xs) (h0 : 0 < xs.length) (h1 : xs.length < 2 ^ 9000) (hc : ∀ x ∈ xs, x.cl) : DrS (W (k + 3)) (Sta i l) M n__law_pick [.p (.ref i), d] fun x => x ∈ xs := by
  refine dr_ofS hf (enter F__law_pick rfl rfl ?_)
  simp [-Option.bind_some, F__law_pick, entry, hd M (ChgS.refl _ M)]
  refine (d_take k hf xs.length h0 h1).use fun x M' hx hf' hc' => ?_
  obtain ⟨n, rfl, hn⟩ := hx
  have ix := at_nat (hd M' hc') (List.getElem?_eq_getElem hn)
  simp [-Option.bind_some, ix]
  exact ⟨hc _ (List.getElem_mem hn), hf', hc'.kp⟩
theorem sta_ok (k : Nat) (ns : List Int) (hl : ns.length ≤ 63) : Wp (callX (W (k + 2)) n__law_start [.scr (ns.map P.int)] []) fun r => ∃ i l, r.1 = .p (.ref i) ∧ (Sta i l).F r.2 := by
  suffices h : Wp (W (k + 2) n__law_start [.scr (ns.map P.int)] []) fun r => ∃ i l, r.1 = .p (.ref i) ∧ (Sta i l).F r.2 by
    obtain ⟨⟨d, M'⟩, e, i, l, h1, h3⟩ := h
    dsimp only at h1
    subst h1
    refine ⟨(.p (.ref i), M'), ?_, i, l, rfl, h3⟩
    unfold callX
    rw [e]
    exact congrArg some (back_new (Nat.zero_le _))
  refine enter F__law_start rfl rfl ?_
  have cm := fun x y M => c_mixed k x y M
  generalize W (k + 1) = V at *
  have lt : ∀ M, items M (.scr (ns.map P.int)) = some (ns.map P.int) := fun _ => rfl
  have ls : ∀ M, src .seq [.scr (ns.map P.int)] M = some ⟨ns.map P.int, [], false⟩ := fun _ => rfl
  have n1 : newl (ns.map P.int) [] = some (.p (.ref 0), [ns.map P.int]) := newl_ok (by simp [szl]; omega)
  have n4 : ∀ s, newl [.int 0, .int 0, .int 0, .int s, .ref 0, .int 0] [ns.map P.int] = some (.p (.ref 1), [ns.map P.int, [.int 0, .int 0, .int 0, .int s, .ref 0, .int 0]]) := fun s => newl_ok (by simp [szl])
  simp [-Option.bind_some, F__law_start, entry, lt, ls]
  refine lop_wp P.int (fun pre r ρ M' => M' = [] ∧ ∃ (s : Int) (z : Option D), ρ = [some (.scr (ns.map P.int)), some (.p (.int s)), z]) ns ⟨rfl, _, none, rfl⟩ ?_ ?_
  · rintro pre a r ρ M' hr ⟨rfl, s, z, rfl⟩
    have hy := cm (s + a) 5 []
    simp [-Option.bind_some, hy]
  · rintro ρ M' ⟨rfl, s, z, rfl⟩
    simp [-Option.bind_some, lt, n1, n4]
    exact ⟨0, by decide, 0, 0, 0, s, 0, ns, rfl, rfl, by decide⟩

end K67
end

section
set_option linter.all false
set_option autoImplicit false
set_option maxRecDepth 10000
set_option exponentiation.threshold 100000
set_option maxHeartbeats 4000000
namespace K67
open PySem IX
theorem gcd_whlF {V : Wd} {N : Nat} {M : Mem} (x y : Option D) : ∀ (fuel b a : Nat), b < fuel →
    whl V G N (.cmp .gt (.v 3) (.c (.int 0))) [.par [2, 3] [(.v 3), (.bin .mod (.v 2) (.v 3))]] fuel [x, y, some (.p (.int a)), some (.p (.int b))] M =
      some (.nx [x, y, some (.p (.int (Nat.gcd a b))), some (.p (.int 0))] M) := by
  intro fuel
  induction fuel with
  | zero => intro b a h; omega
  | succ fuel ih =>
    intro b a h
    rw [whl_step]
    by_cases hb : b = 0
    · subst hb
      simp
    · have hne : (b : Int) ≠ 0 := by omega
      have hp : (0 : Int) < b := by omega
      have hpn : 0 < b := by omega
      simp [-Option.bind_some, ss_cons', hb, hpn]
      rw [fmod_nat, ih (a % b) b (by have := Nat.mod_lt a (Nat.pos_of_ne_zero hb); omega)]
      rw [Nat.gcd_comm b (a % b), ← Nat.gcd_rec, Nat.gcd_comm b a]
theorem c_lfrac (k : Nat) (n : Int) {dI : Int} (d : Nat) (he : dI = (d : Int)) (hd : 0 < d) (h1 : d < 2 ^ 9000) (M : Mem) : callX (W (k + 1)) n__law_frac [.p (.int n), .p (.int dI)] M = some (.p (fr (mkRat n d)), M) := by
  subst he
  refine (pure_of (fr_cl _) (enter F__law_frac rfl rfl ?_)).call
  have lp := gcd_whlF (V := W k) (N := LL) (M := M) (some (.p (.int n))) (some (.p (.int (d : Int)))) LL d n.natAbs (LL_of h1)
  generalize W k = V at *
  have hg : 0 < n.natAbs.gcd d := Nat.gcd_pos_of_pos_right _ hd
  have hg2 : n.natAbs.gcd d < 2 ^ 9000 := Nat.lt_of_le_of_lt (Nat.gcd_le_right _ hd) h1
  have hdo := divOk_of hg hg2
  obtain ⟨e1, e2⟩ := num_eq n d (by omega)
  have f1 : n.fdiv ((n.natAbs.gcd d : Nat) : Int) = (mkRat n d).num := by rw [e1, Int.fdiv_eq_ediv_of_nonneg _ (by omega)]
  have f2 : (d : Int).fdiv ((n.natAbs.gcd d : Nat) : Int) = ((mkRat n d).den : Int) := by rw [e2, Int.fdiv_eq_ediv_of_nonneg _ (by omega)]; rfl
  have ab2 : ∀ M, bfun .abs [.p (.int n)] M = some (.p (.int ((n.natAbs : Nat) : Int)), M) := fun M => by
    show some (D.p (.int (if n < 0 then -n else n)), M) = _
    rw [abs_nat]
  have ab3 : ∀ M, bfun .abs [.p (.int (d : Int))] M = some (.p (.int (d : Int)), M) := fun M => by
    show some (D.p (.int (if (d : Int) < 0 then -(d : Int) else (d : Int))), M) = _
    rw [if_neg (by omega)]
  simp [-Option.bind_some, -bf_abs, F__law_frac, entry, ab2, ab3, lp, hdo, f1, f2, fr, s2]
theorem d_cost (k : Nat) {i l : Nat} {M : Mem} (hf : (Sta i l).F M) : DrS (W (k + 3)) (Sta i l) M n__law_cost [.p (.ref i)] fun x => ∃ q, x = fr q ∧ Bd 4 q := by
  refine dr_ofS hf (enter F__law_cost rfl rfl ?_)
  have dt : ∀ (m : Nat) {M : Mem}, 0 < m → m ≤ 100 → (Sta i l).F M → DrS (W (k + 2)) (Sta i l) M n__law_take [.p (.ref i), .p (.int (m : Int))] fun x => ∃ d : Nat, x = .int d ∧ d < m := fun m M h0 h1 hf => d_take k hf m h0 (lt9000 (by omega))
  have d13 := fun {M : Mem} (hf : (Sta i l).F M) => dt 13 (by decide) (by decide) hf
  have d3 := fun {M : Mem} (hf : (Sta i l).F M) => dt 3 (by decide) (by decide) hf
  have cf : ∀ (d e : Nat) (M : Mem), e < 3 → callX (W (k + 2)) n__law_frac [.p (.int ((d : Int) - 3)), .p (.int (1 + (e : Int)))] M = some (.p (fr (mkRat ((d : Int) - 3) (1 + e))), M) := fun d e M h1 => c_lfrac (k + 1) _ (1 + e) (by omega) (by omega) (lt9000 (by omega)) M
  generalize W (k + 2) = V at *
  simp [-Option.bind_some, F__law_cost, entry]
  refine (d13 hf).use fun x M1 hx fl1 c1 => ?_
  obtain ⟨d, rfl, hd⟩ := hx
  simp [-Option.bind_some]
  refine (d3 fl1).use fun x M2 hx fl2 c2 => ?_
  obtain ⟨e, rfl, he⟩ := hx
  simp [-Option.bind_some, cf d e M2 he]
  have hb : ∀ d : Nat, d < 13 → ∀ e : Nat, e < 3 → (decide ((mkRat ((d : Int) - 3) (1 + e)).num.natAbs < 2 ^ 4) && decide ((mkRat ((d : Int) - 3) (1 + e)).den < 2 ^ 4)) = true := by decide +kernel
  have := hb d hd e he
  rw [Bool.and_eq_true, decide_eq_true_eq, decide_eq_true_eq] at this
  exact ⟨fr_cl _, ⟨_, rfl, this⟩, fl2, (c1.trans c2).kp⟩
/-- the chances drawn -/
def chL : List Rat := [0, mkRat 1 4, mkRat 1 2, mkRat 3 4, 1, mkRat 5 4, mkRat (-1) 3]
theorem d_chance (k : Nat) {i l : Nat} {M : Mem} (hf : (Sta i l).F M) : DrS (W (k + 4)) (Sta i l) M n__law_chance [.p (.ref i)] fun x => ∃ q, x = fr q ∧ q ∈ chL := by
  refine dr_ofS hf (enter F__law_chance rfl rfl ?_)
  have dt : ∀ {M : Mem}, (Sta i l).F M → DrS (W (k + 3)) (Sta i l) M n__law_take [.p (.ref i), .p (.int 5)] fun x => ∃ d : Nat, x = .int d ∧ d < 5 := fun {M} hf => d_take (k + 1) hf 5 (by decide) (lt9000 (by decide))
  have dp : ∀ {M : Mem} (qs : List Rat), (Sta i l).F M → qs.length = 10 → DrS (W (k + 3)) (Sta i l) M n__law_pick [.p (.ref i), .p (row qs)] fun x => x ∈ qs.map fr := fun {M} qs hf hq => d_pick k hf (fun M' c => rfl) (by simp [hq]) (lt9000 (by simp [hq])) (fun x hx => by
    obtain ⟨q, _, rfl⟩ := List.mem_map.mp hx
    exact fr_cl q)
  have cf : ∀ (d : Nat) (M : Mem), callX (W (k + 3)) n__law_frac [.p (.int (d : Int)), .p (.int 4)] M = some (.p (fr (mkRat (d : Int) 4)), M) := fun d M => c_lfrac (k + 2) _ 4 rfl (by decide) (lt9000 (by decide)) M
  generalize W (k + 3) = V at *
  simp [-Option.bind_some, F__law_chance, entry]
  refine (dt hf).use fun x M1 hx fl1 c1 => ?_
  obtain ⟨d, rfl, hd⟩ := hx
  have hm : ∀ d < 5, mkRat ((d : Nat) : Int) 4 ∈ chL := by decide +kernel
  have h1 := hm d hd
  simp [-Option.bind_some, cf d M1]
  generalize mkRat (d : Int) 4 = o at *
  have e : P.tup [fr o, fr o, fr o, fr o, fr o, fr o, P.tup [.int 0, .int 1], P.tup [.int 1, .int 1], P.tup [.int 5, .int 4], P.tup [.int (-1), .int 3]] = row [o, o, o, o, o, o, 0, 1, mkRat 5 4, mkRat (-1) 3] := by rfl
  have hA : ∀ q ∈ [o, o, o, o, o, o, 0, 1, mkRat 5 4, mkRat (-1) 3], q ∈ chL := by
    intro q hq
    simp only [List.mem_cons, List.not_mem_nil, or_false] at hq
    rcases hq with rfl | rfl | rfl | rfl | rfl | rfl | rfl | rfl | rfl | rfl
    all_goals first | exact h1 | simp [chL]
  have hl : [o, o, o, o, o, o, 0, 1, mkRat 5 4, mkRat (-1) 3].length = 10 := rfl
  generalize [o, o, o, o, o, o, 0, 1, mkRat 5 4, mkRat (-1) 3] = qs at *
  simp [-Option.bind_some, szl, e]
  refine (dp qs fl1 hl).use fun x M2 hx fl2 c2 => ?_
  obtain ⟨q, hq, rfl⟩ := List.mem_map.mp hx
  simp [-Option.bind_some]
  exact ⟨fr_cl q, ⟨q, rfl, hA q hq⟩, fl2, (c1.trans c2).kp⟩
theorem other_fr (q : Rat) : P.tup [.int ((q.den : Int) - q.num), .int (q.den : Int)] = fr (1 - q) := by
  have hg : Nat.gcd ((q.den : Int) - q.num).natAbs q.den = 1 := by
    have h := q.reduced
    have d1 : ((Nat.gcd ((q.den : Int) - q.num).natAbs q.den : Nat) : Int) ∣ (q.den : Int) := Int.natCast_dvd_natCast.mpr (Nat.gcd_dvd_right _ _)
    have d2 : ((Nat.gcd ((q.den : Int) - q.num).natAbs q.den : Nat) : Int) ∣ (q.den : Int) - q.num := Int.ofNat_dvd_left.mpr (Nat.gcd_dvd_left _ _)
    have d3 : ((Nat.gcd ((q.den : Int) - q.num).natAbs q.den : Nat) : Int) ∣ q.num := by
      have := Int.dvd_sub d1 d2
      rwa [show (q.den : Int) - ((q.den : Int) - q.num) = q.num by omega] at this
    have d4 := Nat.dvd_gcd (Int.ofNat_dvd_left.mp d3) (Nat.gcd_dvd_right ((q.den : Int) - q.num).natAbs q.den)
    rw [show Nat.gcd q.num.natAbs q.den = 1 from h] at d4
    exact Nat.dvd_one.mp d4
  have e : (1 : Rat) - q = ⟨(q.den : Int) - q.num, q.den, q.den_nz, hg⟩ := by
    rw [Rat.sub_def']
    have : mkRat ((1 : Rat).num * q.den - q.num * (1 : Rat).den) ((1 : Rat).den * q.den) = mkRat ((q.den : Int) - q.num) q.den := by
      show mkRat (1 * (q.den : Int) - q.num * ((1 : Nat) : Int)) (1 * q.den) = _
      rw [Int.one_mul, Nat.one_mul, show q.num * ((1 : Nat) : Int) = q.num by omega]
    rw [this]
    exact Rat.mkRat_self ⟨(q.den : Int) - q.num, q.den, q.den_nz, hg⟩
  rw [e]; rfl
theorem c_other (k : Nat) (q : Rat) (M : Mem) : callX (W (k + 1)) n__law_other [.p (fr q)] M = some (.p (fr (1 - q)), M) := by
  refine (pure_of (fr_cl _) (enter F__law_other rfl rfl ?_)).call
  generalize W k = V
  have i0 : ∀ M, index (.p (fr q)) (.p (.int 0)) M = some (.int q.num) := fun _ => by rfl
  have i1 : ∀ M, index (.p (fr q)) (.p (.int 1)) M = some (.int q.den) := fun _ => by rfl
  have e := other_fr q
  simp [-Option.bind_some, -ix_tup, F__law_other, entry, i0, i1, s2, e]
def icB (q : Rat) : Bool := decide (0 ≤ q.num ∧ q.num ≤ (q.den : Int))
theorem c_isch (k : Nat) (q : Rat) (M : Mem) : callX (W (k + 1)) n__law_is_chance [.p (fr q)] M = some (.p (.bl (icB q)), M) := by
  refine (pure_of (cl_bl _) (enter F__law_is_chance rfl rfl ?_)).call
  generalize W k = V
  have i0 : ∀ M, index (.p (fr q)) (.p (.int 0)) M = some (.int q.num) := fun _ => by rfl
  have i1 : ∀ M, index (.p (fr q)) (.p (.int 1)) M = some (.int q.den) := fun _ => by rfl
  have en : entry F__law_is_chance [.p (fr q)] = [some (.p (fr q))] := rfl
  rw [en]
  unfold icB
  by_cases h0 : 0 ≤ q.num
  · by_cases h1 : q.num ≤ (q.den : Int)
    · have e : decide (0 ≤ q.num ∧ q.num ≤ (q.den : Int)) = true := decide_eq_true ⟨h0, h1⟩
      rw [e]
      generalize fr q = f at *
      generalize (q.den : Int) = d at *
      generalize q.num = n at *
      simp [-Option.bind_some, -ix_tup, F__law_is_chance, i0, i1, h0, h1]
    · have e : decide (0 ≤ q.num ∧ q.num ≤ (q.den : Int)) = false := decide_eq_false fun h => h1 h.2
      rw [e]
      generalize fr q = f at *
      generalize (q.den : Int) = d at *
      generalize q.num = n at *
      simp [-Option.bind_some, -ix_tup, F__law_is_chance, i0, i1, h0, h1]
  · have e : decide (0 ≤ q.num ∧ q.num ≤ (q.den : Int)) = false := decide_eq_false fun h => h0 h.1
    rw [e]
    generalize fr q = f at *
    generalize (q.den : Int) = d at *
    generalize q.num = n at *
    simp [-Option.bind_some, -ix_tup, F__law_is_chance, i0, i1, h0]
mutual
/-- data that _law_same walks -/
def okS : Nat → P → Bool
  | _, .int _ => true
  | _, .bl _ => true
  | _, .non => true
  | _, .str s => PyData.strOk s
  | 0, .tup _ => false
  | k + 1, .tup l => decide (l.length ≤ 100000) && okSs k l
  | _, .ref _ => false
def okSs : Nat → List P → Bool
  | _, [] => true
  | k, x :: xs => okS k x && okSs k xs
end
theorem okSs_iff {k : Nat} : ∀ {l : List P}, okSs k l = true ↔ ∀ x ∈ l, okS k x = true
  | [] => by simp [okSs]
  | x :: l => by simp [okSs, okSs_iff (l := l)]
theorem okS_tup {k : Nat} {l : List P} (hl : l.length ≤ 100000) (h : ∀ x ∈ l, okS k x = true) : okS (k + 1) (.tup l) = true := by
  unfold okS
  rw [Bool.and_eq_true, decide_eq_true_eq]
  exact ⟨hl, okSs_iff.mpr h⟩
theorem okS_fr (k : Nat) (q : Rat) : okS (k + 1) (fr q) = true := by simp [fr, okS, okSs]
theorem okS_row (k : Nat) {l : List Rat} (hl : l.length ≤ 100000) : okS (k + 2) (row l) = true := okS_tup (by simpa using hl) fun x hx => by
  obtain ⟨q, _, rfl⟩ := List.mem_map.mp hx
  exact okS_fr k q
theorem c_same (k : Nat) : ∀ (j : Nat) (x : P), okS j x = true → ∀ M, callX (W (k + j + 1)) n__law_same [.p x, .p x] M = some (.p (.bl true), M)
  | j, .int i, h, M => by
    refine (pure_of (cl_bl _) (enter F__law_same rfl rfl ?_)).call
    generalize W (k + j) = V
    simp [-Option.bind_some, F__law_same, entry]
  | j, .bl b, h, M => by
    refine (pure_of (cl_bl _) (enter F__law_same rfl rfl ?_)).call
    generalize W (k + j) = V
    have e : cmpop .eq (.p (.bl b)) (.p (.bl b)) M = some true := by
      show (if (P.bl b).fit 64 && (P.bl b).fit 64 then some ((P.bl b).eqv (.bl b)) else none) = _
      have f : (P.bl b).fit 64 = true := by simp [P.fit]
      have g : (P.bl b).eqv (.bl b) = true := by cases b <;> rfl
      rw [f, g]; rfl
    simp [-Option.bind_some, F__law_same, entry, e]
  | j, .non, h, M => by
    refine (pure_of (cl_bl _) (enter F__law_same rfl rfl ?_)).call
    generalize W (k + j) = V
    simp [-Option.bind_some, F__law_same, entry]
  | j, .str s, h, M => by
    refine (pure_of (cl_bl _) (enter F__law_same rfl rfl ?_)).call
    generalize W (k + j) = V
    have hs : PyData.strOk s = true := by unfold okS at h; exact h
    have e : cmpop .eq (.p (.str s)) (.p (.str s)) M = some true := by
      show (if (P.str s).fit 64 && (P.str s).fit 64 then some ((P.str s).eqv (.str s)) else none) = _
      have f : (P.str s).fit 64 = true := by simp [P.fit, hs]
      have g : (P.str s).eqv (.str s) = true := by simp [P.eqv, P.toD, PyData.eqv]
      rw [f, g]; rfl
    simp [-Option.bind_some, F__law_same, entry, e]
  | j, .ref i, h, M => by unfold okS at h; cases h
  | 0, .tup l, h, M => by unfold okS at h; cases h
  | j + 1, .tup l, h, M => by
    unfold okS at h
    rw [Bool.and_eq_true, decide_eq_true_eq] at h
    obtain ⟨hl, h⟩ := h
    have h := okSs_iff.mp h
    have ih := fun x (hx : x ∈ l) M => c_same k j x (h x hx) M
    refine (pure_of (cl_bl _) (enter F__law_same rfl rfl ?_)).call
    have e1 : k + (j + 1) = k + j + 1 := by omega
    rw [e1]
    generalize W (k + j + 1) = V at *
    have sm : small (l.length : Int) = true := by unfold small; simp; omega
    simp [-Option.bind_some, F__law_same, entry, src_rng1 sm, rangeP_map]
    refine lop_wp (fun a : Nat => P.int (a : Int)) (fun pre r ρ M' => M' = M ∧ (∃ z, ρ = [some (.p (.tup l)), some (.p (.tup l)), z])) (List.range l.length) ⟨rfl, none, rfl⟩ ?_ ?_
    · rintro pre a r ρ M' hr ⟨rfl, z, rfl⟩
      have ha : a < l.length := by
        have : a ∈ List.range l.length := by rw [hr]; simp
        exact List.mem_range.mp this
      have ix : ∀ M, index (.p (.tup l)) (.p (.int (a : Int))) M = some l[a] := fun M => by rw [ix_tup]; exact atx_nat (List.getElem?_eq_getElem ha)
      have c := ih l[a] (List.getElem_mem ha) M'
      simp [-Option.bind_some, -ix_tup, ix, c]
    · rintro ρ M' ⟨rfl, z, rfl⟩
      simp [-Option.bind_some]

end K67
end

section
set_option linter.all false
set_option autoImplicit false
set_option maxRecDepth 10000
set_option exponentiation.threshold 100000
set_option maxHeartbeats 4000000
namespace K67
open PySem IX
def intB : P → Bool
  | .int _ => true
  | _ => false
/-- a fraction in least terms -/
def frB : P → Bool
  | .tup [.int a, .int b] => decide (1 ≤ b) && (Nat.gcd a.natAbs b.natAbs == 1)
  | _ => false
theorem frB_fr (q : Rat) : frB (fr q) = true := by
  show (decide ((1 : Int) ≤ (q.den : Int)) && (Nat.gcd q.num.natAbs ((q.den : Int)).natAbs == 1)) = true
  rw [Bool.and_eq_true, decide_eq_true_eq, beq_iff_eq, Int.natAbs_natCast]
  exact ⟨by have := q.den_pos; omega, q.reduced⟩
theorem frB_iff {x : P} (h : frB x = true) : ∃ q, x = fr q := by
  unfold frB at h
  split at h
  · rename_i a b
    rw [Bool.and_eq_true, decide_eq_true_eq, beq_iff_eq] at h
    obtain ⟨h1, h2⟩ := h
    refine ⟨⟨a, b.natAbs, by omega, h2⟩, ?_⟩
    show P.tup [.int a, .int b] = .tup [.int a, .int ((b.natAbs : Nat) : Int)]
    rw [show ((b.natAbs : Nat) : Int) = b by omega]
  · cases h
theorem c_isnum (k : Nat) (x : P) (M : Mem) : callX (W (k + 1)) n_is_number [.p x] M = some (.p (.bl (intB x)), M) := by
  refine (pure_of (cl_bl _) (enter F_is_number rfl rfl ?_)).call
  generalize W k = V
  cases x <;> simp [-Option.bind_some, F_is_number, entry, intB]
/-- the ints of a pair are not too long -/
def SzP (x : P) : Prop := ∀ a b, x = .tup [.int a, .int b] → a.natAbs < 2 ^ 4000 ∧ b.natAbs < 2 ^ 4000
theorem c_isfr (k : Nat) {x : P} (hs : SzP x) (M : Mem) : callX (W (k + 2)) n_is_fraction [.p x] M = some (.p (.bl (frB x)), M) := by
  refine (pure_of (cl_bl _) (enter F_is_fraction rfl rfl ?_)).call
  have w := fun x => c_isnum k x M
  cases x with
  | tup l =>
    match l, hs with
    | [], _ => generalize W (k + 1) = V at *; simp [-Option.bind_some, F_is_fraction, entry, frB]
    | [_], _ => generalize W (k + 1) = V at *; simp [-Option.bind_some, F_is_fraction, entry, frB]
    | _ :: _ :: _ :: _, _ => 
      generalize W (k + 1) = V at *
      have : ∀ n : Nat, ¬ ((n : Int) + 1 + 1 + 1 = 2) := fun n => by omega
      simp [-Option.bind_some, F_is_fraction, entry, frB, this]
    | [u, v], hs =>
      by_cases hu : intB u = true
      · by_cases hv : intB v = true
        · cases u <;> try cases hu
          cases v <;> try cases hv
          rename_i a b
          obtain ⟨s1, s2⟩ := hs a b rfl
          have c := c_common k a b (Nat.lt_trans s2 (Nat.pow_lt_pow_right (by decide) (by decide))) M
          generalize W (k + 1) = V at *
          by_cases hb : 1 ≤ b
          · simp [-Option.bind_some, F_is_fraction, entry, w, intB, hb, c, frB]
            by_cases g : Nat.gcd a.natAbs b.natAbs = 1
            · rw [g]; rfl
            · rw [beq_eq_false_iff_ne.mpr g, beq_eq_false_iff_ne]
              omega
          · simp [-Option.bind_some, F_is_fraction, entry, w, intB, hb, frB]
        · have hv' : intB v = false := Bool.eq_false_iff.mpr hv
          have hf : frB (.tup [u, v]) = false := by
            cases v <;> first | (cases u <;> rfl) | exact absurd rfl hv
          generalize W (k + 1) = V at *
          rw [hf]
          simp [-Option.bind_some, F_is_fraction, entry, w, hu, hv']
      · have hu' : intB u = false := Bool.eq_false_iff.mpr hu
        have hf : frB (.tup [u, v]) = false := by
          cases u <;> first | rfl | exact absurd rfl hu
        generalize W (k + 1) = V at *
        rw [hf]
        simp [-Option.bind_some, F_is_fraction, entry, w, hu']
  | _ => generalize W (k + 1) = V at *; simp [-Option.bind_some, F_is_fraction, entry, frB]
theorem mkRat_self2 {a : Int} {b : Nat} (hb : 0 < b) (h : Nat.gcd a.natAbs b = 1) : fr (mkRat a b) = .tup [.int a, .int (b : Int)] := by
  have : mkRat a b = ⟨a, b, by omega, h⟩ := Rat.mkRat_self ⟨a, b, by omega, h⟩
  rw [this]; rfl
theorem all_fr : ∀ {l : List P}, l.all frB = true → ∃ q : List Rat, l = q.map fr
  | [], _ => ⟨[], rfl⟩
  | x :: l, h => by
    rw [List.all_cons, Bool.and_eq_true] at h
    obtain ⟨q, rfl⟩ := frB_iff h.1
    obtain ⟨r, rfl⟩ := all_fr h.2
    exact ⟨q :: r, rfl⟩
def SzR (x : P) : Prop := ∀ l, x = .tup l → l.length ≤ 4000 ∧ ∀ y ∈ l, SzP y
/-- from lo to hi fractions -/
def rowsB (lo hi : Nat) : P → Bool
  | .tup l => decide (lo ≤ l.length) && decide (l.length ≤ hi) && l.all frB
  | _ => false
theorem c_isfrsG (k : Nat) {x : P} {lo hi : Nat} (hs : SzR x) (M : Mem) : callX (W (k + 3)) n_is_fractions [.p x, .p (.int (lo : Int)), .p (.int (hi : Int))] M = some (.p (.bl (rowsB lo hi x)), M) := by
  refine (pure_of (cl_bl _) (enter F_is_fractions rfl rfl ?_)).call
  cases x with
  | tup l =>
    obtain ⟨h1, h2⟩ := hs l rfl
    have c := fun y (hy : y ∈ l) => c_isfr k (h2 y hy) M
    generalize W (k + 2) = V at *
    by_cases hl : lo ≤ l.length
    · by_cases hl2 : l.length ≤ hi
      · have f : gtest false (gnx V G [3] (.call n_is_fraction [.v 3] [0]) (.nm 3) [] [some (.p (.tup l)), some (.p (.int (lo : Int))), some (.p (.int (hi : Int))), none] M) (l.map id) = some (l.all frB) := gtest_all id frB l fun y hy => by
          simp [-Option.bind_some, gnx, wipeE, c y hy]
        rw [List.map_id] at f
        have ge : genEnd .all ⟨l, [], true⟩ (gnx V G [3] (.call n_is_fraction [.v 3] [0]) (.nm 3) [] [some (.p (.tup l)), some (.p (.int (lo : Int))), some (.p (.int (hi : Int))), none] M) M = some (.p (.bl (l.all frB)), M) := by
          show (if l.length + 1 < sizeLine then (gtest false _ l).map fun b => (D.p (.bl b), M) else none) = _
          rw [if_pos (by rw [szl]; omega), f]; rfl
        have g1 : (lo : Int) ≤ (l.length : Int) := by omega
        have g2 : (l.length : Int) ≤ (hi : Int) := by omega
        simp [-Option.bind_some, F_is_fractions, entry, rowsB, hl, hl2, g1, g2]
        rw [ge]
        simp
      · have g1 : (lo : Int) ≤ (l.length : Int) := by omega
        have g2 : ¬ (l.length : Int) ≤ (hi : Int) := by omega
        simp [-Option.bind_some, F_is_fractions, entry, rowsB, hl, hl2, g1, g2]
    · have g1 : ¬ (lo : Int) ≤ (l.length : Int) := by omega
      simp [-Option.bind_some, F_is_fractions, entry, rowsB, hl, g1]
  | _ => generalize W (k + 2) = V at *; simp [-Option.bind_some, F_is_fractions, entry, rowsB]

end K67
end

section
set_option linter.all false
set_option autoImplicit false
set_option maxRecDepth 10000
set_option exponentiation.threshold 100000
set_option maxHeartbeats 4000000
namespace K67
open PySem IX
mutual
/-- data of small size: depth, length -/
def tm : Nat → Nat → P → Bool
  | _, _, .non => true
  | _, _, .bl _ => true
  | _, _, .int i => decide (i.natAbs ≤ 1000)
  | _, _, .str s => PyData.strOk s
  | 0, _, .tup _ => false
  | k + 1, m, .tup l => decide (l.length ≤ m) && tms k m l
  | _, _, .ref _ => false
def tms : Nat → Nat → List P → Bool
  | _, _, [] => true
  | k, m, x :: xs => tm k m x && tms k m xs
end
theorem tms_iff {k m : Nat} : ∀ {l : List P}, tms k m l = true ↔ ∀ x ∈ l, tm k m x = true
  | [] => by simp [tms]
  | x :: l => by simp [tms, tms_iff (l := l)]
theorem tm_tup {k m : Nat} {l : List P} (h : tm (k + 1) m (.tup l) = true) : l.length ≤ m ∧ ∀ x ∈ l, tm k m x = true := by
  unfold tm at h
  rw [Bool.and_eq_true, decide_eq_true_eq] at h
  exact ⟨h.1, tms_iff.mp h.2⟩
theorem tm_of {k m : Nat} {l : List P} (h1 : l.length ≤ m) (h2 : ∀ x ∈ l, tm k m x = true) : tm (k + 1) m (.tup l) = true := by
  unfold tm
  rw [Bool.and_eq_true, decide_eq_true_eq]
  exact ⟨h1, tms_iff.mpr h2⟩
theorem tm_int {k m : Nat} {i : Int} (h : tm k m (.int i) = true) : i.natAbs ≤ 1000 := by
  unfold tm at h
  exact of_decide_eq_true h
theorem tm_cl {m : Nat} : ∀ (k : Nat) (x : P), tm k m x = true → x.cl
  | _, .non, _ => fun n => by simp
  | _, .bl _, _ => fun n => by simp
  | _, .int _, _ => fun n => by simp
  | _, .str _, _ => fun n => by simp
  | _, .ref _, h => by unfold tm at h; cases h
  | 0, .tup _, h => by unfold tm at h; cases h
  | k + 1, .tup l, h => by
    have h2 := (tm_tup h).2
    have := cl_tup (g := id) (as := l) fun x hx => tm_cl k x (h2 x hx)
    rw [List.map_id] at this; exact this
theorem fits_ofT {k : Nat} : ∀ {l : List P}, (∀ p ∈ l, p.fit k = true) → P.fits k l = true
  | [], _ => rfl
  | p :: l, h => by
    show (P.fit k p && P.fits k l) = true
    rw [h p (List.mem_cons_self ..), fits_ofT fun x hx => h x (List.mem_cons_of_mem _ hx)]; rfl
theorem tm_fit {m : Nat} : ∀ (k j : Nat) (x : P), tm k m x = true → k ≤ j → x.fit j = true
  | _, j, .non, _, _ => by cases j <;> rfl
  | _, j, .bl _, _, _ => by cases j <;> rfl
  | _, j, .int _, _, _ => by cases j <;> rfl
  | _, j, .str s, h, _ => by unfold tm at h; cases j <;> exact h
  | _, _, .ref _, h, _ => by unfold tm at h; cases h
  | 0, _, .tup _, h, _ => by unfold tm at h; cases h
  | k + 1, 0, .tup l, _, hj => by omega
  | k + 1, j + 1, .tup l, h, hj => by
    have h2 := (tm_tup h).2
    exact fits_ofT fun x hx => tm_fit k j x (h2 x hx) (by omega)
theorem tm_mono {m n : Nat} (hmn : m ≤ n) : ∀ (k j : Nat) (x : P), tm k m x = true → k ≤ j → tm j n x = true
  | _, j, .non, _, _ => by cases j <;> rfl
  | _, j, .bl _, _, _ => by cases j <;> rfl
  | _, j, .int _, h, _ => by have := tm_int h; cases j <;> exact decide_eq_true this
  | _, j, .str s, h, _ => by unfold tm at h; cases j <;> exact h
  | _, _, .ref _, h, _ => by unfold tm at h; cases h
  | 0, _, .tup _, h, _ => by unfold tm at h; cases h
  | k + 1, 0, .tup l, _, hj => by omega
  | k + 1, j + 1, .tup l, h, hj => by
    have h2 := tm_tup h
    exact tm_of (Nat.le_trans h2.1 hmn) fun x hx => tm_mono hmn k j x (h2.2 x hx) (by omega)
theorem tm_szP {k m : Nat} {x : P} (h : tm k m x = true) : SzP x := fun a b e => by
  subst e
  cases k with
  | zero => unfold tm at h; cases h
  | succ k =>
    have h2 := (tm_tup h).2
    have ha := tm_int (h2 (.int a) (by simp))
    have hb := tm_int (h2 (.int b) (by simp))
    have : (1000 : Nat) < 2 ^ 4000 := Nat.lt_of_lt_of_le (by decide : 1000 < 2 ^ 10) (Nat.pow_le_pow_right (by decide) (by decide))
    omega
theorem tm_szR {k m : Nat} {x : P} (hm : m ≤ 4000) (h : tm k m x = true) : SzR x := fun l e => by
  subst e
  cases k with
  | zero => unfold tm at h; cases h
  | succ k =>
    have h2 := tm_tup h
    exact ⟨by omega, fun y hy => tm_szP (h2.2 y hy)⟩
/-- a pair as a number -/
def toQ : P → Rat
  | .tup [.int a, .int b] => mkRat a b.natAbs
  | _ => 0
def numP : P → Int
  | .tup (.int a :: _) => a
  | _ => 0
theorem toQ_fr (q : Rat) : toQ (fr q) = q := by
  show mkRat q.num ((q.den : Int)).natAbs = q
  rw [Int.natAbs_natCast]
  exact Rat.mkRat_self q
theorem numP_fr (q : Rat) : numP (fr q) = q.num := rfl
def sumP (l : List P) : Rat := (l.map toQ).sum
theorem sumP_fr (q : List Rat) : sumP (q.map fr) = q.sum := by
  unfold sumP
  rw [List.map_map]
  have : (toQ ∘ fr) = id := funext toQ_fr
  rw [this, List.map_id]
def chP : P → Bool
  | .tup l => l.all (fun y => decide (0 ≤ numP y)) && decide (sumP l = 1)
  | _ => false
theorem chP_row (q : List Rat) : chP (row q) = (q.all (fun x => decide (0 ≤ x)) && decide (q.sum = 1)) := by
  show ((q.map fr).all (fun y => decide (0 ≤ numP y)) && decide (sumP (q.map fr) = 1)) = _
  rw [sumP_fr, List.all_map]
  have : ((fun y => decide (0 ≤ numP y)) ∘ fr) = fun x : Rat => decide (0 ≤ x) := funext fun x => by
    show decide (0 ≤ x.num) = decide (0 ≤ x)
    exact decide_eq_decide.mpr Rat.num_nonneg
  rw [this]
theorem tm_bd {k m : Nat} {q : List Rat} (h : ∀ x ∈ q.map fr, tm k m x = true) : AllB 10 q := fun x hx => by
  have := h (fr x) (List.mem_map_of_mem hx)
  cases k with
  | zero => unfold fr tm at this; cases this
  | succ k =>
    have h2 := (tm_tup this).2
    have ha := tm_int (h2 (.int x.num) (by simp))
    have hb := tm_int (h2 (.int (x.den : Int)) (by simp))
    exact ⟨by omega, by rw [Int.natAbs_natCast] at hb; omega⟩
theorem sum_nnR : ∀ {l : List Rat}, (∀ x ∈ l, 0 ≤ x) → 0 ≤ l.sum
  | [], _ => by simp
  | x :: l, h => by
    have := sum_nnR (l := l) fun y hy => h y (List.mem_cons_of_mem _ hy)
    have := h x List.mem_cons_self
    rw [List.sum_cons]; grind
theorem le_sumR : ∀ {l : List Rat} {q : Rat}, (∀ x ∈ l, 0 ≤ x) → q ∈ l → q ≤ l.sum
  | x :: l, q, h, hq => by
    have h1 := sum_nnR (l := l) fun y hy => h y (List.mem_cons_of_mem _ hy)
    have h2 := h x List.mem_cons_self
    rw [List.sum_cons]
    rcases List.mem_cons.mp hq with rfl | hq
    · grind
    · have := le_sumR (fun y hy => h y (List.mem_cons_of_mem _ hy)) hq
      grind
theorem eq_of_mul {a b c : Rat} (hc : 0 < c) (h : a * c = b * c) : a = b := by
  have h0 : c ≠ 0 := Rat.ne_of_gt hc
  have := congrArg (· * c⁻¹) h
  simp only [Rat.mul_assoc, Rat.mul_inv_cancel c h0, Rat.mul_one] at this
  exact this
theorem c_ischG (k : Nat) {j m : Nat} {x : P} {lo hi : Nat} (hi6 : hi ≤ 10) (hm : m ≤ 100) (ht : tm j m x = true) (M : Mem) : callX (W (k + 4)) n_is_chances [.p x, .p (.int (lo : Int)), .p (.int (hi : Int))] M = some (.p (.bl (rowsB lo hi x && chP x)), M) := by
  have c1 := c_isfrsG k (lo := lo) (hi := hi) (tm_szR (by omega) ht) M
  refine (pure_of (cl_bl _) (enter F_is_chances rfl rfl ?_)).call
  by_cases hr : rowsB lo hi x = true
  · obtain ⟨l, rfl, h1, h2, h3⟩ : ∃ l, x = .tup l ∧ lo ≤ l.length ∧ l.length ≤ hi ∧ l.all frB = true := by
      cases x with
      | tup l =>
        have hr : (decide (lo ≤ l.length) && decide (l.length ≤ hi) && l.all frB) = true := hr
        rw [Bool.and_eq_true, Bool.and_eq_true, decide_eq_true_eq, decide_eq_true_eq] at hr
        exact ⟨l, rfl, hr.1.1, hr.1.2, hr.2⟩
      | _ => cases hr
    obtain ⟨l, rfl⟩ := all_fr h3
    rw [List.length_map] at h1 h2
    have hb : AllB 10 l := by
      cases j with
      | zero => unfold tm at ht; cases ht
      | succ j => exact tm_bd (tm_tup ht).2
    have c2 := c_wholes k 10 l hb (by decide) (by omega) (by omega) (Seq.tup M _)
    rw [hr] at c1 ⊢
    rw [show P.tup (l.map fr) = row l from rfl] at c1 ⊢
    rw [chP_row, Bool.true_and]
    have pB := bot_pos l 1 (by decide)
    have dB := bot_mem l 1
    generalize bot l 1 = B at *
    have es := sumT_eq l dB
    have i0 : ∀ q : Rat, index (.p (fr q)) (.p (.int 0)) M = some (.int q.num) := fun _ => by rfl
    have i1 : ∀ q : Rat, index (.p (fr q)) (.p (.int 1)) M = some (.int q.den) := fun _ => by rfl
    generalize W (k + 3) = V at *
    have f : gtest true (gnx V G [3] (.or [(.cmp .lt (.idx (.v 3) (.c (.int 0))) (.c (.int 0))), (.cmp .gt (.idx (.v 3) (.c (.int 0))) (.idx (.v 3) (.c (.int 1))))]) (.nm 3) [] [some (.p (row l)), some (.p (.int (lo : Int))), some (.p (.int (hi : Int))), none, none, none] M) (l.map fr) = some (l.any fun q => decide (q < 0) || decide (1 < q)) := gtest_any fr _ l fun q hq => by
      have h1 := @num_neg q
      have h2 : ((q.den : Int) < q.num) = (1 < q) := by
        have := @num_le_den q
        apply propext
        rw [← Int.not_le, this, Rat.not_le]
      by_cases g : q < 0
      · simp [-Option.bind_some, -ix_tup, gnx, wipeE, i0, i1, h1, g]
      · by_cases g2 : 1 < q
        · simp [-Option.bind_some, -ix_tup, gnx, wipeE, i0, i1, h1, h2, g, g2]
        · simp [-Option.bind_some, -ix_tup, gnx, wipeE, i0, i1, h1, h2, g, g2]
    have ge : genEnd .any ⟨l.map fr, [], true⟩ (gnx V G [3] (.or [(.cmp .lt (.idx (.v 3) (.c (.int 0))) (.c (.int 0))), (.cmp .gt (.idx (.v 3) (.c (.int 0))) (.idx (.v 3) (.c (.int 1))))]) (.nm 3) [] [some (.p (row l)), some (.p (.int (lo : Int))), some (.p (.int (hi : Int))), none, none, none] M) M = some (.p (.bl (l.any fun q => decide (q < 0) || decide (1 < q))), M) := by
      show (if (l.map fr).length + 1 < sizeLine then (gtest true _ (l.map fr)).map fun b => (D.p (.bl b), M) else none) = _
      rw [if_pos (by rw [List.length_map, szl]; omega), f]; rfl
    unfold row at c1 ge ⊢
    simp [-Option.bind_some, F_is_chances, entry, c1]
    by_cases g : (l.any fun q => decide (q < 0) || decide (1 < q)) = true
    · have h : (l.all (fun q => decide (0 ≤ q)) && decide (l.sum = 1)) = false := by
        rw [Bool.eq_false_iff]
        intro z
        rw [Bool.and_eq_true, decide_eq_true_eq] at z
        have nn : ∀ x ∈ l, 0 ≤ x := fun q hq => of_decide_eq_true (List.all_eq_true.mp z.1 q hq)
        obtain ⟨q, hq, e⟩ := List.any_eq_true.mp g
        have := nn q hq
        have := le_sumR nn hq
        rw [Bool.or_eq_true, decide_eq_true_eq, decide_eq_true_eq] at e
        grind
      rw [g] at ge
      simp [-Option.bind_some, ge, h]
    · have g' : (l.any fun q => decide (q < 0) || decide (1 < q)) = false := Bool.eq_false_iff.mpr g
      rw [g'] at ge
      simp [-Option.bind_some, ge, c2]
      have im := intsP_map (tp B) l
      have e : (((l.map (tp B)).sum = (B : Int)) ↔ l.sum = 1) := by
        rw [← Rat.intCast_inj, es]
        have B0 : (0 : Rat) < (B : Rat) := Rat.natCast_pos.mpr pB
        have : (((B : Nat) : Int) : Rat) = (B : Rat) := rfl
        rw [this]
        constructor
        · intro z
          refine eq_of_mul B0 ?_
          grind
        · intro z; rw [z]; grind
      have al : (l.all fun q => decide (0 ≤ q)) = true := List.all_eq_true.mpr fun q hq => by
        rw [decide_eq_true_eq]
        refine Rat.not_lt.mp fun z => ?_
        have : (l.any fun q => decide (q < 0) || decide (1 < q)) = true := List.any_eq_true.mpr ⟨q, hq, show (decide (q < 0) || decide (1 < q)) = true by rw [decide_eq_true z]; rfl⟩
        exact g this
      rw [al]
      by_cases h : l.sum = 1
      · have h' := e.mpr h
        simp [-Option.bind_some, bfun, items, one, im, h, h']
      · have h' : ¬ ((l.map (tp B)).sum = (B : Int)) := fun z => h (e.mp z)
        simp [-Option.bind_some, bfun, items, one, im, h, h']
  · have hr' : rowsB lo hi x = false := Bool.eq_false_iff.mpr hr
    rw [hr'] at c1 ⊢
    generalize W (k + 3) = V at *
    simp [-Option.bind_some, F_is_chances, entry, c1]

end K67
end

section
set_option linter.all false
set_option autoImplicit false
set_option maxRecDepth 10000
set_option exponentiation.threshold 100000
set_option maxHeartbeats 4000000
namespace K67
open PySem IX
theorem xcall_of {V : Wd} {f : Nat} {as : List D} {x : P} {M : Mem} (hc : x.cl) (w : Wp (V (f + XO) as M) fun q => ∃ X, q = (.p x, M ++ X)) : IX.xcall (W := V) f as M = some (.p x, M) := by
  obtain ⟨q, e, X, rfl⟩ := w
  unfold IX.xcall
  rw [e]
  show some (back M (.p x) (M ++ X)) = _
  rw [back_pure (d := .p x) (hc _)]
theorem fi_some {A : Type} {f : A → Bool} {a : A} {r : List A} : ∀ {pre : List A}, (∀ x ∈ pre, f x = true) → f a = false → (pre ++ a :: r).findIdx? (fun x => !f x) = some pre.length
  | [], _, h => by simp [List.findIdx?_cons, h]
  | x :: pre, hp, h => by
    have h1 := hp x (List.mem_cons_self ..)
    rw [List.cons_append, List.findIdx?_cons, h1, fi_some (fun y hy => hp y (List.mem_cons_of_mem _ hy)) h]
    rfl
theorem fi_none {A : Type} {f : A → Bool} : ∀ {l : List A}, (∀ x ∈ l, f x = true) → l.findIdx? (fun x => !f x) = none
  | [], _ => rfl
  | x :: l, h => by
    rw [List.findIdx?_cons, h x (List.mem_cons_self ..), fi_none fun y hy => h y (List.mem_cons_of_mem _ hy)]
    rfl
theorem enum_id (l : List P) : enumP 0 l = (l.zipIdx 0).map fun q => .tup [.int (q.2 : Int), q.1] := by
  have := enumP_map id 0 l
  rw [List.map_id] at this
  exact this
theorem zz {A : Type} {l : List A} {pre : List (A × Nat)} {q : A × Nat} {r : List (A × Nat)} (hr : l.zipIdx = pre ++ q :: r) : q.2 = pre.length ∧ l = pre.map (·.1) ++ q.1 :: r.map (·.1) := by
  have h3 : l.zipIdx.map (·.1) = l := by simp
  refine ⟨?_, by rw [← h3, hr]; simp⟩
  have h4 : l.zipIdx[pre.length]? = some q := by rw [hr]; simp
  rw [List.getElem?_zipIdx] at h4
  obtain ⟨x, _, h5⟩ := Option.map_eq_some_iff.mp h4
  rw [← h5]; simp
/-- what an exception may be made with here -/
theorem smX {s : Str} (hs : s.length ≤ 1000) {k : Int} (hk : k.natAbs ≤ 1000) : smallPs [.str s, .int k] = true := by
  show (decide (s.length ≤ 1000) && (decide (k.natAbs < 18446744073709551616) && true)) = true
  rw [decide_eq_true hs, decide_eq_true (show k.natAbs < 18446744073709551616 by omega)]; rfl
def exO (part : Str) : Option Int → P
  | none => .tup [.bl true, .non]
  | some k => .tup [.bl false, .str "BadWork", .tup [.str part, .int k]]
theorem exO_cl (part : Str) (o : Option Int) : (exO part o).cl := by
  cases o <;> exact fun n => by simp [exO]
def shB (x : P) : Bool := frB x && decide (0 < numP x)
def shE (s : List P) : Option Int := if 1 ≤ s.length ∧ s.length ≤ 3 then (match s.findIdx? (fun x => !shB x) with
  | some k => some (k : Int)
  | none => if sumP s = 1 then none else some (-1)) else some (-1)
theorem all_fr' {l : List P} (h : ∀ x ∈ l, shB x = true) : ∃ q : List Rat, l = q.map fr := all_fr (List.all_eq_true.mpr fun x hx => by
  have := h x hx
  unfold shB at this
  rw [Bool.and_eq_true] at this
  exact this.1)
theorem hG1 : G "ONE" = some (.tup [.int 1, .int 1]) := rfl
theorem one_fr1 : P.tup [.int 1, .int 1] = fr 1 := rfl
theorem x_shares (k : Nat) {j m : Nat} {s : List P} (hm : m ≤ 100) (hl : s.length ≤ m) (ht : ∀ x ∈ s, tm j m x = true) (M : Mem) : IX.xcall (W := W (k + 5)) n_check_shares [.p (.tup s)] M = some (.p (exO "shares" (shE s)), M) := by
  refine xcall_of (exO_cl _ _) (enterx F_check_shares rfl rfl ?_)
  have cf := fun x (hx : x ∈ s) => c_isfr (k + 2) (tm_szP (ht x hx)) M
  have cs : ∀ {q : List Rat}, s = q.map fr → callX (W (k + 4)) n_sum_of [.p (.tup (q.map fr))] M = some (.p (fr q.sum), M) := fun {q} hq => by
    have hql : q.length = s.length := by rw [hq, List.length_map]
    exact c_sum_of k 10 (d := .p (.tup (q.map fr))) q (tm_bd (k := j) (m := m) fun x hx => ht x (by rw [hq]; exact hx)) (by decide) (by omega) (by omega) (Seq.tup M _)
  generalize W (k + 4) = V at *
  have sn : smallPs [.str "shares", .int (-1)] = true := smX (by decide +kernel) (by decide)
  have sE : ∀ M, src .enm [.p (.tup s)] M = some ⟨enumP 0 s, [], true⟩ := fun _ => rfl
  by_cases hlen : 1 ≤ s.length ∧ s.length ≤ 3
  · have g1 : (1 : Int) ≤ (s.length : Int) := by omega
    have g2 : (s.length : Int) ≤ 3 := by omega
    simp [-Option.bind_some, -src_enmT, -smallPs_cons, F_check_shares, entry, hlen.1, hlen.2, g1, g2, sE, enum_id]
    refine lop_wpJ (fun q : P × Nat => P.tup [.int (q.2 : Int), q.1]) (fun pre r ρ M' => M' = M ∧ (∀ q ∈ pre, shB q.1 = true) ∧ ∃ z1 z2, ρ = [some (.p (.tup s)), z1, z2]) s.zipIdx ⟨rfl, fun q hq => by simp at hq, none, none, rfl⟩ ?_ ?_
    · rintro J Q hJ hQ pre q r ρ M' hr ⟨rfl, hp, z1, z2, rfl⟩
      obtain ⟨hq2, hes⟩ := zz hr
      have hqm : q.1 ∈ s := by rw [hes]; simp
      have hplen : pre.length < s.length := by
        have := congrArg List.length hes
        simp at this; omega
      have sm : smallPs [.str "shares", .int (q.2 : Int)] = true := smX (by decide +kernel) (by omega)
      have c := cf q.1 hqm
      have bad : shB q.1 = false → shE s = some (q.2 : Int) := fun hb => by
        unfold shE
        rw [if_pos hlen, hes, fi_some (f := shB) (fun x hx => by
          obtain ⟨y, hy, rfl⟩ := List.mem_map.mp hx
          exact hp y hy) hb, List.length_map, hq2]
      by_cases hf : frB q.1 = true
      · obtain ⟨x, hx⟩ := frB_iff hf
        rw [hf] at c
        have ix : index (.p q.1) (.p (.int 0)) M' = some (.int x.num) := by rw [hx]; rfl
        by_cases hn : 0 < x.num
        · have hn' : ¬ x.num ≤ 0 := by omega
          have good : shB q.1 = true := by
            unfold shB
            rw [hf, hx, numP_fr, decide_eq_true hn]; rfl
          simp [-Option.bind_some, -smallPs_cons, c, ix, hn, hn']
          rw [hJ]
          exact ⟨rfl, fun y hy => by
            rcases List.mem_append.mp hy with hy | hy
            · exact hp y hy
            · rw [List.mem_singleton.mp hy]; exact good, _, _, rfl⟩
        · have hn' : x.num ≤ 0 := by omega
          have hb : shB q.1 = false := by
            unfold shB
            rw [hf, hx, numP_fr, decide_eq_false hn]; rfl
          simp [-Option.bind_some, -smallPs_cons, c, ix, hn, hn', sm]
          rw [hQ, bad hb]
          exact ⟨[], by rw [List.append_nil]; rfl⟩
      · have hf' : frB q.1 = false := Bool.eq_false_iff.mpr hf
        rw [hf'] at c
        have hb : shB q.1 = false := by unfold shB; rw [hf']; rfl
        simp [-Option.bind_some, -smallPs_cons, c, sm]
        rw [hQ, bad hb]
        exact ⟨[], by rw [List.append_nil]; rfl⟩
    · rintro ρ M' ⟨rfl, hp, z1, z2, rfl⟩
      have hall : ∀ x ∈ s, shB x = true := fun x hx => by
        have : s.zipIdx.map (·.1) = s := by simp
        rw [← this] at hx
        obtain ⟨y, hy, rfl⟩ := List.mem_map.mp hx
        exact hp y hy
      obtain ⟨q, hq⟩ := all_fr' hall
      have c := cs hq
      rw [← hq] at c
      have e : shE s = if q.sum = 1 then none else some (-1) := by
        unfold shE
        rw [if_pos hlen, fi_none hall, hq, sumP_fr]
      rw [e]
      by_cases h1 : q.sum = 1
      · simp [-Option.bind_some, -smallPs_cons, c, hG1, one_fr1, h1]
        rfl
      · simp [-Option.bind_some, -smallPs_cons, c, hG1, one_fr1, h1, sn]
        rfl
  · have e : shE s = some (-1) := by unfold shE; rw [if_neg hlen]
    rw [e]
    have ex : exO "shares" (some (-1)) = .tup [.bl false, .str "BadWork", .tup [.str "shares", .int (-1)]] := rfl
    by_cases h1 : 1 ≤ s.length
    · have h2 : ¬ s.length ≤ 3 := fun z => hlen ⟨h1, z⟩
      have g1 : (1 : Int) ≤ (s.length : Int) := by omega
      have g2 : ¬ (s.length : Int) ≤ 3 := by omega
      simp [-Option.bind_some, -smallPs_cons, F_check_shares, entry, h1, h2, g1, g2, sn, ex]
    · have g1 : ¬ (1 : Int) ≤ (s.length : Int) := by omega
      simp [-Option.bind_some, -smallPs_cons, F_check_shares, entry, h1, g1, sn, ex]
def lenP : P → Nat
  | .tup l => l.length
  | _ => 0
def len0 : List P → Nat
  | x :: _ => lenP x
  | [] => 0
def rowK (m : Nat) (ch : Bool) (n : Nat) (x : P) : Bool := rowsB 1 m x && (!ch || chP x) && decide (lenP x = n)
def roE (m : Nat) (ch : Bool) (c : List P) (n : Nat) : Option Int := if c.length = n then (c.findIdx? fun x => !rowK m ch (len0 c) x).map (fun k : Nat => (k : Int)) else some (-1)
theorem rowsB_tup {lo hi : Nat} {x : P} (h : rowsB lo hi x = true) : ∃ l, x = .tup l := by
  cases x with
  | tup l => exact ⟨l, rfl⟩
  | _ => cases h
theorem rowK_tup {m n : Nat} {ch : Bool} {x : P} (h : rowK m ch n x = true) : ∃ l, x = .tup l := by
  unfold rowK at h
  rw [Bool.and_eq_true, Bool.and_eq_true] at h
  exact rowsB_tup h.1.1
theorem x_costs (k : Nat) {j m n : Nat} {s : List P} (hm : m ≤ 100) (hl : s.length ≤ m) (ht : ∀ x ∈ s, tm j m x = true) (M : Mem) : IX.xcall (W := W (k + 5)) n_check_costs [.p (.tup s), .p (.int (n : Int))] M = some (.p (exO "costs" (roE 4 false s n)), M) := by
  refine xcall_of (exO_cl _ _) (enterx F_check_costs rfl rfl ?_)
  have cf : ∀ x ∈ s, callX (W (k + 4)) n_is_fractions [.p x, .p (.int 1), .p (.int 4)] M = some (.p (.bl (rowsB 1 4 x && (!false || chP x))), M) := fun x hx => by
    have := c_isfrsG (k + 1) (lo := 1) (hi := 4) (tm_szR (by omega) (ht x hx)) M
    rw [show (!false || chP x) = true from rfl, Bool.and_true]
    exact this
  generalize W (k + 4) = V at *
  have sn : smallPs [.str "costs", .int (-1)] = true := smX (by decide +kernel) (by decide)
  have sE : ∀ M, src .enm [.p (.tup s)] M = some ⟨enumP 0 s, [], true⟩ := fun _ => rfl
  by_cases hlen : s.length = n
  · have g1 : (s.length : Int) = (n : Int) := by omega
    simp [-Option.bind_some, -src_enmT, -smallPs_cons, F_check_costs, entry, hlen, sE, enum_id]
    refine lop_wpJ (fun q : P × Nat => P.tup [.int (q.2 : Int), q.1]) (fun pre r ρ M' => M' = M ∧ (∀ q ∈ pre, rowK 4 false (len0 s) q.1 = true) ∧ ∃ z1 z2, ρ = [some (.p (.tup s)), some (.p (.int (n : Int))), z1, z2]) s.zipIdx ⟨rfl, fun q hq => by simp at hq, none, none, rfl⟩ ?_ ?_
    · rintro J Q hJ hQ pre q r ρ M' hr ⟨rfl, hp, z1, z2, rfl⟩
      obtain ⟨hq2, hes⟩ := zz hr
      have hqm : q.1 ∈ s := by rw [hes]; simp
      have hplen : pre.length < s.length := by
        have := congrArg List.length hes
        simp at this; omega
      have sm : smallPs [.str "costs", .int (q.2 : Int)] = true := smX (by decide +kernel) (by omega)
      have c := cf q.1 hqm
      have bad : rowK 4 false (len0 s) q.1 = false → roE 4 false s n = some (q.2 : Int) := fun hb => by
        unfold roE
        have := fi_some (f := rowK 4 false (len0 s)) (r := r.map (·.1)) (pre := pre.map (·.1)) (fun x hx => by
          obtain ⟨y, hy, rfl⟩ := List.mem_map.mp hx
          exact hp y hy) hb
        rw [← hes] at this
        rw [if_pos hlen, this, List.length_map, hq2]; rfl
      by_cases hf : (rowsB 1 4 q.1 && (!false || chP q.1)) = true
      · rw [hf] at c
        have hf2 := hf
        rw [Bool.and_eq_true] at hf2
        obtain ⟨l, hx⟩ := rowsB_tup hf2.1
        obtain ⟨l0, h0, h0l⟩ : ∃ l0, atx s 0 = some (.tup l0) ∧ l0.length = len0 s := by
          cases pre with
          | nil =>
            refine ⟨l, ?_, ?_⟩
            · rw [hes, ← hx]; exact atx_nat (i := 0) rfl
            · rw [hes]
              show _ = lenP q.1
              rw [hx]; rfl
          | cons p0 pre =>
            obtain ⟨l0, hl0⟩ := rowK_tup (hp p0 (List.mem_cons_self ..))
            refine ⟨l0, ?_, ?_⟩
            · rw [hes, ← hl0]; exact atx_nat (i := 0) rfl
            · rw [hes]
              show _ = lenP p0.1
              rw [hl0]; rfl
        have li : ∀ M, items M (.p q.1) = some l := fun M => by rw [hx]; rfl
        by_cases hn : l.length = len0 s
        · have good : rowK 4 false (len0 s) q.1 = true := by
            unfold rowK
            rw [hf, hx]
            show (true && decide (l.length = len0 s)) = true
            rw [decide_eq_true hn]; rfl
          simp [-Option.bind_some, -smallPs_cons, c, li, h0, h0l, hn]
          rw [hJ]
          exact ⟨rfl, fun y hy => by
            rcases List.mem_append.mp hy with hy | hy
            · exact hp y hy
            · rw [List.mem_singleton.mp hy]; exact good, _, _, rfl⟩
        · have hb : rowK 4 false (len0 s) q.1 = false := by
            unfold rowK
            rw [hf, hx]
            show (true && decide (l.length = len0 s)) = false
            rw [decide_eq_false hn]; rfl
          have hnI : ¬ (l.length : Int) = (len0 s : Int) := by omega
          simp [-Option.bind_some, -smallPs_cons, c, li, h0, h0l, hn, hnI, sm]
          rw [hQ, bad hb]
          exact ⟨[], by rw [List.append_nil]; rfl⟩
      · have hf' : (rowsB 1 4 q.1 && (!false || chP q.1)) = false := Bool.eq_false_iff.mpr hf
        rw [hf'] at c
        have hb : rowK 4 false (len0 s) q.1 = false := by unfold rowK; rw [hf']; rfl
        simp [-Option.bind_some, -smallPs_cons, c, sm]
        rw [hQ, bad hb]
        exact ⟨[], by rw [List.append_nil]; rfl⟩
    · rintro ρ M' ⟨rfl, hp, z1, z2, rfl⟩
      have hall : ∀ x ∈ s, rowK 4 false (len0 s) x = true := fun x hx => by
        have : s.zipIdx.map (·.1) = s := by simp
        rw [← this] at hx
        obtain ⟨y, hy, rfl⟩ := List.mem_map.mp hx
        exact hp y hy
      have e : roE 4 false s n = none := by
        unfold roE
        rw [if_pos hlen, fi_none hall]; rfl
      rw [e]
      simp [-Option.bind_some]
      rfl
  · have e : roE 4 false s n = some (-1) := by unfold roE; rw [if_neg hlen]
    rw [e]
    have ex : exO "costs" (some (-1)) = .tup [.bl false, .str "BadWork", .tup [.str "costs", .int (-1)]] := rfl
    have g1 : ¬ (s.length : Int) = (n : Int) := by omega
    simp [-Option.bind_some, -smallPs_cons, F_check_costs, entry, hlen, g1, sn, ex]
theorem x_chances (k : Nat) {j m n : Nat} {s : List P} (hm : m ≤ 100) (hl : s.length ≤ m) (ht : ∀ x ∈ s, tm j m x = true) (M : Mem) : IX.xcall (W := W (k + 5)) n_check_chances [.p (.tup s), .p (.int (n : Int))] M = some (.p (exO "chances" (roE 6 true s n)), M) := by
  refine xcall_of (exO_cl _ _) (enterx F_check_chances rfl rfl ?_)
  have cf : ∀ x ∈ s, callX (W (k + 4)) n_is_chances [.p x, .p (.int 1), .p (.int 6)] M = some (.p (.bl (rowsB 1 6 x && (!true || chP x))), M) := fun x hx => by
    have := c_ischG k (lo := 1) (hi := 6) (by decide) hm (ht x hx) M
    rw [show (!true || chP x) = chP x from rfl]
    exact this
  generalize W (k + 4) = V at *
  have sn : smallPs [.str "chances", .int (-1)] = true := smX (by decide +kernel) (by decide)
  have sE : ∀ M, src .enm [.p (.tup s)] M = some ⟨enumP 0 s, [], true⟩ := fun _ => rfl
  by_cases hlen : s.length = n
  · have g1 : (s.length : Int) = (n : Int) := by omega
    simp [-Option.bind_some, -src_enmT, -smallPs_cons, F_check_chances, entry, hlen, sE, enum_id]
    refine lop_wpJ (fun q : P × Nat => P.tup [.int (q.2 : Int), q.1]) (fun pre r ρ M' => M' = M ∧ (∀ q ∈ pre, rowK 6 true (len0 s) q.1 = true) ∧ ∃ z1 z2, ρ = [some (.p (.tup s)), some (.p (.int (n : Int))), z1, z2]) s.zipIdx ⟨rfl, fun q hq => by simp at hq, none, none, rfl⟩ ?_ ?_
    · rintro J Q hJ hQ pre q r ρ M' hr ⟨rfl, hp, z1, z2, rfl⟩
      obtain ⟨hq2, hes⟩ := zz hr
      have hqm : q.1 ∈ s := by rw [hes]; simp
      have hplen : pre.length < s.length := by
        have := congrArg List.length hes
        simp at this; omega
      have sm : smallPs [.str "chances", .int (q.2 : Int)] = true := smX (by decide +kernel) (by omega)
      have c := cf q.1 hqm
      have bad : rowK 6 true (len0 s) q.1 = false → roE 6 true s n = some (q.2 : Int) := fun hb => by
        unfold roE
        have := fi_some (f := rowK 6 true (len0 s)) (r := r.map (·.1)) (pre := pre.map (·.1)) (fun x hx => by
          obtain ⟨y, hy, rfl⟩ := List.mem_map.mp hx
          exact hp y hy) hb
        rw [← hes] at this
        rw [if_pos hlen, this, List.length_map, hq2]; rfl
      by_cases hf : (rowsB 1 6 q.1 && (!true || chP q.1)) = true
      · rw [hf] at c
        have hf2 := hf
        rw [Bool.and_eq_true] at hf2
        obtain ⟨l, hx⟩ := rowsB_tup hf2.1
        obtain ⟨l0, h0, h0l⟩ : ∃ l0, atx s 0 = some (.tup l0) ∧ l0.length = len0 s := by
          cases pre with
          | nil =>
            refine ⟨l, ?_, ?_⟩
            · rw [hes, ← hx]; exact atx_nat (i := 0) rfl
            · rw [hes]
              show _ = lenP q.1
              rw [hx]; rfl
          | cons p0 pre =>
            obtain ⟨l0, hl0⟩ := rowK_tup (hp p0 (List.mem_cons_self ..))
            refine ⟨l0, ?_, ?_⟩
            · rw [hes, ← hl0]; exact atx_nat (i := 0) rfl
            · rw [hes]
              show _ = lenP p0.1
              rw [hl0]; rfl
        have li : ∀ M, items M (.p q.1) = some l := fun M => by rw [hx]; rfl
        by_cases hn : l.length = len0 s
        · have good : rowK 6 true (len0 s) q.1 = true := by
            unfold rowK
            rw [hf, hx]
            show (true && decide (l.length = len0 s)) = true
            rw [decide_eq_true hn]; rfl
          simp [-Option.bind_some, -smallPs_cons, c, li, h0, h0l, hn]
          rw [hJ]
          exact ⟨rfl, fun y hy => by
            rcases List.mem_append.mp hy with hy | hy
            · exact hp y hy
            · rw [List.mem_singleton.mp hy]; exact good, _, _, rfl⟩
        · have hb : rowK 6 true (len0 s) q.1 = false := by
            unfold rowK
            rw [hf, hx]
            show (true && decide (l.length = len0 s)) = false
            rw [decide_eq_false hn]; rfl
          have hnI : ¬ (l.length : Int) = (len0 s : Int) := by omega
          simp [-Option.bind_some, -smallPs_cons, c, li, h0, h0l, hn, hnI, sm]
          rw [hQ, bad hb]
          exact ⟨[], by rw [List.append_nil]; rfl⟩
      · have hf' : (rowsB 1 6 q.1 && (!true || chP q.1)) = false := Bool.eq_false_iff.mpr hf
        rw [hf'] at c
        have hb : rowK 6 true (len0 s) q.1 = false := by unfold rowK; rw [hf']; rfl
        simp [-Option.bind_some, -smallPs_cons, c, sm]
        rw [hQ, bad hb]
        exact ⟨[], by rw [List.append_nil]; rfl⟩
    · rintro ρ M' ⟨rfl, hp, z1, z2, rfl⟩
      have hall : ∀ x ∈ s, rowK 6 true (len0 s) x = true := fun x hx => by
        have : s.zipIdx.map (·.1) = s := by simp
        rw [← this] at hx
        obtain ⟨y, hy, rfl⟩ := List.mem_map.mp hx
        exact hp y hy
      have e : roE 6 true s n = none := by
        unfold roE
        rw [if_pos hlen, fi_none hall]; rfl
      rw [e]
      simp [-Option.bind_some]
      rfl
  · have e : roE 6 true s n = some (-1) := by unfold roE; rw [if_neg hlen]
    rw [e]
    have ex : exO "chances" (some (-1)) = .tup [.bl false, .str "BadWork", .tup [.str "chances", .int (-1)]] := rfl
    have g1 : ¬ (s.length : Int) = (n : Int) := by omega
    simp [-Option.bind_some, -smallPs_cons, F_check_chances, entry, hlen, g1, sn, ex]

end K67
end

section
set_option linter.all false
set_option autoImplicit false
set_option maxRecDepth 10000
set_option exponentiation.threshold 100000
set_option maxHeartbeats 4000000
namespace K67
open PySem IX
def dueO (x : P) : Option (Str × Int) := match x with
  | .tup [.tup s, .tup c, .tup h] => (match shE s with
    | some k => some (("shares" : Str), k)
    | none => (match roE 4 false c s.length with
      | some k => some (("costs" : Str), k)
      | none => (match roE 6 true h (len0 c) with
        | some k => some (("chances" : Str), k)
        | none => none)))
  | _ => some (("work" : Str), -1)
def isT : P → Bool
  | .tup _ => true
  | _ => false
theorem isT_iff {x : P} (h : isT x = true) : ∃ l, x = .tup l := by
  cases x with
  | tup l => exact ⟨l, rfl⟩
  | _ => cases h
theorem istup_eq (x : P) (M : Mem) : bfun .istup [.p x] M = some (.p (.bl (isT x)), M) := by
  cases x <;> rfl
theorem dueO_no3 {x : P} (h : ∀ a b c, x ≠ .tup [.tup a, .tup b, .tup c]) : dueO x = some (("work" : Str), -1) := by
  unfold dueO
  split
  · exact absurd rfl (h _ _ _)
  · rfl
theorem work_body (k : Nat) {m : Nat} {x : P} {j : Nat} (hm : m ≤ 100) (ht : tm (j + 2) m x = true) (M : Mem) {Q : Out → Prop} (h1 : dueO x = none → ∀ X, Q (.rt (.p .non) (M ++ X))) (h2 : ∀ part n, dueO x = some (part, n) → ∀ X, Q (.xc "BadWork" [.str part, .int n] (M ++ X))) :
    Wp (evSs (W (k + 5)) G LL F_check_work.body (entry F_check_work [.p x]) M) Q := by
  have xs := fun {s : List P} (hl : s.length ≤ m) (h : ∀ x ∈ s, tm j m x = true) M => x_shares k hm hl h M
  have xc := fun {s : List P} {n : Nat} (hl : s.length ≤ m) (h : ∀ x ∈ s, tm j m x = true) M => x_costs k (n := n) hm hl h M
  have xh := fun {s : List P} {n : Nat} (hl : s.length ≤ m) (h : ∀ x ∈ s, tm j m x = true) M => x_chances k (n := n) hm hl h M
  generalize W (k + 5) = V at *
  have sw : smallPs [.str "work", .int (-1)] = true := smX (by decide +kernel) (by decide)
  have bad : dueO x = some (("work" : Str), -1) → Q (.xc "BadWork" [.str "work", .int (-1)] M) := fun h => by
    have := h2 _ _ h []
    rw [List.append_nil] at this; exact this
  by_cases hx : isT x = true
  · obtain ⟨l, rfl⟩ := isT_iff hx
    have hl := tm_tup ht
    by_cases h3 : l.length = 3
    · have f : gtest false (gnx V G [1] (.bi .istup [(.v 1)]) (.nm 1) [] [some (.p (.tup l)), none, none, none, none] M) (l.map id) = some (l.all isT) := gtest_all id isT l fun y hy => by
        cases y <;> simp [-Option.bind_some, gnx, wipeE, isT]
      rw [List.map_id] at f
      have ge : genEnd .all ⟨l, [], true⟩ (gnx V G [1] (.bi .istup [(.v 1)]) (.nm 1) [] [some (.p (.tup l)), none, none, none, none] M) M = some (.p (.bl (l.all isT)), M) := by
        show (if l.length + 1 < sizeLine then (gtest false _ l).map fun b => (D.p (.bl b), M) else none) = _
        rw [if_pos (by rw [szl]; omega), f]; rfl
      by_cases ha : l.all isT = true
      · rw [ha] at ge
        obtain ⟨s, c, h, rfl⟩ : ∃ s c h, l = [.tup s, .tup c, .tup h] := by
          match l, h3, ha with
          | [a, b, c], _, ha =>
            simp only [List.all_cons, List.all_nil, Bool.and_true, Bool.and_eq_true] at ha
            obtain ⟨s, rfl⟩ := isT_iff ha.1
            obtain ⟨t, rfl⟩ := isT_iff ha.2.1
            obtain ⟨u, rfl⟩ := isT_iff ha.2.2
            exact ⟨s, t, u, rfl⟩
        have ts := tm_tup (hl.2 (.tup s) (by simp))
        have tc := tm_tup (hl.2 (.tup c) (by simp))
        have th := tm_tup (hl.2 (.tup h) (by simp))
        have c1 := xs ts.1 ts.2 M
        have c2 := xc (n := s.length) tc.1 tc.2 M
        have c3 := xh (n := len0 c) th.1 th.2 M
        cases e1 : shE s with
        | some k1 =>
          rw [e1] at c1
          have hd : dueO (.tup [.tup s, .tup c, .tup h]) = some (("shares" : Str), k1) := by simp only [dueO, e1]
          have q := h2 _ _ hd []
          rw [List.append_nil] at q
          unfold exO at c1
          simp [-Option.bind_some, F_check_work, entry, ge, c1]
          exact q
        | none =>
          rw [e1] at c1
          have hs1 : 1 ≤ s.length := by
            unfold shE at e1
            split at e1
            · rename_i hh; exact hh.1
            · cases e1
          cases e2 : roE 4 false c s.length with
          | some k2 =>
            rw [e2] at c2
            have hd : dueO (.tup [.tup s, .tup c, .tup h]) = some (("costs" : Str), k2) := by simp only [dueO, e1, e2]
            have q := h2 _ _ hd []
            rw [List.append_nil] at q
            unfold exO at c1 c2
            simp [-Option.bind_some, F_check_work, entry, ge, c1, c2]
            exact q
          | none =>
            rw [e2] at c2
            obtain ⟨l0, c', rfl⟩ : ∃ l0 c', c = .tup l0 :: c' := by
              unfold roE at e2
              split at e2
              · rename_i hcl
                cases c with
                | nil => simp at hcl; omega
                | cons y c' =>
                  rw [Option.map_eq_none_iff, List.findIdx?_eq_none_iff] at e2
                  have := e2 y (List.mem_cons_self ..)
                  obtain ⟨l0, rfl⟩ := rowK_tup (by simpa using this)
                  exact ⟨l0, c', rfl⟩
              · cases e2
            have i0 : ∀ M, index (.p (.tup (.tup l0 :: c'))) (.p (.int 0)) M = some (.tup l0) := fun M => at_nat (i := 0) rfl rfl
            have hlen0 : len0 (.tup l0 :: c') = l0.length := rfl
            rw [hlen0] at c3
            cases e3 : roE 6 true h l0.length with
            | some k3 =>
              rw [e3] at c3
              have hd : dueO (.tup [.tup s, .tup (.tup l0 :: c'), .tup h]) = some (("chances" : Str), k3) := by simp only [dueO, e1, e2, hlen0, e3]
              have q := h2 _ _ hd []
              rw [List.append_nil] at q
              unfold exO at c1 c2 c3
              obtain ⟨C, hC⟩ : ∃ C, C = P.tup (.tup l0 :: c') := ⟨_, rfl⟩
              rw [← hC] at i0 c2 ge ⊢
              simp [-Option.bind_some, -ix_tup, F_check_work, entry, ge, c1, c2, i0, c3]
              exact q
            | none =>
              rw [e3] at c3
              have hd : dueO (.tup [.tup s, .tup (.tup l0 :: c'), .tup h]) = none := by simp only [dueO, e1, e2, hlen0, e3]
              have q := h1 hd []
              rw [List.append_nil] at q
              unfold exO at c1 c2 c3
              obtain ⟨C, hC⟩ : ∃ C, C = P.tup (.tup l0 :: c') := ⟨_, rfl⟩
              rw [← hC] at i0 c2 ge ⊢
              simp [-Option.bind_some, -ix_tup, F_check_work, entry, ge, c1, c2, i0, c3]
              exact q
      · have ha' : l.all isT = false := Bool.eq_false_iff.mpr ha
        rw [ha'] at ge
        have q := bad (dueO_no3 fun a b c e => ha (by cases e; rfl))
        simp [-Option.bind_some, -smallPs_cons, F_check_work, entry, ge, h3, sw]
        exact q
    · have q := bad (dueO_no3 fun a b c e => h3 (by cases e; rfl))
      have h3I : ¬ (l.length : Int) = 3 := by omega
      simp [-Option.bind_some, -smallPs_cons, F_check_work, entry, h3, h3I, sw]
      exact q
  · have hx' : isT x = false := Bool.eq_false_iff.mpr hx
    have it := istup_eq x M
    rw [hx'] at it
    have q := bad (dueO_no3 fun a b c e => hx (by rw [e]; rfl))
    simp [-Option.bind_some, -smallPs_cons, F_check_work, entry, it, sw]
    exact q
theorem c_work (k : Nat) {m : Nat} {x : P} {j : Nat} (hm : m ≤ 100) (ht : tm (j + 2) m x = true) (hd : dueO x = none) (M : Mem) : callX (W (k + 6)) n_check_work [.p x] M = some (.p .non, M) := by
  refine (pure_of cl_non (enter F_check_work rfl rfl ?_)).call
  refine work_body k hm ht M (fun _ X => ⟨rfl, X, rfl⟩) fun part n h => ?_
  rw [hd] at h; cases h
end K67
end

section
set_option linter.all false
set_option autoImplicit false
set_option maxRecDepth 10000
set_option exponentiation.threshold 100000
set_option maxHeartbeats 4000000
namespace K67
open PySem IX
def unitR (n c : Nat) : List Rat := (List.range n).map fun a => if a = c then 1 else 0
theorem unitR_len (n c : Nat) : (unitR n c).length = n := by simp [unitR]
theorem g_one : List.lookup ("ONE" : Str) pg.G = some (fr 1) := by rfl
theorem g_zero' : List.lookup ("ZERO" : Str) pg.G = some (fr 0) := by rfl
theorem c_unit (k : Nat) {n c : Nat} (hn : n ≤ 1000) (M : Mem) : callX (W (k + 1)) n_unit [.p (.int (n : Int)), .p (.int (c : Int))] M = some (.p (row (unitR n c)), M) := by
  refine (pure_of (row_cl _) (enter F_unit rfl rfl ?_)).call
  generalize W k = V
  have sm : small (n : Int) = true := by unfold small; simp; omega
  have e : (List.range n).map (fun a => if a = c then fr 1 else fr 0) = (unitR n c).map fr := by
    rw [unitR, List.map_map]
    apply List.map_congr_left
    intro a _
    show _ = fr (if a = c then 1 else 0)
    split <;> rfl
  have ln : n + 1 < sizeLine := by rw [szl]; omega
  simp [-Option.bind_some, F_unit, entry, src_rng1 sm, rangeP_map]
  rw [gturns_map (fun a : Nat => P.int (a : Int)) (fun a => if a = c then fr 1 else fr 0) (List.range n) fun a _ => by
    by_cases h : a = c
    · subst h; simp [-Option.bind_some, gnx, wipeE, g_one]
    · have h' : ¬ ((a : Int) = (c : Int)) := by omega
      simp [-Option.bind_some, gnx, wipeE, g_zero', h, h']]
  rw [e]
  simp [ln, row, unitR_len]
def oX (o : Option (Str × Int)) (x : P) : P := match o with
  | none => .tup [.bl true, x]
  | some (s, n) => .tup [.bl false, .str "BadWork", .tup [.str s, .int n]]
theorem oX_cl {o : Option (Str × Int)} {x : P} (h : x.cl) : (oX o x).cl := by
  cases o with
  | none => exact fun n => by simp [oX, h n]
  | some q => exact fun n => by simp [oX]
/-- what a postcondition has to know of a body that tells x or raises o -/
def RQ (o : Option (Str × Int)) (x : P) (M : Mem) (Q : Out → Prop) : Prop := (o = none → ∀ X, Q (.rt (.p x) (M ++ X))) ∧ ∀ s n, o = some (s, n) → ∀ X, Q (.xc "BadWork" [.str s, .int n] (M ++ X))
theorem x_of {k f : Nat} {ds : List D} {M : Mem} {o : Option (Str × Int)} {x : P} (fn : Fn) (h : tab f = some fn) (hl : ds.length = fn.np) (hc : x.cl) (b : ∀ Q, RQ o x M Q → Wp (evSs (W k) G LL fn.body (entry fn ds) M) Q) : IX.xcall (W := W (k + 1)) f ds M = some (.p (oX o x), M) := by
  refine xcall_of (oX_cl hc) (enterx fn h hl (b _ ⟨fun h X => ?_, fun s n h X => ?_⟩))
  · subst h; exact ⟨X, rfl⟩
  · subst h; exact ⟨X, rfl⟩
theorem c_of {k f : Nat} {ds : List D} {M : Mem} {o : Option (Str × Int)} {x : P} (fn : Fn) (h : tab f = some fn) (hl : ds.length = fn.np) (hc : x.cl) (ho : o = none) (b : ∀ Q, RQ o x M Q → Wp (evSs (W k) G LL fn.body (entry fn ds) M) Q) (hf : f < XO := by decide) : callX (W (k + 1)) f ds M = some (.p x, M) := by
  subst ho
  exact (pure_of hc (enter fn h hl (b _ ⟨fun _ X => ⟨rfl, X, rfl⟩, fun s n h => by cases h⟩) hf)).call
theorem x_work (k : Nat) {m : Nat} {x : P} {j : Nat} (hm : m ≤ 100) (ht : tm (j + 2) m x = true) (M : Mem) : IX.xcall (W := W (k + 6)) n_check_work [.p x] M = some (.p (oX (dueO x) .non), M) :=
  x_of F_check_work rfl rfl cl_non fun _ q => work_body k hm ht M q.1 q.2
def loneP (c : P) (H : List P) : P := .tup [.tup [.tup [.int 1, .int 1]], .tup [c], .tup H]
theorem loneP_cl {c : P} {H : List P} (hc : c.cl) (hH : ∀ x ∈ H, x.cl) : (loneP c H).cl := fun n => by
  have h1 := hc n
  have h2 : P.unds n H = true := by
    have := unds_map id n H fun x hx => hH x hx n
    rwa [List.map_id] at this
  simp [loneP, h1, h2]
theorem lone_body (k : Nat) {m j : Nat} {c : P} {H : List P} (hm : m ≤ 100) (ht : tm (j + 2) m (loneP c H) = true) (M : Mem) {Q : Out → Prop} (q : RQ (dueO (loneP c H)) (loneP c H) M Q) : Wp (evSs (W (k + 6)) G LL F_lone_work.body (entry F_lone_work [.p c, .p (.tup H)]) M) Q := by
  have xa := x_work k hm ht M
  generalize W (k + 6) = V at *
  obtain ⟨q1, q2⟩ := q
  generalize dueO (loneP c H) = o at *
  unfold loneP at xa q1
  cases o with
  | none =>
    have q1 := q1 rfl []
    rw [List.append_nil] at q1
    unfold oX at xa
    simp [-Option.bind_some, F_lone_work, entry, hG1, s1, s3, xa]
    exact q1
  | some p =>
    obtain ⟨s, n⟩ := p
    have q2 := q2 s n rfl []
    rw [List.append_nil] at q2
    unfold oX at xa
    simp [-Option.bind_some, F_lone_work, entry, hG1, s1, s3, xa]
    exact q2
theorem x_lone (k : Nat) {m j : Nat} {c : P} {H : List P} (hm : m ≤ 100) (ht : tm (j + 2) m (loneP c H) = true) (M : Mem) : IX.xcall (W := W (k + 7)) n_lone_work [.p c, .p (.tup H)] M = some (.p (oX (dueO (loneP c H)) (loneP c H)), M) :=
  x_of F_lone_work rfl rfl (tm_cl _ _ ht) fun _ q => lone_body k hm ht M q
/-- the end of a body that tells what lone_work tells -/
theorem RQ.fin {o : Option (Str × Int)} {x : P} {M : Mem} {Q : Out → Prop} (q : RQ o x M Q) : (o = none → Q (.rt (.p x) M)) ∧ ∀ s n, o = some (s, n) → Q (.xc "BadWork" [.str s, .int n] M) :=
  ⟨fun h => by have := q.1 h []; rwa [List.append_nil] at this, fun s n h => by have := q.2 s n h []; rwa [List.append_nil] at this⟩
theorem tm_fr {m : Nat} {q : Rat} (hm : 2 ≤ m) (h : Bd 9 q) : tm 1 m (fr q) = true := by
  refine tm_of (by simpa using hm) fun x hx => ?_
  simp only [List.mem_cons, List.not_mem_nil, or_false] at hx
  rcases hx with rfl | rfl
  · exact decide_eq_true (by have := h.1; omega)
  · exact decide_eq_true (by rw [Int.natAbs_natCast]; have := h.2; omega)
theorem tm_row {m : Nat} {l : List Rat} (hm : 2 ≤ m) (hl : l.length ≤ m) (h : AllB 9 l) : tm 2 m (row l) = true := tm_of (by rw [List.length_map]; exact hl) fun x hx => by
  obtain ⟨q, hq, rfl⟩ := List.mem_map.mp hx
  exact tm_fr hm (h q hq)
theorem all_frB (l : List Rat) : (l.map fr).all frB = true := by
  rw [List.all_map]
  exact List.all_eq_true.mpr fun q _ => frB_fr q
theorem tm_lone {cs : List Rat} {H : List P} (hc : cs.length ≤ 6) (hb : AllB 9 cs) (hH : H.length ≤ 6) (ht : ∀ x ∈ H, tm 2 6 x = true) : tm 4 6 (loneP (row cs) H) = true := by
  refine tm_of (by simp) fun x hx => ?_
  simp only [List.mem_cons, List.not_mem_nil, or_false] at hx
  rcases hx with rfl | rfl | rfl
  · decide +kernel
  · exact tm_of (by simp) fun x hx => by
      rw [List.mem_singleton.mp hx]
      exact tm_row (by decide) hc hb
  · exact tm_of hH ht
theorem due_lone {cs : List Rat} {H : List P} : dueO (loneP (row cs) H) = if 1 ≤ cs.length ∧ cs.length ≤ 4 then (match roE 6 true H cs.length with | some k => some (("chances" : Str), k) | none => none) else some (("costs" : Str), 0) := by
  have e1 : shE [.tup [.int 1, .int 1]] = none := by decide +kernel
  have e2 : len0 [row cs] = cs.length := by show (cs.map fr).length = _; rw [List.length_map]
  have e3 : roE 4 false [row cs] 1 = if 1 ≤ cs.length ∧ cs.length ≤ 4 then none else some 0 := by
    unfold roE
    rw [if_pos (show [row cs].length = 1 from rfl), e2]
    have : rowK 4 false cs.length (row cs) = decide (1 ≤ cs.length ∧ cs.length ≤ 4) := by
      show (decide (1 ≤ (cs.map fr).length) && decide ((cs.map fr).length ≤ 4) && (cs.map fr).all frB && (!false || chP (row cs)) && decide ((cs.map fr).length = cs.length)) = _
      rw [all_frB, List.length_map, decide_eq_true (rfl : cs.length = cs.length)]
      simp
    rw [List.findIdx?_cons, this]
    by_cases h : 1 ≤ cs.length ∧ cs.length ≤ 4
    · rw [decide_eq_true h, if_pos h]; rfl
    · rw [decide_eq_false h, if_neg h]; rfl
  show (match shE [.tup [.int 1, .int 1]] with
    | some k => some (("shares" : Str), k)
    | none => (match roE 4 false [row cs] 1 with
      | some k => some (("costs" : Str), k)
      | none => (match roE 6 true H (len0 [row cs]) with
        | some k => some (("chances" : Str), k)
        | none => none))) = _
  rw [e1, e2, e3]
  by_cases h : 1 ≤ cs.length ∧ cs.length ≤ 4
  · rw [if_pos h, if_pos h]
  · rw [if_neg h, if_neg h]
theorem row2 (a b : Rat) : row [a, b] = .tup [fr a, fr b] := rfl
def twoH (high low : Rat) : List P := [row [1 - low, low], row [1 - high, high]]
theorem chL_bd : ∀ q ∈ chL, Bd 9 q := fun q hq => by
  have : ∀ q ∈ chL, (decide (q.num.natAbs < 2 ^ 9) && decide (q.den < 2 ^ 9)) = true := by decide +kernel
  have := this q hq
  rw [Bool.and_eq_true, decide_eq_true_eq, decide_eq_true_eq] at this
  exact this
theorem chL_bd1 : ∀ q ∈ chL, Bd 9 (1 - q) := fun q hq => by
  have : ∀ q ∈ chL, (decide ((1 - q).num.natAbs < 2 ^ 9) && decide ((1 - q).den < 2 ^ 9)) = true := by decide +kernel
  have := this q hq
  rw [Bool.and_eq_true, decide_eq_true_eq, decide_eq_true_eq] at this
  exact this
theorem ch_row {q : Rat} (h : q ∈ chL) : AllB 9 [1 - q, q] := fun x hx => by
  simp only [List.mem_cons, List.not_mem_nil, or_false] at hx
  rcases hx with rfl | rfl
  · exact chL_bd1 q h
  · exact chL_bd x h
theorem two_tm {c high low : Rat} (hc : Bd 9 c) (h1 : high ∈ chL) (h2 : low ∈ chL) : tm 4 6 (loneP (row [0, c]) (twoH high low)) = true := by
  refine tm_lone (by simp) (fun x hx => ?_) (by simp [twoH]) fun x hx => ?_
  · simp only [List.mem_cons, List.not_mem_nil, or_false] at hx
    rcases hx with rfl | rfl
    · exact ⟨by decide, by decide⟩
    · exact hc
  · simp only [twoH, List.mem_cons, List.not_mem_nil, or_false] at hx
    rcases hx with rfl | rfl
    · exact tm_row (by decide) (by simp) (ch_row h2)
    · exact tm_row (by decide) (by simp) (ch_row h1)
def wr2 (a b : Bool) : Option (Str × Int) := if a then if b then none else some (("chances" : Str), 1) else some (("chances" : Str), 0)
theorem two_due {c high low : Rat} (h1 : high ∈ chL) (h2 : low ∈ chL) : dueO (loneP (row [0, c]) (twoH high low)) = wr2 (icB low) (icB high) := by
  rw [due_lone, if_pos ⟨show 1 ≤ 2 by decide, show 2 ≤ 4 by decide⟩]
  have : ∀ l ∈ chL, ∀ h ∈ chL, (match roE 6 true (twoH h l) 2 with | some k => some (("chances" : Str), k) | none => none) = wr2 (icB l) (icB h) := by decide +kernel
  exact this low h2 high h1
theorem hG0 : G "ZERO" = some (.tup [.int 0, .int 1]) := rfl
theorem two_body (k : Nat) {c high low : Rat} (hc : Bd 9 c) (h1 : high ∈ chL) (h2 : low ∈ chL) (M : Mem) {Q : Out → Prop} (q : RQ (wr2 (icB low) (icB high)) (loneP (row [0, c]) (twoH high low)) M Q) : Wp (evSs (W (k + 7)) G LL F_two_acts.body (entry F_two_acts [.p (fr c), .p (fr high), .p (fr low)]) M) Q := by
  have xa := x_lone k (j := 2) (by decide) (two_tm hc h1 h2) M
  rw [two_due h1 h2] at xa
  have cm : ∀ q ∈ chL, callX (W (k + 7)) n_minus [.p (.tup [.int 1, .int 1]), .p (fr q)] M = some (.p (fr (1 - q)), M) := fun q hq => c_minus (k + 4) (q := 1) (m := 9) ⟨by decide, by decide⟩ (chL_bd q hq) (by decide) (by decide) M
  have ch := cm high h1
  have cl := cm low h2
  generalize W (k + 7) = V at *
  obtain ⟨q1, q2⟩ := q.fin
  generalize wr2 (icB low) (icB high) = o at *
  generalize hX : loneP (row [0, c]) (twoH high low) = X at *
  rw [show (P.tup (twoH high low)) = .tup [.tup [fr (1 - low), fr low], .tup [fr (1 - high), fr high]] from rfl, show row [0, c] = .tup [.tup [.int 0, .int 1], fr c] from rfl] at xa
  cases o with
  | none =>
    have q1 := q1 rfl
    unfold oX at xa
    simp [-Option.bind_some, F_two_acts, entry, hG1, hG0, s2, cl, ch, xa]
    exact q1
  | some p =>
    obtain ⟨s, n⟩ := p
    have q2 := q2 s n rfl
    unfold oX at xa
    simp [-Option.bind_some, F_two_acts, entry, hG1, hG0, s2, cl, ch, xa]
    exact q2
theorem x_two (k : Nat) {c high low : Rat} (hc : Bd 9 c) (h1 : high ∈ chL) (h2 : low ∈ chL) (M : Mem) : IX.xcall (W := W (k + 8)) n_two_acts [.p (fr c), .p (fr high), .p (fr low)] M = some (.p (oX (wr2 (icB low) (icB high)) (loneP (row [0, c]) (twoH high low))), M) :=
  x_of F_two_acts rfl rfl (tm_cl _ _ (two_tm hc h1 h2)) fun _ q => two_body k hc h1 h2 M q
theorem c_two (k : Nat) {c high low : Rat} (hc : Bd 9 c) (h1 : high ∈ chL) (h2 : low ∈ chL) (ho : wr2 (icB low) (icB high) = none) (M : Mem) : callX (W (k + 8)) n_two_acts [.p (fr c), .p (fr high), .p (fr low)] M = some (.p (loneP (row [0, c]) (twoH high low)), M) :=
  c_of F_two_acts rfl rfl (tm_cl _ _ (two_tm hc h1 h2)) ho fun _ q => two_body k hc h1 h2 M q
def toldH (n : Nat) : List P := (List.range n).map fun a => row (unitR n a)
def blindH (n : Nat) : List P := List.replicate n (.tup [.tup [.int 1, .int 1]])
theorem unit_bd (n a : Nat) : AllB 9 (unitR n a) := fun x hx => by
  obtain ⟨b, _, rfl⟩ := List.mem_map.mp hx
  split
  · exact ⟨by decide, by decide⟩
  · exact ⟨by decide, by decide⟩
theorem told_tm {cs : List Rat} (hl : cs.length ≤ 6) (hb : AllB 9 cs) : tm 4 6 (loneP (row cs) (toldH cs.length)) = true := by
  refine tm_lone hl hb (by simp [toldH]; exact hl) fun x hx => ?_
  obtain ⟨a, _, rfl⟩ := List.mem_map.mp hx
  exact tm_row (by decide) (by rw [unitR_len]; exact hl) (unit_bd _ _)
theorem blind_tm {cs : List Rat} (hl : cs.length ≤ 6) (hb : AllB 9 cs) : tm 4 6 (loneP (row cs) (blindH cs.length)) = true := by
  refine tm_lone hl hb (by simp [blindH]; exact hl) fun x hx => ?_
  rw [(List.mem_replicate.mp hx).2]
  decide +kernel
def wrN (n : Nat) : Option (Str × Int) := if 1 ≤ n ∧ n ≤ 4 then none else some (("costs" : Str), 0)
theorem told_due {cs : List Rat} : dueO (loneP (row cs) (toldH cs.length)) = wrN cs.length := by
  rw [due_lone]
  unfold wrN
  by_cases h : 1 ≤ cs.length ∧ cs.length ≤ 4
  · rw [if_pos h, if_pos h]
    obtain ⟨h1, h2⟩ := h
    generalize cs.length = n at *
    match n, h1, h2 with
    | 1, _, _ => decide +kernel
    | 2, _, _ => decide +kernel
    | 3, _, _ => decide +kernel
    | 4, _, _ => decide +kernel
    | n + 5, _, h => exact absurd h (by omega)
  · rw [if_neg h, if_neg h]
theorem blind_due {cs : List Rat} : dueO (loneP (row cs) (blindH cs.length)) = wrN cs.length := by
  rw [due_lone]
  unfold wrN
  by_cases h : 1 ≤ cs.length ∧ cs.length ≤ 4
  · rw [if_pos h, if_pos h]
    obtain ⟨h1, h2⟩ := h
    generalize cs.length = n at *
    match n, h1, h2 with
    | 1, _, _ => decide +kernel
    | 2, _, _ => decide +kernel
    | 3, _, _ => decide +kernel
    | 4, _, _ => decide +kernel
    | n + 5, _, h => exact absurd h (by omega)
  · rw [if_neg h, if_neg h]
theorem told_body (k : Nat) {cs : List Rat} (hl : cs.length ≤ 6) (hb : AllB 9 cs) (M : Mem) {Q : Out → Prop} (q : RQ (wrN cs.length) (loneP (row cs) (toldH cs.length)) M Q) : Wp (evSs (W (k + 7)) G LL F_told_acts.body (entry F_told_acts [.p (row cs)]) M) Q := by
  have xa := x_lone k (j := 2) (by decide) (told_tm hl hb) M
  rw [told_due] at xa
  have cu := fun (n a : Nat) (hn : n ≤ 1000) M => c_unit (k + 6) (n := n) (c := a) hn M
  generalize W (k + 7) = V at *
  obtain ⟨q1, q2⟩ := q.fin
  have li : ∀ M, items M (.p (row cs)) = some (cs.map fr) := fun _ => rfl
  generalize wrN cs.length = o at *
  generalize hX : loneP (row cs) (toldH cs.length) = X at *
  have lcs : (cs.map fr).length = cs.length := by simp
  have en : entry F_told_acts [.p (row cs)] = [some (.p (row cs)), none, none] := rfl
  rw [en]
  generalize cs.length = n at *
  generalize cs.map fr = css at *
  generalize row cs = rc at *
  have sm : small (n : Int) = true := by unfold small; simp; omega
  have f := gturns_map (F := gnx V G [2] (.call n_unit [(.v 1), (.v 2)] [0, 1]) (.nm 2) [] [some (.p rc), some (.p (.int (n : Int))), none] M) (fun a : Nat => P.int (a : Int)) (fun a => row (unitR n a)) (List.range n) fun a _ => by
    simp [-Option.bind_some, gnx, wipeE, cu n a (by omega)]
  have ln : n + 1 < sizeLine := by rw [szl]; omega
  cases o with
  | none =>
    have q1 := q1 rfl
    unfold oX toldH at xa
    simp [-Option.bind_some, F_told_acts, li, lcs, src_rng1 sm, rangeP_map, f, ln, xa]
    exact q1
  | some p =>
    obtain ⟨s, m⟩ := p
    have q2 := q2 s m rfl
    unfold oX toldH at xa
    simp [-Option.bind_some, F_told_acts, li, lcs, src_rng1 sm, rangeP_map, f, ln, xa]
    exact q2
theorem blind_body (k : Nat) {cs : List Rat} (hl : cs.length ≤ 6) (hb : AllB 9 cs) (M : Mem) {Q : Out → Prop} (q : RQ (wrN cs.length) (loneP (row cs) (blindH cs.length)) M Q) : Wp (evSs (W (k + 7)) G LL F_blind.body (entry F_blind [.p (row cs)]) M) Q := by
  have xa := x_lone k (j := 2) (by decide) (blind_tm hl hb) M
  rw [blind_due] at xa
  generalize W (k + 7) = V at *
  obtain ⟨q1, q2⟩ := q.fin
  have li : ∀ M, items M (.p (row cs)) = some (cs.map fr) := fun _ => rfl
  generalize wrN cs.length = o at *
  generalize hX : loneP (row cs) (blindH cs.length) = X at *
  have lcs : (cs.map fr).length = cs.length := by simp
  have en : entry F_blind [.p (row cs)] = [some (.p (row cs))] := rfl
  rw [en]
  generalize cs.length = n at *
  generalize cs.map fr = css at *
  generalize row cs = rc at *
  have rp : binop .mul (.p (.tup [.tup [.tup [.int 1, .int 1]]])) (.p (.int (n : Int))) M = some (.p (.tup (List.replicate n (.tup [.tup [.int 1, .int 1]]))), M) := by
    rw [b_mulT, if_pos (by simp; omega), Int.toNat_natCast, rep_one]
  cases o with
  | none =>
    have q1 := q1 rfl
    unfold oX blindH at xa
    simp [-Option.bind_some, -b_mulT, F_blind, li, lcs, hG1, s1, rp, xa]
    exact q1
  | some p =>
    obtain ⟨s, m⟩ := p
    have q2 := q2 s m rfl
    unfold oX blindH at xa
    simp [-Option.bind_some, -b_mulT, F_blind, li, lcs, hG1, s1, rp, xa]
    exact q2
theorem x_told (k : Nat) {cs : List Rat} (hl : cs.length ≤ 6) (hb : AllB 9 cs) (M : Mem) : IX.xcall (W := W (k + 8)) n_told_acts [.p (row cs)] M = some (.p (oX (wrN cs.length) (loneP (row cs) (toldH cs.length))), M) :=
  x_of F_told_acts rfl rfl (tm_cl _ _ (told_tm hl hb)) fun _ q => told_body k hl hb M q
theorem c_toldA (k : Nat) {cs : List Rat} (hl : cs.length ≤ 6) (hb : AllB 9 cs) (ho : wrN cs.length = none) (M : Mem) : callX (W (k + 8)) n_told_acts [.p (row cs)] M = some (.p (loneP (row cs) (toldH cs.length)), M) :=
  c_of F_told_acts rfl rfl (tm_cl _ _ (told_tm hl hb)) ho fun _ q => told_body k hl hb M q
theorem x_blind (k : Nat) {cs : List Rat} (hl : cs.length ≤ 6) (hb : AllB 9 cs) (M : Mem) : IX.xcall (W := W (k + 8)) n_blind [.p (row cs)] M = some (.p (oX (wrN cs.length) (loneP (row cs) (blindH cs.length))), M) :=
  x_of F_blind rfl rfl (tm_cl _ _ (blind_tm hl hb)) fun _ q => blind_body k hl hb M q
theorem c_blind (k : Nat) {cs : List Rat} (hl : cs.length ≤ 6) (hb : AllB 9 cs) (ho : wrN cs.length = none) (M : Mem) : callX (W (k + 8)) n_blind [.p (row cs)] M = some (.p (loneP (row cs) (blindH cs.length)), M) :=
  c_of F_blind rfl rfl (tm_cl _ _ (blind_tm hl hb)) ho fun _ q => blind_body k hl hb M q

end K67
end

section
set_option linter.all false
set_option autoImplicit false
set_option maxRecDepth 10000
set_option exponentiation.threshold 100000
set_option maxHeartbeats 4000000
namespace K67
open PySem IX
def twinP (c : P) (H : List P) : P := .tup [.tup [.tup [.int 1, .int 2], .tup [.int 1, .int 2]], .tup [c, c], .tup H]
def workP (c : P) (H : List P) : P := .tup [.tup [.tup [.int 1, .int 1]], .tup [c], .tup H]
/-- a row of chances -/
structure Cha (n : Nat) (r : List Rat) : Prop where
  len : r.length = n
  bd : AllB 9 r
  nn : ∀ q ∈ r, 0 ≤ q
  sm : r.sum = 1
theorem twin_tm {cs : List Rat} {T : List (List Rat)} {n : Nat} (hl : cs.length ≤ 6) (hb : AllB 9 cs) (hT : T.length ≤ 6) (hn : n ≤ 6) (h : ∀ r ∈ T, Cha n r) : tm 4 6 (twinP (row cs) (T.map row)) = true := by
  refine tm_of (by simp) fun x hx => ?_
  simp only [List.mem_cons, List.not_mem_nil, or_false] at hx
  rcases hx with rfl | rfl | rfl
  · decide +kernel
  · exact tm_of (by simp) fun x hx => by
      simp only [List.mem_cons, List.not_mem_nil, or_false] at hx
      rcases hx with rfl | rfl
      all_goals exact tm_row (by decide) hl hb
  · exact tm_of (by simpa using hT) fun x hx => by
      obtain ⟨r, hr, rfl⟩ := List.mem_map.mp hx
      exact tm_row (by decide) (by rw [(h r hr).len]; exact hn) (h r hr).bd
theorem rowK4 (cs : List Rat) (h1 : 1 ≤ cs.length) (h2 : cs.length ≤ 4) : rowK 4 false cs.length (row cs) = true := by
  show (decide (1 ≤ (cs.map fr).length) && decide ((cs.map fr).length ≤ 4) && (cs.map fr).all frB && (!false || chP (row cs)) && decide ((cs.map fr).length = cs.length)) = _
  rw [all_frB, List.length_map, decide_eq_true (rfl : cs.length = cs.length), decide_eq_true h1, decide_eq_true h2]
  rfl
theorem rowK6 {n : Nat} {r : List Rat} (h : Cha n r) (h1 : 1 ≤ n) (h2 : n ≤ 6) : rowK 6 true n (row r) = true := by
  show (decide (1 ≤ (r.map fr).length) && decide ((r.map fr).length ≤ 6) && (r.map fr).all frB && (!true || chP (row r)) && decide ((r.map fr).length = n)) = true
  have hnn : r.all (fun x => decide (0 ≤ x)) = true := List.all_eq_true.mpr fun x hx => decide_eq_true (h.nn x hx)
  rw [all_frB, chP_row, hnn, h.sm, List.length_map, h.len, decide_eq_true h1, decide_eq_true h2, decide_eq_true rfl, decide_eq_true rfl]; rfl
theorem roE6 {n : Nat} {T : List (List Rat)} (h : ∀ r ∈ T, Cha n r) (h1 : 1 ≤ n) (h2 : n ≤ 6) : roE 6 true (T.map row) T.length = none := by
  unfold roE
  rw [List.length_map, if_pos rfl, fi_none fun x hx => ?_]
  · rfl
  obtain ⟨q, hq, rfl⟩ := List.mem_map.mp hx
  have hl0 : len0 (T.map row) = n := by
    cases T with
    | nil => simp at hq
    | cons y T =>
      show (y.map fr).length = n
      rw [List.length_map]
      exact (h y (List.mem_cons_self ..)).len
  rw [hl0]
  exact rowK6 (h q hq) h1 h2
theorem twin_due {cs : List Rat} {T : List (List Rat)} {n : Nat} (hl1 : 1 ≤ cs.length) (hl : cs.length ≤ 4) (hT : T.length = cs.length) (hn1 : 1 ≤ n) (hn : n ≤ 6) (h : ∀ r ∈ T, Cha n r) : dueO (twinP (row cs) (T.map row)) = none := by
  have e1 : shE [.tup [.int 1, .int 2], .tup [.int 1, .int 2]] = none := by decide +kernel
  have e2 : len0 [row cs, row cs] = cs.length := by show (cs.map fr).length = _; rw [List.length_map]
  have e3 : roE 4 false [row cs, row cs] 2 = none := by
    unfold roE
    rw [if_pos (show [row cs, row cs].length = 2 from rfl), e2, fi_none fun x hx => ?_]
    · rfl
    simp only [List.mem_cons, List.not_mem_nil, or_false] at hx
    rcases hx with rfl | rfl
    all_goals exact rowK4 cs hl1 hl
  have e4 := roE6 h hn1 hn
  rw [hT] at e4
  show (match shE [.tup [.int 1, .int 2], .tup [.int 1, .int 2]] with
    | some k => some (("shares" : Str), k)
    | none => (match roE 4 false [row cs, row cs] 2 with
      | some k => some (("costs" : Str), k)
      | none => (match roE 6 true (T.map row) (len0 [row cs, row cs]) with
        | some k => some (("chances" : Str), k)
        | none => none))) = none
  rw [e1, e3, e2, e4]
theorem c_twins (k : Nat) {cs : List Rat} {T : List (List Rat)} {n : Nat} (hl1 : 1 ≤ cs.length) (hl : cs.length ≤ 4) (hb : AllB 9 cs) (hT : T.length = cs.length) (hn1 : 1 ≤ n) (hn : n ≤ 6) (h : ∀ r ∈ T, Cha n r) (M : Mem) : callX (W (k + 7)) n_twins [.p (workP (row cs) (T.map row))] M = some (.p (twinP (row cs) (T.map row)), M) := by
  have ht := twin_tm (n := n) (by omega) hb (by omega) hn h
  refine (pure_of (tm_cl _ _ ht) (enter F_twins rfl rfl ?_)).call
  have xa := x_work k (j := 2) (by decide) ht M
  rw [twin_due hl1 hl hT hn1 hn h] at xa
  have cr : callX (W (k + 6)) n_ratio [.p (.int 1), .p (.int 2)] M = some (.p (.tup [.int 1, .int 2]), M) := by
    have := c_ratio (k + 4) 1 (dI := 2) 2 rfl (by decide) (lt9000 (by decide)) M
    rw [this]; rfl
  have ml : mulOk 2 1 = true := by decide
  generalize W (k + 6) = V at *
  clear ht hb
  unfold twinP oX at *
  unfold workP
  generalize row cs = c at *
  generalize T.map row = H at *
  simp [-Option.bind_some, F_twins, entry, cr, ml, s2, s3, xa]
theorem x_tcosts (k : Nat) {c : Rat} (hc : Bd 9 c) (M : Mem) : IX.xcall (W := W (k + 5)) n_check_team_costs [.p (.tup [row [0, c], row [0, c]])] M = some (.p (.tup [.bl true, .non]), M) := by
  refine xcall_of (exO_cl "costs" none) (enterx F_check_team_costs rfl rfl ?_)
  have cf : ∀ M, callX (W (k + 4)) n_is_fractions [.p (row [0, c]), .p (.int 1), .p (.int 3)] M = some (.p (.bl true), M) := fun M => by
    have ht : tm 2 6 (row [0, c]) = true := tm_row (by decide) (by simp) fun x hx => by
      simp only [List.mem_cons, List.not_mem_nil, or_false] at hx
      rcases hx with rfl | rfl
      · exact ⟨by decide, by decide⟩
      · exact hc
    have := c_isfrsG (k + 1) (lo := 1) (hi := 3) (tm_szR (by decide) ht) M
    have e : rowsB 1 3 (row [0, c]) = true := by
      show (decide (1 ≤ ([0, c].map fr).length) && decide (([0, c].map fr).length ≤ 3) && ([0, c].map fr).all frB) = true
      rw [all_frB]; rfl
    rw [e] at this
    exact this
  generalize W (k + 4) = V at *
  generalize row [0, c] = rc at *
  have sr : ∀ M, src .enm [.p (.tup [rc, rc])] M = some ⟨[0, 1].map fun x : Nat => P.tup [.int (x : Int), rc], [], true⟩ := fun _ => by rfl
  simp [-Option.bind_some, -src_enmT, F_check_team_costs, entry, sr]
  refine lop_wpJ (fun x : Nat => P.tup [.int (x : Int), rc]) (fun pre r ρ M' => M' = M ∧ ∃ z1 z2 : Option D, ρ = [some (.p (.tup [rc, rc])), z1, z2]) [0, 1] ⟨rfl, _, _, rfl⟩ ?_ ?_
  · rintro J Q hJ - pre x r ρ M' hr ⟨rfl, z1, z2, rfl⟩
    simp [-Option.bind_some, cf]
    rw [hJ]
    exact ⟨rfl, _, _, rfl⟩
  · rintro ρ M' ⟨rfl, z1, z2, rfl⟩
    simp [-Option.bind_some]
theorem x_tchances (k : Nat) {j m : Nat} {a b : P} {s : List P} (hm : m ≤ 100) (hl : s.length ≤ m) (ht : ∀ x ∈ s, tm j m x = true) (hlen : s.length = 4) (M : Mem) : IX.xcall (W := W (k + 5)) n_check_team_chances [.p (.tup [.tup [a, b], .tup [a, b]]), .p (.tup s)] M = some (.p (exO "chances" (roE 4 true s 4)), M) := by
  refine xcall_of (exO_cl _ _) (enterx F_check_team_chances rfl rfl ?_)
  have cf : ∀ x ∈ s, callX (W (k + 4)) n_is_chances [.p x, .p (.int 1), .p (.int 4)] M = some (.p (.bl (rowsB 1 4 x && (!true || chP x))), M) := fun x hx => by
    have := c_ischG k (lo := 1) (hi := 4) (by decide) hm (ht x hx) M
    rw [show (!true || chP x) = chP x from rfl]
    exact this
  generalize W (k + 4) = V at *
  have sE : ∀ M, src .enm [.p (.tup s)] M = some ⟨enumP 0 s, [], true⟩ := fun _ => rfl
  have g1 : (s.length : Int) = 4 := by omega
  obtain ⟨CC, hCC⟩ : ∃ CC, CC = P.tup [.tup [a, b], .tup [a, b]] := ⟨_, rfl⟩
  have sC : ∀ M, src .seq [.p CC] M = some ⟨[0, 1].map fun _ : Nat => P.tup [a, b], [], true⟩ := fun _ => by rw [hCC]; rfl
  rw [← hCC]
  have en : entry F_check_team_chances [.p CC, .p (.tup s)] = [some (.p CC), some (.p (.tup s)), none, none, none, none] := rfl
  rw [en]
  unfold F_check_team_chances
  rw [wp_cons]
  refine Wp.mono (P := fun o => o = .nx [some (.p CC), some (.p (.tup s)), some (.p (.int 1)), none, none, none] M) (by simp [-Option.bind_some]) ?_
  rintro o rfl
  rw [after_nx, wp_cons]
  obtain ⟨Q1, hQ1⟩ : ∃ Q1 : Out → Prop, Q1 = fun o => ∃ z3, o = .nx [some (.p CC), some (.p (.tup s)), some (.p (.int 4)), z3, none, none] M := ⟨_, rfl⟩
  refine Wp.mono (P := Q1) ?_ ?_
  · simp [-Option.bind_some, sC]
    refine lop_wpJ (fun _ : Nat => P.tup [a, b]) (fun pre r ρ M' => M' = M ∧ ∃ z3, ρ = [some (.p CC), some (.p (.tup s)), some (.p (.int (if pre.length = 0 then 1 else if pre.length = 1 then 2 else 4))), z3, none, none]) [0, 1] ⟨rfl, _, rfl⟩ ?_ ?_
    · rintro J Q hJ - pre x r ρ M' hr ⟨rfl, z3, rfl⟩
      have hp : pre.length = 0 ∨ pre.length = 1 := by
        have := congrArg List.length hr
        simp at this; omega
      have ag1 : augop .mul (.p (.int 1)) (.p (.int 2)) = some (.int 2) := rfl
      have ag2 : augop .mul (.p (.int 2)) (.p (.int 2)) = some (.int 4) := rfl
      rcases hp with hp | hp
      · simp [-Option.bind_some, hp, ag1]
        rw [hJ]
        exact ⟨rfl, _, by simp [hp]; rfl⟩
      · simp [-Option.bind_some, hp, ag2]
        rw [hJ]
        exact ⟨rfl, _, by simp [hp]; rfl⟩
    · rintro ρ M' ⟨rfl, z3, rfl⟩
      rw [hQ1]
      exact ⟨z3, rfl⟩
  rw [hQ1]
  rintro o ⟨z3, rfl⟩
  rw [after_nx]
  clear hQ1 Q1 sC hCC
  simp [-Option.bind_some, -src_enmT, -smallPs_cons, hlen, g1, sE, enum_id]
  refine lop_wpJ (fun q : P × Nat => P.tup [.int (q.2 : Int), q.1]) (fun pre r ρ M' => M' = M ∧ (∀ q ∈ pre, rowK 4 true (len0 s) q.1 = true) ∧ ∃ z1 z2, ρ = [some (.p CC), some (.p (.tup s)), some (.p (.int 4)), z3, z1, z2]) s.zipIdx ⟨rfl, fun q hq => by simp at hq, none, none, rfl⟩ ?_ ?_
  · rintro J Q hJ hQ pre q r ρ M' hr ⟨rfl, hp, z1, z2, rfl⟩
    obtain ⟨hq2, hes⟩ := zz hr
    have hqm : q.1 ∈ s := by rw [hes]; simp
    have hplen : pre.length < s.length := by
      have := congrArg List.length hes
      simp at this; omega
    have sm : smallPs [.str "chances", .int (q.2 : Int)] = true := smX (by decide +kernel) (by omega)
    have c := cf q.1 hqm
    have bad : rowK 4 true (len0 s) q.1 = false → roE 4 true s 4 = some (q.2 : Int) := fun hb => by
      unfold roE
      have := fi_some (f := rowK 4 true (len0 s)) (r := r.map (·.1)) (pre := pre.map (·.1)) (fun x hx => by
        obtain ⟨y, hy, rfl⟩ := List.mem_map.mp hx
        exact hp y hy) hb
      rw [← hes] at this
      rw [if_pos hlen, this, List.length_map, hq2]; rfl
    by_cases hf : (rowsB 1 4 q.1 && (!true || chP q.1)) = true
    · rw [hf] at c
      have hf2 := hf
      rw [Bool.and_eq_true] at hf2
      obtain ⟨l, hx⟩ := rowsB_tup hf2.1
      obtain ⟨l0, h0, h0l⟩ : ∃ l0, atx s 0 = some (.tup l0) ∧ l0.length = len0 s := by
        cases pre with
        | nil =>
          refine ⟨l, ?_, ?_⟩
          · rw [hes, ← hx]; exact atx_nat (i := 0) rfl
          · rw [hes]
            show _ = lenP q.1
            rw [hx]; rfl
        | cons p0 pre =>
          obtain ⟨l0, hl0⟩ := rowK_tup (hp p0 (List.mem_cons_self ..))
          refine ⟨l0, ?_, ?_⟩
          · rw [hes, ← hl0]; exact atx_nat (i := 0) rfl
          · rw [hes]
            show _ = lenP p0.1
            rw [hl0]; rfl
      have li : ∀ M, items M (.p q.1) = some l := fun M => by rw [hx]; rfl
      by_cases hn : l.length = len0 s
      · have good : rowK 4 true (len0 s) q.1 = true := by
          unfold rowK
          rw [hf, hx]
          show (true && decide (l.length = len0 s)) = true
          rw [decide_eq_true hn]; rfl
        simp [-Option.bind_some, -smallPs_cons, c, li, h0, h0l, hn]
        rw [hJ]
        exact ⟨rfl, fun y hy => by
          rcases List.mem_append.mp hy with hy | hy
          · exact hp y hy
          · rw [List.mem_singleton.mp hy]; exact good, _, _, rfl⟩
      · have hb : rowK 4 true (len0 s) q.1 = false := by
          unfold rowK
          rw [hf, hx]
          show (true && decide (l.length = len0 s)) = false
          rw [decide_eq_false hn]; rfl
        have hnI : ¬ (l.length : Int) = (len0 s : Int) := by omega
        simp [-Option.bind_some, -smallPs_cons, c, li, h0, h0l, hn, hnI, sm]
        rw [hQ, bad hb]
        exact ⟨[], by rw [List.append_nil]; rfl⟩
    · have hf' : (rowsB 1 4 q.1 && (!true || chP q.1)) = false := Bool.eq_false_iff.mpr hf
      rw [hf'] at c
      have hb : rowK 4 true (len0 s) q.1 = false := by unfold rowK; rw [hf']; rfl
      simp [-Option.bind_some, -smallPs_cons, c, sm]
      rw [hQ, bad hb]
      exact ⟨[], by rw [List.append_nil]; rfl⟩
  · rintro ρ M' ⟨rfl, hp, z1, z2, rfl⟩
    have hall : ∀ x ∈ s, rowK 4 true (len0 s) x = true := fun x hx => by
      have : s.zipIdx.map (·.1) = s := by simp
      rw [← this] at hx
      obtain ⟨y, hy, rfl⟩ := List.mem_map.mp hx
      exact hp y hy
    have e : roE 4 true s 4 = none := by
      unfold roE
      rw [if_pos hlen, fi_none hall]; rfl
    rw [e]
    simp [-Option.bind_some]
    rfl
theorem rowsJ_tm {a b c : Rat} (h1 : a ∈ chL) (h2 : b ∈ chL) (h3 : c ∈ chL) : ∀ x ∈ [row [1 - a, a], row [1 - b, b], row [1 - b, b], row [1 - c, c]], tm 2 6 x = true := fun x hx => by
  simp only [List.mem_cons, List.not_mem_nil, or_false] at hx
  rcases hx with rfl | rfl | rfl | rfl
  · exact tm_row (by decide) (by simp) (ch_row h1)
  · exact tm_row (by decide) (by simp) (ch_row h2)
  · exact tm_row (by decide) (by simp) (ch_row h2)
  · exact tm_row (by decide) (by simp) (ch_row h3)
def wr4 (a b c : Bool) : Option Int := if a then if b then if c then none else some 3 else some 1 else some 0
def jH (a b c : Rat) : List P := [row [1 - a, a], row [1 - b, b], row [1 - b, b], row [1 - c, c]]
def teamP (c a : Rat) (b d : Rat) : P := .tup [.tup [row [0, c], row [0, c]], .tup (jH a b d)]
theorem jH_due {a b c : Rat} (h1 : a ∈ chL) (h2 : b ∈ chL) (h3 : c ∈ chL) : roE 4 true (jH a b c) 4 = wr4 (icB a) (icB b) (icB c) := by
  have h : ∀ q ∈ chL, rowK 4 true 2 (row [1 - q, q]) = icB q := by decide +kernel
  have e : len0 (jH a b c) = 2 := rfl
  unfold roE
  rw [if_pos (show (jH a b c).length = 4 from rfl), e]
  unfold jH
  simp only [List.findIdx?_cons, List.findIdx?_nil, h a h1, h b h2, h c h3]
  cases icB a <;> cases icB b <;> cases icB c <;> rfl
theorem teamP_cl {c a b d : Rat} : (teamP c a b d).cl := fun n => by simp [teamP, jH]
theorem x_team (k : Nat) {c a b d : Rat} (hc : Bd 9 c) (h1 : a ∈ chL) (h2 : b ∈ chL) (h3 : d ∈ chL) (M : Mem) : IX.xcall (W := W (k + 6)) n_check_team [.p (teamP c a b d)] M = some (.p (exO "chances" (wr4 (icB a) (icB b) (icB d))), M) := by
  refine xcall_of (exO_cl _ _) (enterx F_check_team rfl rfl ?_)
  have x1 := x_tcosts k hc M
  have x2 := x_tchances k (a := fr 0) (b := fr c) (s := jH a b d) (j := 2) (m := 6) (by decide) (by simp [jH]) (rowsJ_tm h1 h2 h3) rfl M
  rw [jH_due h1 h2 h3] at x2
  generalize W (k + 5) = V at *
  generalize wr4 (icB a) (icB b) (icB d) = o at *
  have x2 : IX.xcall (W := V) n_check_team_chances [.p (.tup [row [0, c], row [0, c]]), .p (.tup (jH a b d))] M = some (.p (exO "chances" o), M) := x2
  have t0 : ∀ M, bfun .istup [.p (teamP c a b d)] M = some (.p (.bl true), M) := fun _ => rfl
  have i0 : ∀ M, index (.p (teamP c a b d)) (.p (.int 0)) M = some (.tup [row [0, c], row [0, c]]) := fun _ => by rfl
  have i1 : ∀ M, index (.p (teamP c a b d)) (.p (.int 1)) M = some (.tup (jH a b d)) := fun _ => by rfl
  have lt : ∀ M, items M (.p (teamP c a b d)) = some [.tup [row [0, c], row [0, c]], .tup (jH a b d)] := fun _ => rfl
  have en : entry F_check_team [.p (teamP c a b d)] = [some (.p (teamP c a b d))] := rfl
  rw [en]
  generalize teamP c a b d = T at *
  generalize jH a b d = H at *
  generalize row [0, c] = rc at *
  cases o with
  | none =>
    unfold exO at x2 ⊢
    simp [-Option.bind_some, -ix_tup, F_check_team, t0, i0, i1, lt, x1, x2]
  | some n =>
    unfold exO at x2 ⊢
    simp [-Option.bind_some, -ix_tup, F_check_team, t0, i0, i1, lt, x1, x2]
def wrJ (a b c : Bool) : Option (Str × Int) := (wr4 a b c).map fun n => (("chances" : Str), n)
theorem joint_body (k : Nat) {c a b d : Rat} (hc : Bd 9 c) (h1 : a ∈ chL) (h2 : b ∈ chL) (h3 : d ∈ chL) (M : Mem) {Q : Out → Prop} (q : RQ (wrJ (icB a) (icB b) (icB d)) (teamP c a b d) M Q) : Wp (evSs (W (k + 6)) G LL F_joint.body (entry F_joint [.p (fr c), .p (row [a, b, d])]) M) Q := by
  have xa := x_team k hc h1 h2 h3 M
  have cm : ∀ q ∈ chL, callX (W (k + 6)) n_minus [.p (.tup [.int 1, .int 1]), .p (fr q)] M = some (.p (fr (1 - q)), M) := fun q hq => c_minus (k + 3) (q := 1) (m := 9) ⟨by decide, by decide⟩ (chL_bd q hq) (by decide) (by decide) M
  have ca := cm a h1
  have cb := cm b h2
  have cd := cm d h3
  generalize W (k + 6) = V at *
  obtain ⟨q1, q2⟩ := q.fin
  unfold wrJ at q1 q2
  generalize wr4 (icB a) (icB b) (icB d) = o at *
  have i0 : ∀ M, index (.p (row [a, b, d])) (.p (.int 0)) M = some (fr a) := fun _ => by rfl
  have i1 : ∀ M, index (.p (row [a, b, d])) (.p (.int 1)) M = some (fr b) := fun _ => by rfl
  have i2 : ∀ M, index (.p (row [a, b, d])) (.p (.int 2)) M = some (fr d) := fun _ => by rfl
  have en : entry F_joint [.p (fr c), .p (row [a, b, d])] = [some (.p (fr c)), some (.p (row [a, b, d])), none, none, none] := rfl
  rw [en]
  generalize row [a, b, d] = R at *
  have f : gturns (gnx V G [2] (.tup [(.call n_minus [(.g "ONE"), (.idx (.v 1) (.v 2))] [0, 1]), (.idx (.v 1) (.v 2))]) (.nm 2) [] [some (.p (fr c)), some (.p R), none, none, none] M) [.int 0, .int 1, .int 1, .int 2] = some (jH a b d) := by
    have := gturns_map (F := gnx V G [2] (.tup [(.call n_minus [(.g "ONE"), (.idx (.v 1) (.v 2))] [0, 1]), (.idx (.v 1) (.v 2))]) (.nm 2) [] [some (.p (fr c)), some (.p R), none, none, none] M) (fun n : Nat => P.int (n : Int)) (fun n => row [1 - (if n = 0 then a else if n = 1 then b else d), if n = 0 then a else if n = 1 then b else d]) [0, 1, 1, 2] fun n hn => by
      have hn : n = 0 ∨ n = 1 ∨ n = 2 := by
        simp only [List.mem_cons, List.not_mem_nil, or_false] at hn
        omega
      rcases hn with rfl | rfl | rfl
      · simp [-Option.bind_some, -ix_tup, gnx, wipeE, hG1, i0, ca, row2, s2]
      · simp [-Option.bind_some, -ix_tup, gnx, wipeE, hG1, i1, cb, row2, s2]
      · simp [-Option.bind_some, -ix_tup, gnx, wipeE, hG1, i2, cd, row2, s2]
    exact this
  have ln : (jH a b d).length + 1 < sizeLine := by rw [show (jH a b d).length = 4 from rfl, szl]; decide
  unfold teamP at *
  rw [show row [0, c] = .tup [.tup [.int 0, .int 1], fr c] from rfl] at *
  generalize jH a b d = H at *
  have sz0 : 4 ≤ sizeLine := by rw [szl]; decide
  cases o with
  | none =>
    have q1 := q1 rfl
    unfold exO at xa
    simp [-Option.bind_some, -ix_tup, F_joint, f, ln, hG0, s2, sz0, xa]
    exact q1
  | some n =>
    have q2 := q2 _ n rfl
    unfold exO at xa
    simp [-Option.bind_some, -ix_tup, F_joint, f, ln, hG0, s2, sz0, xa]
    exact q2
theorem x_joint (k : Nat) {c a b d : Rat} (hc : Bd 9 c) (h1 : a ∈ chL) (h2 : b ∈ chL) (h3 : d ∈ chL) (M : Mem) : IX.xcall (W := W (k + 7)) n_joint [.p (fr c), .p (row [a, b, d])] M = some (.p (oX (wrJ (icB a) (icB b) (icB d)) (teamP c a b d)), M) :=
  x_of F_joint rfl rfl teamP_cl fun _ q => joint_body k hc h1 h2 h3 M q
theorem c_joint (k : Nat) {c a b d : Rat} (hc : Bd 9 c) (h1 : a ∈ chL) (h2 : b ∈ chL) (h3 : d ∈ chL) (ho : wrJ (icB a) (icB b) (icB d) = none) (M : Mem) : callX (W (k + 7)) n_joint [.p (fr c), .p (row [a, b, d])] M = some (.p (teamP c a b d), M) :=
  c_of F_joint rfl rfl teamP_cl ho fun _ q => joint_body k hc h1 h2 h3 M q

end K67
end

section
set_option linter.all false
set_option autoImplicit false
set_option maxRecDepth 10000
set_option exponentiation.threshold 100000
set_option maxHeartbeats 4000000
namespace K67
open PySem IX
def natP (n : Nat) : P := .int (n : Int)
theorem sum_set : ∀ (l : List Nat) (a : Nat) (h : a < l.length), (l.set a (l[a] + 1)).sum = l.sum + 1
  | [], a, h => by simp at h
  | x :: l, 0, h => by simp; omega
  | x :: l, a + 1, h => by
    have := sum_set l a (by simpa using h)
    simp at this ⊢
    omega
theorem sum_le {l : List Nat} {b : Nat} : (∀ x ∈ l, x ≤ b) → l.sum ≤ l.length * b := by
  induction l with
  | nil => intro _; simp
  | cons x l ih =>
    intro h
    have h1 := h x (by simp)
    have h2 := ih fun y hy => h y (by simp [hy])
    rw [List.sum_cons, List.length_cons, Nat.succ_mul]; omega
theorem sumI : ∀ l : List Nat, (l.map fun n : Nat => (n : Int)).sum = ((l.sum : Nat) : Int)
  | [] => rfl
  | x :: l => by rw [List.map_cons, List.sum_cons, List.sum_cons, sumI l]; omega
theorem d_row (k : Nat) {i l : Nat} {M : Mem} (hf : (Sta i l).F M) (n : Nat) (hn : 0 < n) (hn2 : n ≤ 10) : DrS (W (k + 3)) (Sta i l) M n__law_row [.p (.ref i), .p (.int (n : Int))] fun x => ∃ r : List Rat, x = row r ∧ Cha n r := by
  refine dr_ofS hf (enter F__law_row rfl rfl ?_)
  have d4 : ∀ {M : Mem}, (Sta i l).F M → DrS (W (k + 2)) (Sta i l) M n__law_take [.p (.ref i), .p (.int 4)] fun x => ∃ d : Nat, x = .int d ∧ d < 4 := fun hf => d_take k hf 4 (by decide) (lt9000 (by decide))
  have dn : ∀ {M : Mem}, (Sta i l).F M → DrS (W (k + 2)) (Sta i l) M n__law_take [.p (.ref i), .p (.int (n : Int))] fun x => ∃ d : Nat, x = .int d ∧ d < n := fun hf => d_take k hf n hn (lt9000 (by omega))
  have cf : ∀ (t w : Nat) (M : Mem), 0 < w → w ≤ 100 → callX (W (k + 2)) n__law_frac [.p (.int (t : Int)), .p (.int (w : Int))] M = some (.p (fr (mkRat t w)), M) := fun t w M h2 h3 => c_lfrac (k + 1) t w rfl h2 (lt9000 (by omega)) M
  generalize W (k + 2) = V at *
  have sm : small (n : Int) = true := by unfold small; simp; omega
  have en : entry F__law_row [.p (.ref i), .p (.int (n : Int))] = [some (.p (.ref i)), some (.p (.int (n : Int))), none, none, none] := rfl
  rw [en]
  unfold F__law_row
  rw [wp_cons]
  obtain ⟨Q1, hQ1⟩ : ∃ Q1 : Out → Prop, Q1 = fun o => ∃ (p : Nat) (cs : List Nat) (M1 : Mem), o = .nx [some (.p (.ref i)), some (.p (.int (n : Int))), none, some (.p (.ref p)), none] M1 ∧ M.length ≤ p ∧ p ∉ (Sta i l).S ∧ M1[p]? = some (cs.map natP) ∧ cs.length = n ∧ (∀ q ∈ cs, q < 4) ∧ (Sta i l).F M1 ∧ KpS (Sta i l).S M M1 := ⟨_, rfl⟩
  refine Wp.mono (P := Q1) ?_ ?_
  · simp [-Option.bind_some, src_rng1 sm, rangeP_map]
    refine (lcs_drawS (fun x : Nat => P.int (x : Int)) natP (fun q => q < 4) (fun _ => rfl) (List.range n) hf ?_).bind ?_
    · intro a ha M' fl kp
      simp [-Option.bind_some, lcx, wipeE]
      refine (d4 fl).use fun x M1 hx fl1 c1 => ?_
      obtain ⟨q, rfl, hq⟩ := hx
      simp [-Option.bind_some]
      exact ⟨q, rfl, hq, fl1, c1.kp⟩
    · rintro ⟨acc, M2⟩ ⟨qs, h1', h2, h3, fl2, kp2⟩
      dsimp only at h1' fl2 kp2
      subst h1'
      have hl : qs.length = n := by simpa using h2
      have nl2 : newl (qs.map natP) M2 = some (.p (.ref M2.length), M2 ++ [qs.map natP]) := newl_ok (by rw [List.length_map, hl, szl]; omega)
      simp [-Option.bind_some, nl2]
      rw [hQ1]
      exact ⟨M2.length, qs, M2 ++ [qs.map natP], rfl, kp2.1, Stt.nin fl2 (Nat.le_refl _), get_end _ _, hl, h3, Stt.app fl2 _, kp2.trans (KpS.app _ M2 _)⟩
  rw [hQ1]
  rintro o ⟨p, cs, M1, rfl, hp, hps, g1, hl, hq, fl1, kp1⟩
  rw [after_nx, wp_cons]
  obtain ⟨Q2, hQ2⟩ : ∃ Q2 : Out → Prop, Q2 = fun o => ∃ (cs : List Nat) (M1 : Mem), o = .nx [some (.p (.ref i)), some (.p (.int (n : Int))), none, some (.p (.ref p)), none] M1 ∧ M1[p]? = some (cs.map natP) ∧ cs.length = n ∧ 0 < cs.sum ∧ cs.sum ≤ 100 ∧ (Sta i l).F M1 ∧ KpS (Sta i l).S M M1 := ⟨_, rfl⟩
  refine Wp.mono (P := Q2) ?_ ?_
  · simp [-Option.bind_some]
    refine (dn fl1).use fun x M3 hx fl3 c3 => ?_
    obtain ⟨e, rfl, he⟩ := hx
    have e3 := c3.at hps g1
    have hdl : e < cs.length := by omega
    have ia : atx (cs.map natP) (e : Int) = some (.int ((cs[e] : Nat) : Int)) := atx_nat (by rw [List.getElem?_map, List.getElem?_eq_getElem hdl]; rfl)
    have se : seti (cs.map natP) (e : Int) (.int ((cs[e] : Nat) + 1 : Int)) = some ((cs.set e (cs[e] + 1)).map natP) := by
      rw [seti_nat (by simpa using hdl), List.map_set]; rfl
    have ag : ∀ x : Int, augop .add (.p (.int x)) (.p (.int 1)) = some (.int (x + 1)) := fun _ => rfl
    have hs := sum_set cs e hdl
    have hb := sum_le (b := 3) fun x hx => by have := hq x hx; omega
    rw [hl] at hb
    have hl2 : (cs.set e (cs[e] + 1)).length = n := by simpa using hl
    generalize cs.set e (cs[e] + 1) = cs2 at *
    simp [-Option.bind_some, e3, ia, se, ag]
    rw [hQ2]
    refine ⟨cs2, _, rfl, get_set e3, hl2, by omega, by omega, Stt.set fl3 hps _, (kp1.trans c3.kp).set hp _⟩
  rw [hQ2]
  rintro o ⟨cs, M2, rfl, g2, hl, hs0, hs1, fl2, kp2⟩
  rw [after_nx]
  have su : ∀ M, M[p]? = some (cs.map natP) → bfun .sum [.p (.ref p)] M = some (.p (.int ((cs.sum : Nat) : Int)), M) := fun M hg => by
    have e : intsP (cs.map natP) = some (cs.map fun n : Nat => (n : Int)) := intsP_map (fun n : Nat => (n : Int)) cs
    show ((M[p]?).bind fun xs => (intsP xs).bind fun is => one (.int is.sum) M) = _
    rw [hg]
    show (intsP (cs.map natP)).bind (fun is => one (.int is.sum) M) = _
    rw [e]
    show one (.int (cs.map fun n : Nat => (n : Int)).sum) M = _
    rw [sumI]; rfl
  obtain ⟨w, hw⟩ : ∃ w, w = cs.sum := ⟨_, rfl⟩
  rw [← hw] at su hs0 hs1
  have f : lcs V G [4] (.call n__law_frac [(.v 4), (.bi .sum [(.v 3)])] [0, 1]) (.nm 4) [] ⟨cs.map natP, [(p, cs.map natP)], true⟩ (cs.map natP) [some (.p (.ref i)), some (.p (.int (n : Int))), none, some (.p (.ref p)), none] M2 = some (cs.map (fun c => fr (mkRat (c : Nat) w)), M2) := lcs_map natP (fun c => fr (mkRat (c : Nat) w)) (by simp [g2]) cs fun c hc => by
    have h := cf c w M2 hs0 hs1
    have s := su M2 g2
    simp [-Option.bind_some, lcx, wipeE, natP, h, s]
  have nl3 : newl (cs.map fun c => fr (mkRat (c : Nat) w)) M2 = some (.p (.ref M2.length), M2 ++ [cs.map fun c => fr (mkRat (c : Nat) w)]) := newl_ok (by rw [List.length_map, hl, szl]; omega)
  have er : P.tup (cs.map fun c => fr (mkRat (c : Nat) w)) = row (cs.map fun c => mkRat (c : Nat) w) := by simp [row]
  simp [-Option.bind_some, g2, f, nl3]
  rw [er]
  refine ⟨row_cl _, ⟨_, rfl, by simp [hl], ?_, ?_, ?_⟩, Stt.app fl2 _, kp2.trans (KpS.app _ M2 _)⟩
  · intro q hq
    obtain ⟨c, hc, rfl⟩ := List.mem_map.mp hq
    have := le_sumN hc
    exact mk_bd hs0 (by rw [Int.natAbs_natCast]; omega) (by omega)
  · intro q hq
    obtain ⟨c, hc, rfl⟩ := List.mem_map.mp hq
    exact mkRat_nonneg w
  · rw [sum_parts w hs0 cs, ← hw, mkRat_self' w hs0]
def mdP (o : Option (Str × Int)) (x : P) : P := match o with
  | none => .tup [.str "told", x]
  | some (s, n) => .tup [.str "work", .str s, .int n]
theorem mdP_cl {o : Option (Str × Int)} {x : P} (h : x.cl) : (mdP o x).cl := by
  cases o with
  | none => exact fun n => by simp [mdP, h n]
  | some q => exact fun n => by simp [mdP]
theorem tm_okS {m : Nat} (hm : m ≤ 100000) : ∀ (k : Nat) (x : P), tm k m x = true → okS k x = true
  | k, .non, _ => by cases k <;> rfl
  | k, .bl _, _ => by cases k <;> rfl
  | k, .int _, _ => by cases k <;> rfl
  | k, .str s, h => by unfold tm at h; cases k <;> exact h
  | _, .ref _, h => by unfold tm at h; cases h
  | 0, .tup _, h => by unfold tm at h; cases h
  | k + 1, .tup l, h => by
    have h2 := tm_tup h
    exact okS_tup (by omega) fun x hx => tm_okS hm k x (h2.2 x hx)
theorem mdP_ok {o : Option (Str × Int)} {x : P} {k : Nat} (h : okS k x = true) (ho : ∀ s n, o = some (s, n) → s = "chances" ∨ s = "costs") : okS (k + 1) (mdP o x) = true := by
  have st : ∀ {s : Str}, PyData.strOk s = true → okS k (.str s) = true := fun {s} hs => by
    clear h
    cases k <;> exact hs
  cases o with
  | none =>
    refine okS_tup (by simp) fun y hy => ?_
    simp only [List.mem_cons, List.not_mem_nil, or_false] at hy
    rcases hy with rfl | rfl
    · exact st (by decide +kernel)
    · exact h
  | some q =>
    obtain ⟨s, n⟩ := q
    refine okS_tup (by simp) fun y hy => ?_
    simp only [List.mem_cons, List.not_mem_nil, or_false] at hy
    rcases hy with rfl | rfl | rfl
    · exact st (by decide +kernel)
    · rcases ho _ n rfl with rfl | rfl
      · exact st (by decide +kernel)
      · exact st (by decide +kernel)
    · cases k <;> rfl
theorem c_made {V : Wd} {k : Nat} {a b c : P} {w : Int} {o : Option (Str × Int)} {x : P} {M : Mem} (hc : x.cl) (hV : V = W (k + 1)) (hw : (w = 0 ∧ IX.xcall (W := W k) n_two_acts [.p a, .p b, .p c] M = some (.p (oX o x), M)) ∨ (w = 1 ∧ IX.xcall (W := W k) n_told_acts [.p a] M = some (.p (oX o x), M)) ∨ (w = 2 ∧ IX.xcall (W := W k) n_blind [.p a] M = some (.p (oX o x), M)) ∨ (w = 3 ∧ IX.xcall (W := W k) n_joint [.p a, .p b] M = some (.p (oX o x), M))) : callX V n__law_made [.p (.int w), .p a, .p b, .p c] M = some (.p (mdP o x), M) := by
  subst hV
  refine (pure_of (mdP_cl hc) (enter F__law_made rfl rfl ?_)).call
  generalize W k = V at *
  unfold F__law_made
  rw [wp_cons]
  refine wp_try ?_
  rcases hw with ⟨rfl, hw⟩ | ⟨rfl, hw⟩ | ⟨rfl, hw⟩ | ⟨rfl, hw⟩
  all_goals
    cases o with
    | none =>
      unfold oX at hw
      simp [-Option.bind_some, entry, hw]
      rfl
    | some q =>
      obtain ⟨s, n⟩ := q
      unfold oX at hw
      simp [-Option.bind_some, entry, hw]
      rfl

end K67
end

section
set_option linter.all false
set_option autoImplicit false
set_option maxRecDepth 10000
set_option exponentiation.threshold 100000
set_option maxHeartbeats 4000000
namespace K67
open PySem IX
theorem Bd49 {q : Rat} (h : Bd 4 q) : Bd 9 q := h.mono (by decide)
/-- the numbers of what is no chance -/
def wlP (l : List Nat) : Option (Str × Int) := match l with
  | [] => none
  | n :: _ => some (("chances" : Str), (n : Int))
theorem wlP_s {l : List Nat} : ∀ s n, wlP l = some (s, n) → s = "chances" ∨ s = "costs" := fun s n h => by
  cases l with
  | nil => cases h
  | cons a l => cases h; exact .inl rfl
theorem d_two (k : Nat) {i l : Nat} {M : Mem} (hf : (Sta i l).F M) : DrS (W (k + 10)) (Sta i l) M n__law_two_right [.p (.ref i)] fun x => x = .bl true := by
  refine dr_ofS hf (enter F__law_two_right rfl rfl ?_)
  have dco : ∀ {M : Mem}, (Sta i l).F M → DrS (W (k + 9)) (Sta i l) M n__law_cost [.p (.ref i)] fun x => ∃ q, x = fr q ∧ Bd 4 q := fun hf => d_cost (k + 6) hf
  have dch : ∀ {M : Mem}, (Sta i l).F M → DrS (W (k + 9)) (Sta i l) M n__law_chance [.p (.ref i)] fun x => ∃ q, x = fr q ∧ q ∈ chL := fun hf => d_chance (k + 5) hf
  have co : ∀ q M, callX (W (k + 9)) n__law_other [.p (fr q)] M = some (.p (fr (1 - q)), M) := fun q M => c_other (k + 8) q M
  have ci : ∀ q M, callX (W (k + 9)) n__law_is_chance [.p (fr q)] M = some (.p (.bl (icB q)), M) := fun q M => c_isch (k + 8) q M
  have cm : ∀ (c h l : Rat) M, Bd 4 c → h ∈ chL → l ∈ chL → callX (W (k + 9)) n__law_made [.p (.int 0), .p (fr c), .p (fr h), .p (fr l)] M = some (.p (mdP (wr2 (icB l) (icB h)) (loneP (row [0, c]) (twoH h l))), M) := fun c h l M h0 h1 h2 => c_made (k := k + 8) (tm_cl _ _ (two_tm (Bd49 h0) h1 h2)) rfl (.inl ⟨rfl, x_two k (Bd49 h0) h1 h2 M⟩)
  have c2 : ∀ (c h l : Rat) M, Bd 4 c → h ∈ chL → l ∈ chL → wr2 (icB l) (icB h) = none → callX (W (k + 9)) n_two_acts [.p (fr c), .p (fr h), .p (fr l)] M = some (.p (loneP (row [0, c]) (twoH h l)), M) := fun c h l M h0 h1 h2 h3 => c_two (k + 1) (Bd49 h0) h1 h2 h3 M
  have sm : ∀ x, okS 5 x = true → ∀ M, callX (W (k + 9)) n__law_same [.p x, .p x] M = some (.p (.bl true), M) := fun x h M => c_same (k + 3) 5 x h M
  have sm4 : ∀ x, okS 4 x = true → ∀ M, callX (W (k + 9)) n__law_same [.p x, .p x] M = some (.p (.bl true), M) := fun x h M => c_same (k + 4) 4 x h M
  generalize W (k + 9) = V at *
  have en : entry F__law_two_right [.p (.ref i)] = [some (.p (.ref i)), none, none, none, none, none, none] := rfl
  rw [en]
  unfold F__law_two_right
  rw [wp_cons]
  obtain ⟨Q1, hQ1⟩ : ∃ Q1 : Out → Prop, Q1 = fun o => ∃ (c h e : Rat) (M1 : Mem), o = .nx [some (.p (.ref i)), some (.p (fr c)), some (.p (fr h)), some (.p (fr e)), none, none, none] M1 ∧ Bd 4 c ∧ h ∈ chL ∧ e ∈ chL ∧ (Sta i l).F M1 ∧ KpS (Sta i l).S M M1 := ⟨_, rfl⟩
  refine Wp.mono (P := Q1) ?_ ?_
  · simp [-Option.bind_some]
    refine (dco hf).use fun x M1 hx fl1 c1 => ?_
    obtain ⟨c, rfl, hc⟩ := hx
    simp [-Option.bind_some]
    refine (dch fl1).use fun x M2 hx fl2 c2 => ?_
    obtain ⟨h, rfl, hh⟩ := hx
    simp [-Option.bind_some]
    refine (dch fl2).use fun x M3 hx fl3 c3 => ?_
    obtain ⟨e, rfl, he⟩ := hx
    simp [-Option.bind_some, s3]
    rw [hQ1]
    exact ⟨c, h, e, M3, rfl, hc, hh, he, fl3, ((c1.trans c2).trans c3).kp⟩
  rw [hQ1]
  rintro o ⟨c, h, e, M1, rfl, hc, hh, he, fl1, kp1⟩
  rw [after_nx]
  clear hQ1 Q1 dco dch
  have cm1 := fun M => cm c h e M hc hh he
  have c21 := fun M => c2 c h e M hc hh he
  have okX : okS 4 (loneP (row [0, c]) (twoH h e)) = true := tm_okS (by decide) _ _ (two_tm (Bd49 hc) hh he)
  have f : lcs V G [5] (.v 5) (.nm 5) [(.not (.tru (.call n__law_is_chance [(.idx (.tup [(.v 3), (.v 2)]) (.v 5))] [0])))] ⟨(List.range 2).map fun a : Nat => P.int (a : Int), [], true⟩ ((List.range 2).map fun a : Nat => P.int (a : Int)) [some (.p (.ref i)), some (.p (fr c)), some (.p (fr h)), some (.p (fr e)), some (.p (.tup [.str "told", loneP (row [0, c]) (twoH h e)])), none, none] M1 = some (((List.range 2).filter fun a => !(icB (if a = 0 then e else h))).map fun a : Nat => P.int (a : Int), M1) := lcs_filter (fun a : Nat => P.int (a : Int)) (fun a : Nat => P.int (a : Int)) (fun a => !(icB (if a = 0 then e else h))) rfl (List.range 2) fun a ha => by
    have ha : a = 0 ∨ a = 1 := by
      have := List.mem_range.mp ha
      omega
    rcases ha with rfl | rfl
    · have c := ci e M1
      cases hb : icB e <;> simp [-Option.bind_some, lcx, wipeE, s2, hb, c]
    · have c := ci h M1
      cases hb : icB h <;> simp [-Option.bind_some, lcx, wipeE, s2, hb, c]
  have ew : wr2 (icB e) (icB h) = wlP ((List.range 2).filter fun a => !(icB (if a = 0 then e else h))) := by
    show _ = wlP ([0, 1].filter fun a => !(icB (if a = 0 then e else h)))
    cases h1 : icB e <;> cases h2 : icB h <;> simp [wr2, wlP, h1, h2]
  have lw : ((List.range 2).filter fun a => !(icB (if a = 0 then e else h))).length ≤ 2 := by
    have := List.length_filter_le (fun a => !(icB (if a = 0 then e else h))) (List.range 2)
    simpa using this
  generalize ((List.range 2).filter fun a => !(icB (if a = 0 then e else h))) = w at *
  rw [ew] at cm1 c21
  have eX : P.tup [P.tup [.tup [.int 1, .int 1]], P.tup [P.tup [P.tup [.int 0, .int 1], fr c]], P.tup [P.tup [fr (1 - e), fr e], P.tup [fr (1 - h), fr h]]] = loneP (row [0, c]) (twoH h e) := rfl
  have okM := mdP_ok (k := 4) okX (wlP_s (l := w))
  generalize loneP (row [0, c]) (twoH h e) = X at *
  have sm2 : small 2 = true := by decide
  have nl : newl (w.map fun a : Nat => P.int (a : Int)) M1 = some (.p (.ref M1.length), M1 ++ [w.map fun a : Nat => P.int (a : Int)]) := newl_ok (by rw [List.length_map, szl]; omega)
  have g := get_end M1 (w.map fun a : Nat => P.int (a : Int))
  have fl2 : (Sta i l).F (M1 ++ [w.map fun a : Nat => P.int (a : Int)]) := Stt.app fl1 _
  have kp2 : KpS (Sta i l).S M (M1 ++ [w.map fun a : Nat => P.int (a : Int)]) := kp1.trans (KpS.app _ _ _)
  generalize M1 ++ [w.map fun a : Nat => P.int (a : Int)] = M2 at *
  generalize M1.length = p at *
  cases w with
  | nil =>
    unfold wlP mdP at *
    have e1 := sm _ okM
    have e2 := sm4 _ okX
    have c22 := fun M => c21 M rfl
    simp [-Option.bind_some, co, s1, s2, s3, eX, src_rng1 sm2, rangeP_map] at f nl g ⊢
    simp [-Option.bind_some, f, nl, g, cm1, c22, e1, e2]
    exact ⟨cl_bl _, fl2, kp2⟩
  | cons a w =>
    unfold wlP mdP at *
    have e1 := sm _ okM
    simp [-Option.bind_some, co, s1, s2, s3, eX, src_rng1 sm2, rangeP_map] at f nl g ⊢
    simp [-Option.bind_some, f, nl, g, cm1, e1, s3]
    exact ⟨cl_bl _, fl2, kp2⟩
theorem wrN_s {n : Nat} : ∀ s k, wrN n = some (s, k) → s = "chances" ∨ s = "costs" := fun s k h => by
  unfold wrN at h
  split at h
  · cases h
  · cases h; exact .inr rfl
theorem str_eq {s t : Str} (hs : PyData.strOk s = true) (ht : PyData.strOk t = true) (M : Mem) : cmpop .eq (.p (.str s)) (.p (.str t)) M = some ((P.str s).eqv (.str t)) := by
  show (if (P.str s).fit 64 && (P.str t).fit 64 then some ((P.str s).eqv (.str t)) else none) = _
  have f : (P.str s).fit 64 = true := by simp [P.fit, hs]
  have g : (P.str t).fit 64 = true := by simp [P.fit, ht]
  rw [f, g]; rfl
theorem told_work (M : Mem) : cmpop .eq (.p (.str "told")) (.p (.str "work")) M = some false := by
  rw [str_eq (by decide +kernel) (by decide +kernel)]; decide +kernel
theorem work_work (M : Mem) : cmpop .eq (.p (.str "work")) (.p (.str "work")) M = some true := by
  rw [str_eq (by decide +kernel) (by decide +kernel)]; decide +kernel
theorem d_told (k : Nat) {i l : Nat} {M : Mem} (hf : (Sta i l).F M) : DrS (W (k + 10)) (Sta i l) M n__law_told_right [.p (.ref i)] fun x => x = .bl true := by
  refine dr_ofS hf (enter F__law_told_right rfl rfl ?_)
  have dco : ∀ {M : Mem}, (Sta i l).F M → DrS (W (k + 9)) (Sta i l) M n__law_cost [.p (.ref i)] fun x => ∃ q, x = fr q ∧ Bd 4 q := fun hf => d_cost (k + 6) hf
  have d6 : ∀ {M : Mem}, (Sta i l).F M → DrS (W (k + 9)) (Sta i l) M n__law_take [.p (.ref i), .p (.int 6)] fun x => ∃ d : Nat, x = .int d ∧ d < 6 := fun hf => d_take (k + 7) hf 6 (by decide) (lt9000 (by decide))
  have c1m : ∀ (cs : List Rat) (y z : P) M, cs.length ≤ 6 → AllB 4 cs → callX (W (k + 9)) n__law_made [.p (.int 1), .p (row cs), .p y, .p z] M = some (.p (mdP (wrN cs.length) (loneP (row cs) (toldH cs.length))), M) := fun cs y z M h1 h2 => c_made (k := k + 8) (tm_cl _ _ (told_tm h1 (h2.mono (by decide)))) rfl (.inr (.inl ⟨rfl, x_told k h1 (h2.mono (by decide)) M⟩))
  have c2m : ∀ (cs : List Rat) (y z : P) M, cs.length ≤ 6 → AllB 4 cs → callX (W (k + 9)) n__law_made [.p (.int 2), .p (row cs), .p y, .p z] M = some (.p (mdP (wrN cs.length) (loneP (row cs) (blindH cs.length))), M) := fun cs y z M h1 h2 => c_made (k := k + 8) (tm_cl _ _ (blind_tm h1 (h2.mono (by decide)))) rfl (.inr (.inr (.inl ⟨rfl, x_blind k h1 (h2.mono (by decide)) M⟩)))
  have c1p : ∀ (cs : List Rat) M, cs.length ≤ 6 → AllB 4 cs → wrN cs.length = none → callX (W (k + 9)) n_told_acts [.p (row cs)] M = some (.p (loneP (row cs) (toldH cs.length)), M) := fun cs M h1 h2 h3 => c_toldA (k + 1) h1 (h2.mono (by decide)) h3 M
  have c2p : ∀ (cs : List Rat) M, cs.length ≤ 6 → AllB 4 cs → wrN cs.length = none → callX (W (k + 9)) n_blind [.p (row cs)] M = some (.p (loneP (row cs) (blindH cs.length)), M) := fun cs M h1 h2 h3 => c_blind (k + 1) h1 (h2.mono (by decide)) h3 M
  have sm5 : ∀ x, okS 5 x = true → ∀ M, callX (W (k + 9)) n__law_same [.p x, .p x] M = some (.p (.bl true), M) := fun x h M => c_same (k + 3) 5 x h M
  generalize W (k + 9) = V at *
  have en : entry F__law_told_right [.p (.ref i)] = [some (.p (.ref i)), none, none, none, none, none, none, none] := rfl
  rw [en]
  unfold F__law_told_right
  rw [wp_cons]
  obtain ⟨Q1, hQ1⟩ : ∃ Q1 : Out → Prop, Q1 = fun o => ∃ (cs : List Rat) (M1 : Mem), o = .nx [some (.p (.ref i)), none, some (.p (row cs)), none, none, none, none, none] M1 ∧ cs.length ≤ 5 ∧ AllB 4 cs ∧ (Sta i l).F M1 ∧ KpS (Sta i l).S M M1 := ⟨_, rfl⟩
  refine Wp.mono (P := Q1) ?_ ?_
  · simp [-Option.bind_some]
    refine (d6 hf).use fun x M1 hx fl1 c1 => ?_
    obtain ⟨n, rfl, hn⟩ := hx
    have sm : small (n : Int) = true := by unfold small; simp; omega
    simp [-Option.bind_some, src_rng1 sm, rangeP_map]
    refine (lcs_drawS (fun x : Nat => P.int (x : Int)) fr (fun q => Bd 4 q) (fun _ => rfl) (List.range n) fl1 ?_).bind ?_
    · intro a ha M' fl kp
      simp [-Option.bind_some, lcx, wipeE]
      refine (dco fl).use fun x M1 hx fl1 c1 => ?_
      obtain ⟨q, rfl, hq⟩ := hx
      simp [-Option.bind_some]
      exact ⟨q, rfl, hq, fl1, c1.kp⟩
    · rintro ⟨acc, M2⟩ ⟨qs, h1', h2, h3, fl2, kp2⟩
      dsimp only at h1' fl2 kp2
      subst h1'
      have hl : qs.length = n := by simpa using h2
      have nl2 : newl (qs.map fr) M2 = some (.p (.ref M2.length), M2 ++ [qs.map fr]) := newl_ok (by rw [List.length_map, hl, szl]; omega)
      have g2 := get_end M2 (qs.map fr)
      simp [-Option.bind_some, nl2, g2]
      rw [hQ1]
      exact ⟨qs, _, rfl, by omega, h3, Stt.app fl2 _, (c1.kp.trans kp2).trans (KpS.app _ M2 _)⟩
  rw [hQ1]
  rintro o ⟨cs, M1, rfl, hl, hb, fl1, kp1⟩
  rw [after_nx]
  clear hQ1 Q1 dco d6
  have hl6 : cs.length ≤ 6 := by omega
  have ct1 := fun y z M => c1m cs y z M hl6 hb
  have ct2 := fun y z M => c2m cs y z M hl6 hb
  have cp1 := fun M => c1p cs M hl6 hb
  have cp2 := fun M => c2p cs M hl6 hb
  have ok1 : okS 4 (loneP (row cs) (toldH cs.length)) = true := tm_okS (by decide) _ _ (told_tm hl6 (hb.mono (by decide)))
  have ok2 : okS 4 (loneP (row cs) (blindH cs.length)) = true := tm_okS (by decide) _ _ (blind_tm hl6 (hb.mono (by decide)))
  have km1 := sm5 _ (mdP_ok (k := 4) ok1 (wrN_s (n := cs.length)))
  have km2 := sm5 _ (mdP_ok (k := 4) ok2 (wrN_s (n := cs.length)))
  have kp := sm5 (.tup [loneP (row cs) (toldH cs.length), loneP (row cs) (blindH cs.length)]) (okS_tup (by simp) fun x hx => by
    simp only [List.mem_cons, List.not_mem_nil, or_false] at hx
    rcases hx with rfl | rfl
    · exact ok1
    · exact ok2)
  have li : ∀ M, items M (.p (row cs)) = some (cs.map fr) := fun _ => rfl
  have lcs' : (cs.map fr).length = cs.length := by simp
  generalize cs.length = n at *
  have sm : small (n : Int) = true := by unfold small; simp; omega
  by_cases h4 : 1 ≤ n ∧ n ≤ 4
  · have ew : wrN n = none := by unfold wrN; rw [if_pos h4]
    rw [ew] at ct1 ct2 km1 km2
    have cp1 := fun M => cp1 M ew
    have cp2 := fun M => cp2 M ew
    have b1 : (0 : Int) < (n : Int) := by omega
    have b1' : 0 < n := by omega
    have b2 : (n : Int) < 5 := by omega
    obtain ⟨Y, f⟩ := lcs_app (W := V) (G := G) (ρ := [some (.p (.ref i)), none, some (.p (row cs)), some (.p (.int (n : Int))), some (.p (.tup [.str "work", .str "costs", .int 0])), some (.p (.tup [.str "work", .str "costs", .int 0])), none, none]) (s := ⟨(List.range n).map fun b : Nat => P.int (b : Int), [], true⟩) (M := M1) (vs := [7]) (elt := .bi .tuple [(.lc [6] (.tup [(.bi .int [(.cmp .eq (.v 6) (.v 7))]), (.c (.int 1))]) (.nm 6) .rng [(.v 3)] [])]) (t := .nm 7) (ifs := []) (fun x : Nat => P.int (x : Int)) (fun a => row (unitR n a)) (fun _ => rfl) (List.range n) fun a _ X => by
      have f2 : lcs V G [6] (.tup [(.bi .int [(.cmp .eq (.v 6) (.v 7))]), (.c (.int 1))]) (.nm 6) [] ⟨(List.range n).map fun b : Nat => P.int (b : Int), [], true⟩ ((List.range n).map fun b : Nat => P.int (b : Int)) [some (.p (.ref i)), none, some (.p (row cs)), some (.p (.int (n : Int))), some (.p (.tup [.str "work", .str "costs", .int 0])), some (.p (.tup [.str "work", .str "costs", .int 0])), none, some (.p (.int (a : Int)))] (M1 ++ X) = some ((unitR n a).map fr, M1 ++ X) := by
        rw [lcs_map (fun x : Nat => P.int (x : Int)) (fun r => fr (if r = a then 1 else 0)) rfl (List.range n) fun r _ => by
          by_cases h : r = a
          · subst h
            simp [-Option.bind_some, lcx, wipeE, s2]
            rfl
          · have h' : ¬ ((r : Int) = (a : Int)) := by omega
            simp [-Option.bind_some, lcx, wipeE, s2, h, h']
            rfl]
        unfold unitR
        rw [List.map_map]; rfl
      have lu : ((unitR n a).map fr).length = n := by rw [List.length_map, unitR_len]
      generalize hu : (unitR n a).map fr = u at *
      have nl : newl u (M1 ++ X) = some (.p (.ref (M1 ++ X).length), (M1 ++ X) ++ [u]) := newl_ok (by rw [lu, szl]; omega)
      have g := get_end (M1 ++ X) u
      have er : P.tup u = row (unitR n a) := by rw [← hu]; rfl
      refine ⟨X ++ [u], ?_⟩
      rw [← List.append_assoc]
      generalize (M1 ++ X) ++ [u] = M3 at *
      generalize M1 ++ X = M2 at *
      simp [-Option.bind_some, lcx, wipeE, src_rng1 sm, rangeP_map, f2, nl, g, er]
    have fl2 : (Sta i l).F (M1 ++ Y) := Stt.app fl1 _
    have kp2 : KpS (Sta i l).S M (M1 ++ Y) := kp1.trans (KpS.app _ _ _)
    generalize M1 ++ Y = M2 at *
    have nl : newl ((List.range n).map fun a => row (unitR n a)) M2 = some (.p (.ref M2.length), M2 ++ [(List.range n).map fun a => row (unitR n a)]) := newl_ok (by rw [List.length_map, List.length_range, szl]; omega)
    have g := get_end M2 ((List.range n).map fun a => row (unitR n a))
    have fl3 : (Sta i l).F (M2 ++ [(List.range n).map fun a => row (unitR n a)]) := Stt.app fl2 _
    have kp3 : KpS (Sta i l).S M (M2 ++ [(List.range n).map fun a => row (unitR n a)]) := kp2.trans (KpS.app _ _ _)
    have e1 : P.tup [P.tup [.tup [.int 1, .int 1]], P.tup [row cs], P.tup ((List.range n).map fun a => row (unitR n a))] = loneP (row cs) (toldH n) := rfl
    have e2 : P.tup [P.tup [.tup [.int 1, .int 1]], P.tup [row cs], P.tup (List.replicate n (.tup [.tup [.int 1, .int 1]]))] = loneP (row cs) (blindH n) := rfl
    generalize M2 ++ [(List.range n).map fun a => row (unitR n a)] = M3 at *
    have rp : ∀ M, binop .mul (.p (.tup [.tup [.tup [.int 1, .int 1]]])) (.p (.int (n : Int))) M = some (.p (.tup (List.replicate n (.tup [.tup [.int 1, .int 1]]))), M) := fun M => by
      rw [b_mulT, if_pos (by simp; omega), Int.toNat_natCast, rep_one]
    generalize hU : ((List.range n).map fun a => row (unitR n a)) = U at *
    generalize hB : List.replicate n (P.tup [.tup [.int 1, .int 1]]) = B at *
    generalize loneP (row cs) (toldH n) = X1 at *
    generalize loneP (row cs) (blindH n) = X2 at *
    generalize cs.map fr = css at *
    generalize row cs = rc at *
    unfold mdP at *
    simp [-Option.bind_some, -b_mulT, li, lcs', s1, s2, s3, b1, b1', b2, src_rng1 sm, rangeP_map] at f nl g ⊢
    simp [-Option.bind_some, -b_mulT, f, nl, g, rp, s1, s2, s3, e1, e2, ct1, ct2, km1, km2, cp1, cp2, kp, told_work]
    exact ⟨cl_bl _, fl3, kp3⟩
  · have ew : wrN n = some (("costs" : Str), 0) := by unfold wrN; rw [if_neg h4]
    rw [ew] at ct1 ct2 km1 km2
    unfold mdP at *
    generalize loneP (row cs) (toldH n) = X1 at *
    generalize loneP (row cs) (blindH n) = X2 at *
    generalize cs.map fr = css at *
    generalize row cs = rc at *
    have h5 : n = 0 ∨ n = 5 := by omega
    rcases h5 with rfl | rfl
    · simp [-Option.bind_some, li, lcs', s1, s2, s3, ct1, ct2, km1, km2, work_work]
      exact ⟨cl_bl _, fl1, kp1⟩
    · simp [-Option.bind_some, li, lcs', s1, s2, s3, ct1, ct2, km1, km2, work_work]
      exact ⟨cl_bl _, fl1, kp1⟩
theorem dr_twins (k : Nat) {i l : Nat} {M : Mem} (hf : (Sta i l).F M) : DrS (W (k + 10)) (Sta i l) M n__law_twins_right [.p (.ref i)] fun x => x = .bl true := by
  refine dr_ofS hf (enter F__law_twins_right rfl rfl ?_)
  have dco : ∀ {M : Mem}, (Sta i l).F M → DrS (W (k + 9)) (Sta i l) M n__law_cost [.p (.ref i)] fun x => ∃ q, x = fr q ∧ Bd 4 q := fun hf => d_cost (k + 6) hf
  have d4 : ∀ {M : Mem}, (Sta i l).F M → DrS (W (k + 9)) (Sta i l) M n__law_take [.p (.ref i), .p (.int 4)] fun x => ∃ d : Nat, x = .int d ∧ d < 4 := fun hf => d_take (k + 7) hf 4 (by decide) (lt9000 (by decide))
  have d6 : ∀ {M : Mem}, (Sta i l).F M → DrS (W (k + 9)) (Sta i l) M n__law_take [.p (.ref i), .p (.int 6)] fun x => ∃ d : Nat, x = .int d ∧ d < 6 := fun hf => d_take (k + 7) hf 6 (by decide) (lt9000 (by decide))
  have dr : ∀ {M : Mem} {n : Nat}, 0 < n → n ≤ 10 → (Sta i l).F M → DrS (W (k + 9)) (Sta i l) M n__law_row [.p (.ref i), .p (.int (n : Int))] fun x => ∃ r : List Rat, x = row r ∧ Cha n r := fun {M n} h1 h2 hf => d_row (k + 6) hf n h1 h2
  have ct : ∀ {cs : List Rat} {T : List (List Rat)} {n : Nat}, 1 ≤ cs.length → cs.length ≤ 4 → AllB 4 cs → T.length = cs.length → 1 ≤ n → n ≤ 6 → (∀ r ∈ T, Cha n r) → ∀ M, callX (W (k + 9)) n_twins [.p (workP (row cs) (T.map row))] M = some (.p (twinP (row cs) (T.map row)), M) := fun h1 h2 h3 h4 h5 h6 h7 M => c_twins (k + 2) h1 h2 (h3.mono (by decide)) h4 h5 h6 h7 M
  have sm4 : ∀ x, okS 4 x = true → ∀ M, callX (W (k + 9)) n__law_same [.p x, .p x] M = some (.p (.bl true), M) := fun x h M => c_same (k + 4) 4 x h M
  generalize W (k + 9) = V at *
  have en : entry F__law_twins_right [.p (.ref i)] = [some (.p (.ref i)), none, none, none, none, none, none, none] := rfl
  rw [en]
  unfold F__law_twins_right
  rw [wp_cons]
  obtain ⟨Q1, hQ1⟩ : ∃ Q1 : Out → Prop, Q1 = fun o => ∃ (a r : Nat) (M1 : Mem), o = .nx [some (.p (.ref i)), some (.p (.int (a : Int))), some (.p (.int (r : Int))), none, none, none, none, none] M1 ∧ 1 ≤ a ∧ a ≤ 4 ∧ 1 ≤ r ∧ r ≤ 6 ∧ (Sta i l).F M1 ∧ KpS (Sta i l).S M M1 := ⟨_, rfl⟩
  refine Wp.mono (P := Q1) ?_ ?_
  · simp [-Option.bind_some]
    refine (d4 hf).use fun x M1 hx fl1 c1 => ?_
    obtain ⟨a, rfl, ha⟩ := hx
    simp [-Option.bind_some]
    refine (d6 fl1).use fun x M2 hx fl2 c2 => ?_
    obtain ⟨r, rfl, hr⟩ := hx
    simp [-Option.bind_some, s2]
    rw [hQ1]
    refine ⟨1 + a, 1 + r, M2, ?_, by omega, by omega, by omega, by omega, fl2, (c1.trans c2).kp⟩
    rw [show ((1 + a : Nat) : Int) = 1 + (a : Int) by omega, show ((1 + r : Nat) : Int) = 1 + (r : Int) by omega]
  rw [hQ1]
  rintro o ⟨a, r, M1, rfl, ha1, ha4, hr1, hr6, fl1, kp1⟩
  rw [after_nx, wp_cons]
  clear hQ1 Q1 d4 d6
  have sma : small (a : Int) = true := by unfold small; simp; omega
  obtain ⟨Q1, hQ1⟩ : ∃ Q1 : Out → Prop, Q1 = fun o => ∃ (cs : List Rat) (M1 : Mem), o = .nx [some (.p (.ref i)), some (.p (.int (a : Int))), some (.p (.int (r : Int))), none, some (.p (row cs)), none, none, none] M1 ∧ cs.length = a ∧ AllB 4 cs ∧ (Sta i l).F M1 ∧ KpS (Sta i l).S M M1 := ⟨_, rfl⟩
  refine Wp.mono (P := Q1) ?_ ?_
  · simp [-Option.bind_some, src_rng1 sma, rangeP_map]
    refine (lcs_drawS (fun x : Nat => P.int (x : Int)) fr (fun q => Bd 4 q) (fun _ => rfl) (List.range a) fl1 ?_).bind ?_
    · intro a ha M' fl kp
      simp [-Option.bind_some, lcx, wipeE]
      refine (dco fl).use fun x M1 hx fl1 c1 => ?_
      obtain ⟨q, rfl, hq⟩ := hx
      simp [-Option.bind_some]
      exact ⟨q, rfl, hq, fl1, c1.kp⟩
    · rintro ⟨acc, M2⟩ ⟨qs, h1', h2, h3, fl2, kp2⟩
      dsimp only at h1' fl2 kp2
      subst h1'
      have hl : qs.length = a := by simpa using h2
      have nl2 : newl (qs.map fr) M2 = some (.p (.ref M2.length), M2 ++ [qs.map fr]) := newl_ok (by rw [List.length_map, hl, szl]; omega)
      have g2 := get_end M2 (qs.map fr)
      simp [-Option.bind_some, nl2, g2]
      rw [hQ1]
      exact ⟨qs, _, rfl, hl, h3, Stt.app fl2 _, (kp1.trans kp2).trans (KpS.app _ M2 _)⟩
  rw [hQ1]
  rintro o ⟨cs, M2, rfl, hcl, hcb, fl2, kp2⟩
  rw [after_nx, wp_cons]
  clear hQ1 Q1
  obtain ⟨Q1, hQ1⟩ : ∃ Q1 : Out → Prop, Q1 = fun o => ∃ (T : List (List Rat)) (M1 : Mem), o = .nx [some (.p (.ref i)), some (.p (.int (a : Int))), some (.p (.int (r : Int))), none, some (.p (row cs)), some (.p (.tup (T.map row))), none, none] M1 ∧ T.length = a ∧ (∀ x ∈ T, Cha r x) ∧ (Sta i l).F M1 ∧ KpS (Sta i l).S M M1 := ⟨_, rfl⟩
  refine Wp.mono (P := Q1) ?_ ?_
  · simp [-Option.bind_some, src_rng1 sma, rangeP_map]
    refine (lcs_drawS (fun x : Nat => P.int (x : Int)) row (fun q => Cha r q) (fun _ => rfl) (List.range a) fl2 ?_).bind ?_
    · intro a ha M' fl kp
      simp [-Option.bind_some, lcx, wipeE]
      refine (dr hr1 (by omega) fl).use fun x M1 hx fl1 c1 => ?_
      obtain ⟨q, rfl, hq⟩ := hx
      simp [-Option.bind_some]
      exact ⟨q, rfl, hq, fl1, c1.kp⟩
    · rintro ⟨acc, M3⟩ ⟨qs, h1', h2, h3, fl3, kp3⟩
      dsimp only at h1' fl3 kp3
      subst h1'
      have hl : qs.length = a := by simpa using h2
      have nl2 : newl (qs.map row) M3 = some (.p (.ref M3.length), M3 ++ [qs.map row]) := newl_ok (by rw [List.length_map, hl, szl]; omega)
      have g2 := get_end M3 (qs.map row)
      simp [-Option.bind_some, nl2, g2]
      rw [hQ1]
      exact ⟨qs, _, rfl, hl, h3, Stt.app fl3 _, (kp2.trans kp3).trans (KpS.app _ M3 _)⟩
  rw [hQ1]
  rintro o ⟨T, M3, rfl, hTl, hT, fl3, kp3⟩
  rw [after_nx]
  have c := ct (by omega) (by omega) hcb (by omega) hr1 hr6 hT
  have ok := sm4 _ (tm_okS (by decide) _ _ (twin_tm (n := r) (by omega) (hcb.mono (by decide)) (by omega) hr6 hT))
  unfold twinP workP at *
  generalize row cs = rc at *
  generalize T.map row = H at *
  simp [-Option.bind_some, s1, s2, s3, c, ok]
  exact ⟨cl_bl _, fl3, kp3⟩

end K67
end

section
set_option linter.all false
set_option autoImplicit false
set_option maxRecDepth 10000
set_option exponentiation.threshold 100000
set_option maxHeartbeats 4000000
namespace K67
open PySem IX
theorem team_tm {c a b d : Rat} (hc : Bd 9 c) (h1 : a ∈ chL) (h2 : b ∈ chL) (h3 : d ∈ chL) : tm 4 6 (teamP c a b d) = true := by
  have hr : tm 2 6 (row [0, c]) = true := tm_row (by decide) (by simp) fun x hx => by
    simp only [List.mem_cons, List.not_mem_nil, or_false] at hx
    rcases hx with rfl | rfl
    · exact ⟨by decide, by decide⟩
    · exact hc
  refine tm_of (by simp) fun x hx => ?_
  simp only [List.mem_cons, List.not_mem_nil, or_false] at hx
  rcases hx with rfl | rfl
  · exact tm_of (by simp) fun x hx => by
      simp only [List.mem_cons, List.not_mem_nil, or_false] at hx
      rcases hx with rfl | rfl <;> exact hr
  · exact tm_of (by simp [jH]) (rowsJ_tm h1 h2 h3)
theorem dr_joint (k : Nat) {i l : Nat} {M : Mem} (hf : (Sta i l).F M) : DrS (W (k + 10)) (Sta i l) M n__law_joint_right [.p (.ref i)] fun x => x = .bl true := by
  refine dr_ofS hf (enter F__law_joint_right rfl rfl ?_)
  have dco : ∀ {M : Mem}, (Sta i l).F M → DrS (W (k + 9)) (Sta i l) M n__law_cost [.p (.ref i)] fun x => ∃ q, x = fr q ∧ Bd 4 q := fun hf => d_cost (k + 6) hf
  have dch : ∀ {M : Mem}, (Sta i l).F M → DrS (W (k + 9)) (Sta i l) M n__law_chance [.p (.ref i)] fun x => ∃ q, x = fr q ∧ q ∈ chL := fun hf => d_chance (k + 5) hf
  have co : ∀ q M, callX (W (k + 9)) n__law_other [.p (fr q)] M = some (.p (fr (1 - q)), M) := fun q M => c_other (k + 8) q M
  have ci : ∀ q M, callX (W (k + 9)) n__law_is_chance [.p (fr q)] M = some (.p (.bl (icB q)), M) := fun q M => c_isch (k + 8) q M
  have cm : ∀ (c a b d : Rat) (z : P) M, Bd 4 c → a ∈ chL → b ∈ chL → d ∈ chL → callX (W (k + 9)) n__law_made [.p (.int 3), .p (fr c), .p (row [a, b, d]), .p z] M = some (.p (mdP (wrJ (icB a) (icB b) (icB d)) (teamP c a b d)), M) := fun c a b d z M h0 h1 h2 h3 => c_made (k := k + 8) teamP_cl rfl (.inr (.inr (.inr ⟨rfl, x_joint (k + 1) (Bd49 h0) h1 h2 h3 M⟩)))
  have c2 : ∀ (c a b d : Rat) M, Bd 4 c → a ∈ chL → b ∈ chL → d ∈ chL → wrJ (icB a) (icB b) (icB d) = none → callX (W (k + 9)) n_joint [.p (fr c), .p (row [a, b, d])] M = some (.p (teamP c a b d), M) := fun c a b d M h0 h1 h2 h3 h4 => c_joint (k + 2) (Bd49 h0) h1 h2 h3 h4 M
  have sm : ∀ x, okS 5 x = true → ∀ M, callX (W (k + 9)) n__law_same [.p x, .p x] M = some (.p (.bl true), M) := fun x h M => c_same (k + 3) 5 x h M
  have sm4 : ∀ x, okS 4 x = true → ∀ M, callX (W (k + 9)) n__law_same [.p x, .p x] M = some (.p (.bl true), M) := fun x h M => c_same (k + 4) 4 x h M
  generalize W (k + 9) = V at *
  have en : entry F__law_joint_right [.p (.ref i)] = [some (.p (.ref i)), none, none, none, none, none, none, none] := rfl
  rw [en]
  unfold F__law_joint_right
  rw [wp_cons]
  obtain ⟨Q1, hQ1⟩ : ∃ Q1 : Out → Prop, Q1 = fun o => ∃ (c a b d : Rat) (M1 : Mem), o = .nx [some (.p (.ref i)), none, some (.p (fr c)), some (.p (row [a, b, d])), none, none, none, none] M1 ∧ Bd 4 c ∧ a ∈ chL ∧ b ∈ chL ∧ d ∈ chL ∧ (Sta i l).F M1 ∧ KpS (Sta i l).S M M1 := ⟨_, rfl⟩
  have sm3 : small 3 = true := by decide
  have sm4' : small 4 = true := by decide
  refine Wp.mono (P := Q1) ?_ ?_
  · simp [-Option.bind_some]
    refine (dco hf).use fun x M1 hx fl1 c1 => ?_
    obtain ⟨c, rfl, hc⟩ := hx
    simp [-Option.bind_some, src_rng1 sm3, rangeP_map]
    refine (lcs_drawS (fun x : Nat => P.int (x : Int)) fr (fun q => q ∈ chL) (fun _ => rfl) (List.range 3) fl1 ?_).bind ?_
    · intro a ha M' fl kp
      simp [-Option.bind_some, lcx, wipeE]
      refine (dch fl).use fun x M1 hx fl1 c1 => ?_
      obtain ⟨q, rfl, hq⟩ := hx
      simp [-Option.bind_some]
      exact ⟨q, rfl, hq, fl1, c1.kp⟩
    · rintro ⟨acc, M2⟩ ⟨qs, h1', h2, h3, fl2, kp2⟩
      dsimp only at h1' fl2 kp2
      subst h1'
      have hl : qs.length = 3 := by simpa using h2
      have nl2 : newl (qs.map fr) M2 = some (.p (.ref M2.length), M2 ++ [qs.map fr]) := newl_ok (by rw [List.length_map, hl, szl]; omega)
      have g2 := get_end M2 (qs.map fr)
      have hq : ∃ a b d, qs = [a, b, d] := by
        match qs, hl with
        | [a, b, d], _ => exact ⟨a, b, d, rfl⟩
      have er : P.tup (qs.map fr) = row qs := rfl
      generalize hqq : qs.map fr = qq at *
      simp [-Option.bind_some, nl2, g2, er]
      obtain ⟨a, b, d, rfl⟩ := hq
      rw [hQ1]
      exact ⟨c, a, b, d, _, rfl, hc, h3 a (by simp), h3 b (by simp), h3 d (by simp), Stt.app fl2 _, (c1.kp.trans kp2).trans (KpS.app _ M2 _)⟩
  rw [hQ1]
  rintro o ⟨c, a, b, d, M1, rfl, hc, ha, hb, hd, fl1, kp1⟩
  rw [after_nx, wp_cons]
  clear hQ1 Q1 dco dch
  have i0 : ∀ M, index (.p (row [a, b, d])) (.p (.int 0)) M = some (fr a) := fun _ => by rfl
  have i1 : ∀ M, index (.p (row [a, b, d])) (.p (.int 1)) M = some (fr b) := fun _ => by rfl
  have i2 : ∀ M, index (.p (row [a, b, d])) (.p (.int 2)) M = some (fr d) := fun _ => by rfl
  obtain ⟨R, hR⟩ : ∃ R, R = row [a, b, d] := ⟨_, rfl⟩
  have nl1 : newl [fr a, fr b, fr b, fr d] M1 = some (.p (.ref M1.length), M1 ++ [[fr a, fr b, fr b, fr d]]) := newl_ok (by rw [szl]; simp)
  rw [← hR] at i0 i1 i2 ⊢
  have g1 := get_end M1 [fr a, fr b, fr b, fr d]
  have fl1 : (Sta i l).F (M1 ++ [[fr a, fr b, fr b, fr d]]) := Stt.app fl1 _
  have kp1 : KpS (Sta i l).S M (M1 ++ [[fr a, fr b, fr b, fr d]]) := kp1.trans (KpS.app _ _ _)
  refine Wp.mono (P := fun o => o = .nx [some (.p (.ref i)), none, some (.p (fr c)), some (.p R), some (.p (.ref M1.length)), none, none, none] (M1 ++ [[fr a, fr b, fr b, fr d]])) (by simp [-Option.bind_some, -ix_tup, i0, i1, i2, nl1]) ?_
  rintro o rfl
  generalize M1 ++ [[fr a, fr b, fr b, fr d]] = M2 at *
  generalize M1.length = p at *
  rw [after_nx]
  have cm1 := fun z M => cm c a b d z M hc ha hb hd
  have c21 := fun M => c2 c a b d M hc ha hb hd
  have okX : okS 4 (teamP c a b d) = true := tm_okS (by decide) _ _ (team_tm (Bd49 hc) ha hb hd)
  have f : lcs V G [1] (.v 1) (.nm 1) [(.not (.tru (.call n__law_is_chance [(.idx (.v 4) (.v 1))] [0])))] ⟨(List.range 4).map fun a : Nat => P.int (a : Int), [], true⟩ ((List.range 4).map fun a : Nat => P.int (a : Int)) [some (.p (.ref i)), none, some (.p (fr c)), some (.p R), some (.p (.ref p)), none, none, none] M2 = some (((List.range 4).filter fun k => !(icB (if k = 0 then a else if k = 3 then d else b))).map fun a : Nat => P.int (a : Int), M2) := lcs_filter (fun a : Nat => P.int (a : Int)) (fun a : Nat => P.int (a : Int)) (fun k => !(icB (if k = 0 then a else if k = 3 then d else b))) rfl (List.range 4) fun k hk => by
    have hk : k = 0 ∨ k = 1 ∨ k = 2 ∨ k = 3 := by
      have := List.mem_range.mp hk
      omega
    have ca := ci a M2
    have cb := ci b M2
    have cd := ci d M2
    have x0 : atx [fr a, fr b, fr b, fr d] 0 = some (fr a) := rfl
    have x1 : atx [fr a, fr b, fr b, fr d] 1 = some (fr b) := rfl
    have x2 : atx [fr a, fr b, fr b, fr d] 2 = some (fr b) := rfl
    have x3 : atx [fr a, fr b, fr b, fr d] 3 = some (fr d) := rfl
    rcases hk with rfl | rfl | rfl | rfl
    · cases h : icB a <;> simp [-Option.bind_some, lcx, wipeE, g1, x0, h, ca]
    · cases h : icB b <;> simp [-Option.bind_some, lcx, wipeE, g1, x1, h, cb]
    · cases h : icB b <;> simp [-Option.bind_some, lcx, wipeE, g1, x2, h, cb]
    · cases h : icB d <;> simp [-Option.bind_some, lcx, wipeE, g1, x3, h, cd]
  have ew : wrJ (icB a) (icB b) (icB d) = wlP ((List.range 4).filter fun k => !(icB (if k = 0 then a else if k = 3 then d else b))) := by
    show _ = wlP ([0, 1, 2, 3].filter fun k => !(icB (if k = 0 then a else if k = 3 then d else b)))
    cases h1 : icB a <;> cases h2 : icB b <;> cases h3 : icB d <;> simp [wrJ, wr4, wlP, h1, h2, h3]
  have lw : ((List.range 4).filter fun k => !(icB (if k = 0 then a else if k = 3 then d else b))).length ≤ 4 := by
    have := List.length_filter_le (fun k => !(icB (if k = 0 then a else if k = 3 then d else b))) (List.range 4)
    simpa using this
  generalize ((List.range 4).filter fun k => !(icB (if k = 0 then a else if k = 3 then d else b))) = w at *
  rw [ew] at cm1 c21
  have okM := mdP_ok (k := 4) okX (wlP_s (l := w))
  have nl : newl (w.map fun a : Nat => P.int (a : Int)) M2 = some (.p (.ref M2.length), M2 ++ [w.map fun a : Nat => P.int (a : Int)]) := newl_ok (by rw [List.length_map, szl]; omega)
  have g := get_end M2 (w.map fun a : Nat => P.int (a : Int))
  have g3 := get_app (X := [w.map fun a : Nat => P.int (a : Int)]) g1
  have fl2 : (Sta i l).F (M2 ++ [w.map fun a : Nat => P.int (a : Int)]) := Stt.app fl1 _
  have kp2 : KpS (Sta i l).S M (M2 ++ [w.map fun a : Nat => P.int (a : Int)]) := kp1.trans (KpS.app _ _ _)
  generalize M2 ++ [w.map fun a : Nat => P.int (a : Int)] = M3 at *
  generalize M2.length = p2 at *
  rw [← hR] at cm1 c21
  cases w with
  | nil =>
    have f3 : lcs V G [6] (.tup [(.call n__law_other [(.v 6)] [0]), (.v 6)]) (.nm 6) [] ⟨[fr a, fr b, fr b, fr d], [(p, [fr a, fr b, fr b, fr d])], true⟩ [fr a, fr b, fr b, fr d] [some (.p (.ref i)), none, some (.p (fr c)), some (.p R), some (.p (.ref p)), some (.p (.ref p2)), none, none] M3 = some (jH a b d, M3) := by
      have := lcs_map (W := V) (G := G) (M := M3) (vs := [6]) (elt := (.tup [(.call n__law_other [(.v 6)] [0]), (.v 6)])) (t := .nm 6) (ifs := []) (s := ⟨[fr a, fr b, fr b, fr d], [(p, [fr a, fr b, fr b, fr d])], true⟩) (ρ := [some (.p (.ref i)), none, some (.p (fr c)), some (.p R), some (.p (.ref p)), some (.p (.ref p2)), none, none]) fr (fun q => row [1 - q, q]) (by simp [g3]) [a, b, b, d] fun q _ => by
        have c := co q M3
        simp [-Option.bind_some, lcx, wipeE, c, row2, s2]
      exact this
    have nl3 : newl (jH a b d) M3 = some (.p (.ref M3.length), M3 ++ [jH a b d]) := newl_ok (by rw [show (jH a b d).length = 4 from rfl, szl]; decide)
    have g4 := get_end M3 (jH a b d)
    have g5 := get_app (X := [jH a b d]) g
    have fl3 : (Sta i l).F (M3 ++ [jH a b d]) := Stt.app fl2 _
    have kp3 : KpS (Sta i l).S M (M3 ++ [jH a b d]) := kp2.trans (KpS.app _ _ _)
    generalize M3 ++ [jH a b d] = M4 at *
    generalize M3.length = p3 at *
    have rp : ∀ M, binop .mul (.p (.tup [.tup [.tup [.int 0, .int 1], fr c]])) (.p (.int 2)) M = some (.p (.tup [.tup [.tup [.int 0, .int 1], fr c], .tup [.tup [.int 0, .int 1], fr c]]), M) := fun M => by
      rw [b_mulT, if_pos (by simp)]; rfl
    have eX : P.tup [.tup [.tup [.tup [.int 0, .int 1], fr c], .tup [.tup [.int 0, .int 1], fr c]], .tup (jH a b d)] = teamP c a b d := rfl
    unfold wlP mdP at *
    have e1 := sm _ okM
    have e2 := sm4 _ okX
    have c22 := fun M => c21 M rfl
    generalize jH a b d = H at *
    generalize teamP c a b d = X at *
    simp [-Option.bind_some, -b_mulT, src_rng1 sm4', rangeP_map, s1, s2] at f nl g g5 ⊢
    simp [-Option.bind_some, -b_mulT, f, nl, g, g5, g3, f3, nl3, g4, rp, s1, s2, eX, cm1, c22, e1, e2]
    exact ⟨cl_bl _, fl3, kp3⟩
  | cons n w =>
    unfold wlP mdP at *
    have e1 := sm _ okM
    generalize teamP c a b d = X at *
    simp [-Option.bind_some, -b_mulT, src_rng1 sm4', rangeP_map, s1, s2] at f nl g ⊢
    simp [-Option.bind_some, -b_mulT, f, nl, g, g3, s1, s2, s3, cm1, e1]
    exact ⟨cl_bl _, fl2, kp2⟩
abbrev loops : Nat := LL
theorem plain (ns : List Int) (hl : ns.length ≤ 63) (hb : ∀ z ∈ ns, Builtin.Int.intBits z ≤ 1048576) : ∃ M', evF tab (fun x => pg.G.lookup x) loops 12 n_law [.scr (ns.map P.int)] [] = some (.p (.bl true), M') := by
  suffices h : Wp (W (11 + 1) n_law [.scr (ns.map P.int)] []) fun r => r.1 = .p (.bl true) by
    obtain ⟨⟨d, M'⟩, e, h1⟩ := h
    dsimp only at h1
    subst h1
    exact ⟨M', e⟩
  refine enter F_law rfl rfl ?_
  have pool := sta_ok 9 ns hl
  have d1 := fun {i l : Nat} {M : Mem} (hf : (Sta i l).F M) => d_two 1 hf
  have d2 := fun {i l : Nat} {M : Mem} (hf : (Sta i l).F M) => d_told 1 hf
  have d3 := fun {i l : Nat} {M : Mem} (hf : (Sta i l).F M) => dr_twins 1 hf
  have d4 := fun {i l : Nat} {M : Mem} (hf : (Sta i l).F M) => dr_joint 1 hf
  have en : entry F_law [.scr (ns.map P.int)] = [some (.scr (ns.map P.int)), none, none] := rfl
  rw [en]
  unfold F_law
  rw [wp_cons]
  have s4' : small 4 = true := by decide
  simp only [Nat.reduceAdd] at d1 d2 d3 d4
  generalize W 11 = V at *
  obtain ⟨Q1, hQ1⟩ : ∃ Q1 : Out → Prop, Q1 = fun o => ∃ (i l : Nat) (M2 : Mem), o = .nx [some (.scr (ns.map P.int)), some (.p (.ref i)), none] M2 ∧ (Sta i l).F M2 := ⟨_, rfl⟩
  refine Wp.mono (P := Q1) ?_ ?_
  · simp [-Option.bind_some]
    refine pool.bind ?_
    rintro ⟨d, M1⟩ ⟨i, l, h1, fl⟩
    dsimp only at h1 fl
    subst h1
    simp [-Option.bind_some]
    rw [hQ1]
    exact ⟨i, l, M1, rfl, fl⟩
  rw [hQ1]
  rintro o ⟨i, l, M1, rfl, fl1⟩
  rw [after_nx]
  simp [-Option.bind_some, src_rng1 s4', rangeP_map]
  refine lop_wpJ (fun x : Nat => P.int (x : Int)) (fun pre r ρ M' => (Sta i l).F M' ∧ ∃ z, ρ = [some (.scr (ns.map P.int)), some (.p (.ref i)), z]) (List.range 4) ⟨fl1, _, rfl⟩ ?_ ?_
  · rintro J Q hJ - pre u r ρ M' hr ⟨fl, z, rfl⟩
    simp [-Option.bind_some]
    refine (d1 fl).use fun x M2 hx fl2 c2 => ?_
    subst hx
    simp [-Option.bind_some]
    refine (d2 fl2).use fun x M3 hx fl3 c3 => ?_
    subst hx
    simp [-Option.bind_some]
    refine (d3 fl3).use fun x M4 hx fl4 c4 => ?_
    subst hx
    simp [-Option.bind_some]
    refine (d4 fl4).use fun x M5 hx fl5 c5 => ?_
    subst hx
    simp [-Option.bind_some]
    rw [hJ]
    exact ⟨fl5, _, rfl⟩
  · rintro ρ M' ⟨fl, z, rfl⟩
    simp [-Option.bind_some]

end K67
end

section
set_option Elab.async false
set_option autoImplicit false
set_option linter.all false
set_option maxRecDepth 100000
set_option maxHeartbeats 0
namespace K67
open PySem PySem.Spec PyProof.Rows L2 GX IX
abbrev top (i : Nat) : Stmt := PySem.Challenge.pw_gladlydone_k67_made_works.main.body.getD i (.Pass ⟨0, 0, 0, 0⟩)
abbrev s_common : Stmt := top 3
def d_common : He.DefD := ⟨("common", none), "common", "common", L2.defArgs s_common, L2.defBody s_common, L2.defScope s_common, [], []⟩
abbrev s_ratio : Stmt := top 4
def d_ratio : He.DefD := ⟨("ratio", none), "ratio", "ratio", L2.defArgs s_ratio, L2.defBody s_ratio, L2.defScope s_ratio, [], []⟩
abbrev s_is_number : Stmt := top 5
def d_is_number : He.DefD := ⟨("is_number", none), "is_number", "is_number", L2.defArgs s_is_number, L2.defBody s_is_number, L2.defScope s_is_number, [], []⟩
abbrev s_is_fraction : Stmt := top 6
def d_is_fraction : He.DefD := ⟨("is_fraction", none), "is_fraction", "is_fraction", L2.defArgs s_is_fraction, L2.defBody s_is_fraction, L2.defScope s_is_fraction, [], []⟩
abbrev s_is_fractions : Stmt := top 7
def d_is_fractions : He.DefD := ⟨("is_fractions", none), "is_fractions", "is_fractions", L2.defArgs s_is_fractions, L2.defBody s_is_fractions, L2.defScope s_is_fractions, [], []⟩
abbrev s_is_chances : Stmt := top 8
def d_is_chances : He.DefD := ⟨("is_chances", none), "is_chances", "is_chances", L2.defArgs s_is_chances, L2.defBody s_is_chances, L2.defScope s_is_chances, [], []⟩
abbrev s_minus : Stmt := top 9
def d_minus : He.DefD := ⟨("minus", none), "minus", "minus", L2.defArgs s_minus, L2.defBody s_minus, L2.defScope s_minus, [], []⟩
abbrev s_bottom_of : Stmt := top 10
def d_bottom_of : He.DefD := ⟨("bottom_of", none), "bottom_of", "bottom_of", L2.defArgs s_bottom_of, L2.defBody s_bottom_of, L2.defScope s_bottom_of, [], []⟩
abbrev s_tops_over : Stmt := top 11
def d_tops_over : He.DefD := ⟨("tops_over", none), "tops_over", "tops_over", L2.defArgs s_tops_over, L2.defBody s_tops_over, L2.defScope s_tops_over, [], []⟩
abbrev s_wholes : Stmt := top 12
def d_wholes : He.DefD := ⟨("wholes", none), "wholes", "wholes", L2.defArgs s_wholes, L2.defBody s_wholes, L2.defScope s_wholes, [], []⟩
abbrev s_sum_of : Stmt := top 13
def d_sum_of : He.DefD := ⟨("sum_of", none), "sum_of", "sum_of", L2.defArgs s_sum_of, L2.defBody s_sum_of, L2.defScope s_sum_of, [], []⟩
abbrev s_unit : Stmt := top 14
def d_unit : He.DefD := ⟨("unit", none), "unit", "unit", L2.defArgs s_unit, L2.defBody s_unit, L2.defScope s_unit, [], []⟩
abbrev s_check_team : Stmt := top 19
def d_check_team : He.DefD := ⟨("check_team", none), "check_team", "check_team", L2.defArgs s_check_team, L2.defBody s_check_team, L2.defScope s_check_team, [], []⟩
abbrev s_check_team_costs : Stmt := top 20
def d_check_team_costs : He.DefD := ⟨("check_team_costs", none), "check_team_costs", "check_team_costs", L2.defArgs s_check_team_costs, L2.defBody s_check_team_costs, L2.defScope s_check_team_costs, [], []⟩
abbrev s_check_team_chances : Stmt := top 21
def d_check_team_chances : He.DefD := ⟨("check_team_chances", none), "check_team_chances", "check_team_chances", L2.defArgs s_check_team_chances, L2.defBody s_check_team_chances, L2.defScope s_check_team_chances, [], []⟩
abbrev s_check_work : Stmt := top 23
def d_check_work : He.DefD := ⟨("check_work", none), "check_work", "check_work", L2.defArgs s_check_work, L2.defBody s_check_work, L2.defScope s_check_work, [], []⟩
abbrev s_check_shares : Stmt := top 24
def d_check_shares : He.DefD := ⟨("check_shares", none), "check_shares", "check_shares", L2.defArgs s_check_shares, L2.defBody s_check_shares, L2.defScope s_check_shares, [], []⟩
abbrev s_check_costs : Stmt := top 25
def d_check_costs : He.DefD := ⟨("check_costs", none), "check_costs", "check_costs", L2.defArgs s_check_costs, L2.defBody s_check_costs, L2.defScope s_check_costs, [], []⟩
abbrev s_check_chances : Stmt := top 26
def d_check_chances : He.DefD := ⟨("check_chances", none), "check_chances", "check_chances", L2.defArgs s_check_chances, L2.defBody s_check_chances, L2.defScope s_check_chances, [], []⟩
abbrev s_lone_work : Stmt := top 28
def d_lone_work : He.DefD := ⟨("lone_work", none), "lone_work", "lone_work", L2.defArgs s_lone_work, L2.defBody s_lone_work, L2.defScope s_lone_work, [], []⟩
abbrev s_two_acts : Stmt := top 29
def d_two_acts : He.DefD := ⟨("two_acts", none), "two_acts", "two_acts", L2.defArgs s_two_acts, L2.defBody s_two_acts, L2.defScope s_two_acts, [], []⟩
abbrev s_told_acts : Stmt := top 30
def d_told_acts : He.DefD := ⟨("told_acts", none), "told_acts", "told_acts", L2.defArgs s_told_acts, L2.defBody s_told_acts, L2.defScope s_told_acts, [], []⟩
abbrev s_blind : Stmt := top 31
def d_blind : He.DefD := ⟨("blind", none), "blind", "blind", L2.defArgs s_blind, L2.defBody s_blind, L2.defScope s_blind, [], []⟩
abbrev s_twins : Stmt := top 32
def d_twins : He.DefD := ⟨("twins", none), "twins", "twins", L2.defArgs s_twins, L2.defBody s_twins, L2.defScope s_twins, [], []⟩
abbrev s_joint : Stmt := top 33
def d_joint : He.DefD := ⟨("joint", none), "joint", "joint", L2.defArgs s_joint, L2.defBody s_joint, L2.defScope s_joint, [], []⟩
abbrev s__law_mixed : Stmt := top 35
def d__law_mixed : He.DefD := ⟨("_law_mixed", none), "_law_mixed", "_law_mixed", L2.defArgs s__law_mixed, L2.defBody s__law_mixed, L2.defScope s__law_mixed, [], []⟩
abbrev s__law_start : Stmt := top 36
def d__law_start : He.DefD := ⟨("_law_start", none), "_law_start", "_law_start", L2.defArgs s__law_start, L2.defBody s__law_start, L2.defScope s__law_start, [], []⟩
abbrev s__law_take : Stmt := top 37
def d__law_take : He.DefD := ⟨("_law_take", none), "_law_take", "_law_take", L2.defArgs s__law_take, L2.defBody s__law_take, L2.defScope s__law_take, [], []⟩
abbrev s__law_pick : Stmt := top 38
def d__law_pick : He.DefD := ⟨("_law_pick", none), "_law_pick", "_law_pick", L2.defArgs s__law_pick, L2.defBody s__law_pick, L2.defScope s__law_pick, [], []⟩
abbrev s__law_same : Stmt := top 39
def d__law_same : He.DefD := ⟨("_law_same", none), "_law_same", "_law_same", L2.defArgs s__law_same, L2.defBody s__law_same, L2.defScope s__law_same, [], []⟩
abbrev s__law_frac : Stmt := top 40
def d__law_frac : He.DefD := ⟨("_law_frac", none), "_law_frac", "_law_frac", L2.defArgs s__law_frac, L2.defBody s__law_frac, L2.defScope s__law_frac, [], []⟩
abbrev s__law_made : Stmt := top 41
def d__law_made : He.DefD := ⟨("_law_made", none), "_law_made", "_law_made", L2.defArgs s__law_made, L2.defBody s__law_made, L2.defScope s__law_made, [], []⟩
abbrev s__law_cost : Stmt := top 42
def d__law_cost : He.DefD := ⟨("_law_cost", none), "_law_cost", "_law_cost", L2.defArgs s__law_cost, L2.defBody s__law_cost, L2.defScope s__law_cost, [], []⟩
abbrev s__law_chance : Stmt := top 43
def d__law_chance : He.DefD := ⟨("_law_chance", none), "_law_chance", "_law_chance", L2.defArgs s__law_chance, L2.defBody s__law_chance, L2.defScope s__law_chance, [], []⟩
abbrev s__law_other : Stmt := top 44
def d__law_other : He.DefD := ⟨("_law_other", none), "_law_other", "_law_other", L2.defArgs s__law_other, L2.defBody s__law_other, L2.defScope s__law_other, [], []⟩
abbrev s__law_is_chance : Stmt := top 45
def d__law_is_chance : He.DefD := ⟨("_law_is_chance", none), "_law_is_chance", "_law_is_chance", L2.defArgs s__law_is_chance, L2.defBody s__law_is_chance, L2.defScope s__law_is_chance, [], []⟩
abbrev s__law_two_right : Stmt := top 46
def d__law_two_right : He.DefD := ⟨("_law_two_right", none), "_law_two_right", "_law_two_right", L2.defArgs s__law_two_right, L2.defBody s__law_two_right, L2.defScope s__law_two_right, [], []⟩
abbrev s__law_told_right : Stmt := top 47
def d__law_told_right : He.DefD := ⟨("_law_told_right", none), "_law_told_right", "_law_told_right", L2.defArgs s__law_told_right, L2.defBody s__law_told_right, L2.defScope s__law_told_right, [], []⟩
abbrev s__law_row : Stmt := top 48
def d__law_row : He.DefD := ⟨("_law_row", none), "_law_row", "_law_row", L2.defArgs s__law_row, L2.defBody s__law_row, L2.defScope s__law_row, [], []⟩
abbrev s__law_twins_right : Stmt := top 49
def d__law_twins_right : He.DefD := ⟨("_law_twins_right", none), "_law_twins_right", "_law_twins_right", L2.defArgs s__law_twins_right, L2.defBody s__law_twins_right, L2.defScope s__law_twins_right, [], []⟩
abbrev s__law_joint_right : Stmt := top 50
def d__law_joint_right : He.DefD := ⟨("_law_joint_right", none), "_law_joint_right", "_law_joint_right", L2.defArgs s__law_joint_right, L2.defBody s__law_joint_right, L2.defScope s__law_joint_right, [], []⟩
abbrev s_law : Stmt := top 51
def d_law : He.DefD := ⟨("law", none), "law", "law", L2.defArgs s_law, L2.defBody s_law, L2.defScope s_law, [], []⟩
def fn_0 : List (He.DefD) := [d_common, d_ratio, d_is_number, d_is_fraction, d_is_fractions, d_is_chances, d_minus, d_bottom_of, d_tops_over, d_wholes, d_sum_of, d_unit, d_check_team, d_check_team_costs, d_check_team_chances, d_check_work, d_check_shares, d_check_costs, d_check_chances, d_lone_work, d_two_acts, d_told_acts, d_blind, d_twins, d_joint, d__law_mixed, d__law_start, d__law_take, d__law_pick, d__law_same]
def fn_1 : List (He.DefD) := [d__law_frac, d__law_made, d__law_cost, d__law_chance, d__law_other, d__law_is_chance, d__law_two_right, d__law_told_right, d__law_row, d__law_twins_right, d__law_joint_right, d_law]
def fn : List (He.DefD) := fn_0 ++ fn_1

def fa_0 : List (He.Fa) := [.glo "common", .glo "ratio", .glo "is_number", .glo "is_fraction", .glo "is_fractions", .glo "is_chances", .glo "minus", .glo "bottom_of", .glo "tops_over", .glo "wholes", .glo "sum_of", .glo "unit", .glo "check_team", .glo "check_team_costs", .glo "check_team_chances", .glo "check_work", .glo "check_shares", .glo "check_costs", .glo "check_chances", .glo "lone_work", .glo "two_acts", .glo "told_acts", .glo "blind", .glo "twins", .glo "joint", .glo "_law_mixed", .glo "_law_start", .glo "_law_take", .glo "_law_pick", .glo "_law_same"]
def fa_1 : List (He.Fa) := [.glo "_law_frac", .glo "_law_made", .glo "_law_cost", .glo "_law_chance", .glo "_law_other", .glo "_law_is_chance", .glo "_law_two_right", .glo "_law_told_right", .glo "_law_row", .glo "_law_twins_right", .glo "_law_joint_right", .glo "law", .free "len", .free "abs", .free "int", .free "bool", .free "max", .free "min", .free "sum", .free "tuple", .free "list", .free "isinstance", .free "all", .free "any", .free "range", .free "enumerate", .free "zip", .free "str", .glo "ZERO", .glo "ONE"]
def fa_2 : List (He.Fa) := [.glo "WorkError", .exm "WorkError" "WorkError" true, .exc "WorkError", .glo "BadWork", .exm "BadWork" "BadWork" true]
def fa : List (He.Fa) := fa_0 ++ fa_1 ++ fa_2

def tf_0 : List (He.Defn) := [("common", none), ("ratio", none), ("is_number", none), ("is_fraction", none), ("is_fractions", none), ("is_chances", none), ("minus", none), ("bottom_of", none), ("tops_over", none), ("wholes", none), ("sum_of", none), ("unit", none), ("check_team", none), ("check_team_costs", none), ("check_team_chances", none), ("check_work", none), ("check_shares", none), ("check_costs", none), ("check_chances", none), ("lone_work", none), ("two_acts", none), ("told_acts", none), ("blind", none), ("twins", none), ("joint", none), ("_law_mixed", none), ("_law_start", none), ("_law_take", none), ("_law_pick", none), ("_law_same", none)]
def tf_1 : List (He.Defn) := [("_law_frac", none), ("_law_made", none), ("_law_cost", none), ("_law_chance", none), ("_law_other", none), ("_law_is_chance", none), ("_law_two_right", none), ("_law_told_right", none), ("_law_row", none), ("_law_twins_right", none), ("_law_joint_right", none), ("law", none), ("BadWork", some "__init__")]
def tf : List (He.Defn) := tf_0 ++ tf_1

abbrev R : PySem.W.OpenRow := PySem.W.OpenLaw.row PySem.Challenge.rw_gladlydone_k67_made_works
def ex (K : PySem.W.Frag) : Bool := exT tf K && He.tupB K "ZERO" [.int 0, .int 1] && He.tupB K "ONE" [.int 1, .int 1] && excB (PySem.Challenge.rw_gladlydone_k67_made_works).prog K "BadWork" ["part", "number"]
abbrev hk : PySem.W.Hook := IX.hookY 5 fa fn [] tf ex
def ob (s : PySem.W.SharedT) : He.AlX := IX.obsY 5 fa fn [] tf ex (HandSHeadRun.getT s)
theorem ob_eq (s : PySem.W.SharedT) : ob s = hk.obs s.abs := IX.obsY_eq (HandSHeadRun.getT_eq s)
def loose_0 : List (Str) := ["__name__", "ZERO", "ONE", "common", "ratio", "is_number", "is_fraction", "is_fractions", "is_chances", "minus", "bottom_of", "tops_over", "wholes", "sum_of", "unit", "check_team", "check_team_costs", "check_team_chances", "check_work", "check_shares", "check_costs", "check_chances", "lone_work", "two_acts", "told_acts", "blind", "twins", "joint", "_law_mixed", "_law_start"]
def loose_1 : List (Str) := ["_law_take", "_law_pick", "_law_same", "_law_frac", "_law_made", "_law_cost", "_law_chance", "_law_other", "_law_is_chance", "_law_two_right", "_law_told_right", "_law_row", "_law_twins_right", "_law_joint_right", "WorkError", "BadWork"]
def loose : List (Str) := loose_0 ++ loose_1

theorem run (w : World) : HandSHeadRun.RunEq R (PySem.W.view R.prog [51]) hk ob 4000 loose w := by
  intro os
  kernel_rfl
section
variable {K : PySem.W.Frag} {mg : Str → Option Value}
theorem sc_common : FnScope N_common [("one" : Str), ("other" : Str)] (L2.defScope s_common) := ⟨rfl, rfl, rfl, by decide +kernel, by kernel_rfl, by decide +kernel, by decide +kernel⟩
theorem tr_common : trSs pg 60 3 N_common (L2.defScope s_common) (L2.defBody s_common) = some F_common.body := by kernel_rfl
theorem in_common {fd : FuncData} (F : FunD K "common" "common" (L2.defArgs s_common) (L2.defBody s_common) (L2.defScope s_common) [] [] (He.fAd K ("common", none)) fd) (hm : mg "common" = some (.ref (He.ga K "common"))) (hct : PySem.W.codeHdIn K (He.cT K ("common", none)).1 (He.cT K ("common", none)).2 = true) : DefIn pg tab K mg 60 3 "common" 0 ["one", "other"] [] :=
  def_in (N := N_common) (fn := F_common) F hm hct sc_common (by simp) (fun _ _ _ _ _ _ us hl => match us, hl with | [_, _], _ => rfl) (fun ks hks => absurd hks (by simp)) (by decide) rfl rfl rfl tr_common
theorem sc_ratio : FnScope N_ratio [("top" : Str), ("bottom" : Str)] (L2.defScope s_ratio) := ⟨rfl, rfl, rfl, by decide +kernel, by kernel_rfl, by decide +kernel, by decide +kernel⟩
theorem tr_ratio : trSs pg 60 3 N_ratio (L2.defScope s_ratio) (L2.defBody s_ratio) = some F_ratio.body := by kernel_rfl
theorem in_ratio {fd : FuncData} (F : FunD K "ratio" "ratio" (L2.defArgs s_ratio) (L2.defBody s_ratio) (L2.defScope s_ratio) [] [] (He.fAd K ("ratio", none)) fd) (hm : mg "ratio" = some (.ref (He.ga K "ratio"))) (hct : PySem.W.codeHdIn K (He.cT K ("ratio", none)).1 (He.cT K ("ratio", none)).2 = true) : DefIn pg tab K mg 60 3 "ratio" 1 ["top", "bottom"] [] :=
  def_in (N := N_ratio) (fn := F_ratio) F hm hct sc_ratio (by simp) (fun _ _ _ _ _ _ us hl => match us, hl with | [_, _], _ => rfl) (fun ks hks => absurd hks (by simp)) (by decide) rfl rfl rfl tr_ratio
theorem sc_is_number : FnScope N_is_number [("value" : Str)] (L2.defScope s_is_number) := ⟨rfl, rfl, rfl, by decide +kernel, by kernel_rfl, by decide +kernel, by decide +kernel⟩
theorem tr_is_number : trSs pg 60 3 N_is_number (L2.defScope s_is_number) (L2.defBody s_is_number) = some F_is_number.body := by kernel_rfl
theorem in_is_number {fd : FuncData} (F : FunD K "is_number" "is_number" (L2.defArgs s_is_number) (L2.defBody s_is_number) (L2.defScope s_is_number) [] [] (He.fAd K ("is_number", none)) fd) (hm : mg "is_number" = some (.ref (He.ga K "is_number"))) (hct : PySem.W.codeHdIn K (He.cT K ("is_number", none)).1 (He.cT K ("is_number", none)).2 = true) : DefIn pg tab K mg 60 3 "is_number" 2 ["value"] [] :=
  def_in (N := N_is_number) (fn := F_is_number) F hm hct sc_is_number (by simp) (fun _ _ _ _ _ _ us hl => match us, hl with | [_], _ => rfl) (fun ks hks => absurd hks (by simp)) (by decide) rfl rfl rfl tr_is_number
theorem sc_is_fraction : FnScope N_is_fraction [("value" : Str)] (L2.defScope s_is_fraction) := ⟨rfl, rfl, rfl, by decide +kernel, by kernel_rfl, by decide +kernel, by decide +kernel⟩
theorem tr_is_fraction : trSs pg 60 3 N_is_fraction (L2.defScope s_is_fraction) (L2.defBody s_is_fraction) = some F_is_fraction.body := by kernel_rfl
theorem in_is_fraction {fd : FuncData} (F : FunD K "is_fraction" "is_fraction" (L2.defArgs s_is_fraction) (L2.defBody s_is_fraction) (L2.defScope s_is_fraction) [] [] (He.fAd K ("is_fraction", none)) fd) (hm : mg "is_fraction" = some (.ref (He.ga K "is_fraction"))) (hct : PySem.W.codeHdIn K (He.cT K ("is_fraction", none)).1 (He.cT K ("is_fraction", none)).2 = true) : DefIn pg tab K mg 60 3 "is_fraction" 3 ["value"] [] :=
  def_in (N := N_is_fraction) (fn := F_is_fraction) F hm hct sc_is_fraction (by simp) (fun _ _ _ _ _ _ us hl => match us, hl with | [_], _ => rfl) (fun ks hks => absurd hks (by simp)) (by decide) rfl rfl rfl tr_is_fraction
theorem sc_is_fractions : FnScope N_is_fractions [("value" : Str), ("low" : Str), ("high" : Str)] (L2.defScope s_is_fractions) := ⟨rfl, rfl, rfl, by decide +kernel, by kernel_rfl, by decide +kernel, by decide +kernel⟩
theorem tr_is_fractions : trSs pg 60 3 N_is_fractions (L2.defScope s_is_fractions) (L2.defBody s_is_fractions) = some F_is_fractions.body := by kernel_rfl
theorem in_is_fractions {fd : FuncData} (F : FunD K "is_fractions" "is_fractions" (L2.defArgs s_is_fractions) (L2.defBody s_is_fractions) (L2.defScope s_is_fractions) [] [] (He.fAd K ("is_fractions", none)) fd) (hm : mg "is_fractions" = some (.ref (He.ga K "is_fractions"))) (hct : PySem.W.codeHdIn K (He.cT K ("is_fractions", none)).1 (He.cT K ("is_fractions", none)).2 = true) : DefIn pg tab K mg 60 3 "is_fractions" 4 ["value", "low", "high"] [] :=
  def_in (N := N_is_fractions) (fn := F_is_fractions) F hm hct sc_is_fractions (by simp) (fun _ _ _ _ _ _ us hl => match us, hl with | [_, _, _], _ => rfl) (fun ks hks => absurd hks (by simp)) (by decide) rfl rfl rfl tr_is_fractions
theorem sc_is_chances : FnScope N_is_chances [("value" : Str), ("low" : Str), ("high" : Str)] (L2.defScope s_is_chances) := ⟨rfl, rfl, rfl, by decide +kernel, by kernel_rfl, by decide +kernel, by decide +kernel⟩
theorem tr_is_chances : trSs pg 60 3 N_is_chances (L2.defScope s_is_chances) (L2.defBody s_is_chances) = some F_is_chances.body := by kernel_rfl
theorem in_is_chances {fd : FuncData} (F : FunD K "is_chances" "is_chances" (L2.defArgs s_is_chances) (L2.defBody s_is_chances) (L2.defScope s_is_chances) [] [] (He.fAd K ("is_chances", none)) fd) (hm : mg "is_chances" = some (.ref (He.ga K "is_chances"))) (hct : PySem.W.codeHdIn K (He.cT K ("is_chances", none)).1 (He.cT K ("is_chances", none)).2 = true) : DefIn pg tab K mg 60 3 "is_chances" 5 ["value", "low", "high"] [] :=
  def_in (N := N_is_chances) (fn := F_is_chances) F hm hct sc_is_chances (by simp) (fun _ _ _ _ _ _ us hl => match us, hl with | [_, _, _], _ => rfl) (fun ks hks => absurd hks (by simp)) (by decide) rfl rfl rfl tr_is_chances
theorem sc_minus : FnScope N_minus [("one" : Str), ("other" : Str)] (L2.defScope s_minus) := ⟨rfl, rfl, rfl, by decide +kernel, by kernel_rfl, by decide +kernel, by decide +kernel⟩
theorem tr_minus : trSs pg 60 3 N_minus (L2.defScope s_minus) (L2.defBody s_minus) = some F_minus.body := by kernel_rfl
theorem in_minus {fd : FuncData} (F : FunD K "minus" "minus" (L2.defArgs s_minus) (L2.defBody s_minus) (L2.defScope s_minus) [] [] (He.fAd K ("minus", none)) fd) (hm : mg "minus" = some (.ref (He.ga K "minus"))) (hct : PySem.W.codeHdIn K (He.cT K ("minus", none)).1 (He.cT K ("minus", none)).2 = true) : DefIn pg tab K mg 60 3 "minus" 6 ["one", "other"] [] :=
  def_in (N := N_minus) (fn := F_minus) F hm hct sc_minus (by simp) (fun _ _ _ _ _ _ us hl => match us, hl with | [_, _], _ => rfl) (fun ks hks => absurd hks (by simp)) (by decide) rfl rfl rfl tr_minus
theorem sc_bottom_of : FnScope N_bottom_of [("row" : Str)] (L2.defScope s_bottom_of) := ⟨rfl, rfl, rfl, by decide +kernel, by kernel_rfl, by decide +kernel, by decide +kernel⟩
theorem tr_bottom_of : trSs pg 60 3 N_bottom_of (L2.defScope s_bottom_of) (L2.defBody s_bottom_of) = some F_bottom_of.body := by kernel_rfl
theorem in_bottom_of {fd : FuncData} (F : FunD K "bottom_of" "bottom_of" (L2.defArgs s_bottom_of) (L2.defBody s_bottom_of) (L2.defScope s_bottom_of) [] [] (He.fAd K ("bottom_of", none)) fd) (hm : mg "bottom_of" = some (.ref (He.ga K "bottom_of"))) (hct : PySem.W.codeHdIn K (He.cT K ("bottom_of", none)).1 (He.cT K ("bottom_of", none)).2 = true) : DefIn pg tab K mg 60 3 "bottom_of" 7 ["row"] [] :=
  def_in (N := N_bottom_of) (fn := F_bottom_of) F hm hct sc_bottom_of (by simp) (fun _ _ _ _ _ _ us hl => match us, hl with | [_], _ => rfl) (fun ks hks => absurd hks (by simp)) (by decide) rfl rfl rfl tr_bottom_of
theorem sc_tops_over : FnScope N_tops_over [("row" : Str), ("bottom" : Str)] (L2.defScope s_tops_over) := ⟨rfl, rfl, rfl, by decide +kernel, by kernel_rfl, by decide +kernel, by decide +kernel⟩
theorem tr_tops_over : trSs pg 60 3 N_tops_over (L2.defScope s_tops_over) (L2.defBody s_tops_over) = some F_tops_over.body := by kernel_rfl
theorem in_tops_over {fd : FuncData} (F : FunD K "tops_over" "tops_over" (L2.defArgs s_tops_over) (L2.defBody s_tops_over) (L2.defScope s_tops_over) [] [] (He.fAd K ("tops_over", none)) fd) (hm : mg "tops_over" = some (.ref (He.ga K "tops_over"))) (hct : PySem.W.codeHdIn K (He.cT K ("tops_over", none)).1 (He.cT K ("tops_over", none)).2 = true) : DefIn pg tab K mg 60 3 "tops_over" 8 ["row", "bottom"] [] :=
  def_in (N := N_tops_over) (fn := F_tops_over) F hm hct sc_tops_over (by simp) (fun _ _ _ _ _ _ us hl => match us, hl with | [_, _], _ => rfl) (fun ks hks => absurd hks (by simp)) (by decide) rfl rfl rfl tr_tops_over
theorem sc_wholes : FnScope N_wholes [("row" : Str)] (L2.defScope s_wholes) := ⟨rfl, rfl, rfl, by decide +kernel, by kernel_rfl, by decide +kernel, by decide +kernel⟩
theorem tr_wholes : trSs pg 60 3 N_wholes (L2.defScope s_wholes) (L2.defBody s_wholes) = some F_wholes.body := by kernel_rfl
theorem in_wholes {fd : FuncData} (F : FunD K "wholes" "wholes" (L2.defArgs s_wholes) (L2.defBody s_wholes) (L2.defScope s_wholes) [] [] (He.fAd K ("wholes", none)) fd) (hm : mg "wholes" = some (.ref (He.ga K "wholes"))) (hct : PySem.W.codeHdIn K (He.cT K ("wholes", none)).1 (He.cT K ("wholes", none)).2 = true) : DefIn pg tab K mg 60 3 "wholes" 9 ["row"] [] :=
  def_in (N := N_wholes) (fn := F_wholes) F hm hct sc_wholes (by simp) (fun _ _ _ _ _ _ us hl => match us, hl with | [_], _ => rfl) (fun ks hks => absurd hks (by simp)) (by decide) rfl rfl rfl tr_wholes
theorem sc_sum_of : FnScope N_sum_of [("row" : Str)] (L2.defScope s_sum_of) := ⟨rfl, rfl, rfl, by decide +kernel, by kernel_rfl, by decide +kernel, by decide +kernel⟩
theorem tr_sum_of : trSs pg 60 3 N_sum_of (L2.defScope s_sum_of) (L2.defBody s_sum_of) = some F_sum_of.body := by kernel_rfl
theorem in_sum_of {fd : FuncData} (F : FunD K "sum_of" "sum_of" (L2.defArgs s_sum_of) (L2.defBody s_sum_of) (L2.defScope s_sum_of) [] [] (He.fAd K ("sum_of", none)) fd) (hm : mg "sum_of" = some (.ref (He.ga K "sum_of"))) (hct : PySem.W.codeHdIn K (He.cT K ("sum_of", none)).1 (He.cT K ("sum_of", none)).2 = true) : DefIn pg tab K mg 60 3 "sum_of" 10 ["row"] [] :=
  def_in (N := N_sum_of) (fn := F_sum_of) F hm hct sc_sum_of (by simp) (fun _ _ _ _ _ _ us hl => match us, hl with | [_], _ => rfl) (fun ks hks => absurd hks (by simp)) (by decide) rfl rfl rfl tr_sum_of
theorem sc_unit : FnScope N_unit [("many" : Str), ("place" : Str)] (L2.defScope s_unit) := ⟨rfl, rfl, rfl, by decide +kernel, by kernel_rfl, by decide +kernel, by decide +kernel⟩
theorem tr_unit : trSs pg 60 3 N_unit (L2.defScope s_unit) (L2.defBody s_unit) = some F_unit.body := by kernel_rfl
theorem in_unit {fd : FuncData} (F : FunD K "unit" "unit" (L2.defArgs s_unit) (L2.defBody s_unit) (L2.defScope s_unit) [] [] (He.fAd K ("unit", none)) fd) (hm : mg "unit" = some (.ref (He.ga K "unit"))) (hct : PySem.W.codeHdIn K (He.cT K ("unit", none)).1 (He.cT K ("unit", none)).2 = true) : DefIn pg tab K mg 60 3 "unit" 11 ["many", "place"] [] :=
  def_in (N := N_unit) (fn := F_unit) F hm hct sc_unit (by simp) (fun _ _ _ _ _ _ us hl => match us, hl with | [_, _], _ => rfl) (fun ks hks => absurd hks (by simp)) (by decide) rfl rfl rfl tr_unit
theorem sc_check_team : FnScope N_check_team [("value" : Str)] (L2.defScope s_check_team) := ⟨rfl, rfl, rfl, by decide +kernel, by kernel_rfl, by decide +kernel, by decide +kernel⟩
theorem tr_check_team : trSs pg 60 3 N_check_team (L2.defScope s_check_team) (L2.defBody s_check_team) = some F_check_team.body := by kernel_rfl
theorem in_check_team {fd : FuncData} (F : FunD K "check_team" "check_team" (L2.defArgs s_check_team) (L2.defBody s_check_team) (L2.defScope s_check_team) [] [] (He.fAd K ("check_team", none)) fd) (hm : mg "check_team" = some (.ref (He.ga K "check_team"))) (hct : PySem.W.codeHdIn K (He.cT K ("check_team", none)).1 (He.cT K ("check_team", none)).2 = true) : DefIn pg tab K mg 60 3 "check_team" 12 ["value"] [] :=
  def_in (N := N_check_team) (fn := F_check_team) F hm hct sc_check_team (by simp) (fun _ _ _ _ _ _ us hl => match us, hl with | [_], _ => rfl) (fun ks hks => absurd hks (by simp)) (by decide) rfl rfl rfl tr_check_team
theorem sc_check_team_costs : FnScope N_check_team_costs [("costs" : Str)] (L2.defScope s_check_team_costs) := ⟨rfl, rfl, rfl, by decide +kernel, by kernel_rfl, by decide +kernel, by decide +kernel⟩
theorem tr_check_team_costs : trSs pg 60 3 N_check_team_costs (L2.defScope s_check_team_costs) (L2.defBody s_check_team_costs) = some F_check_team_costs.body := by kernel_rfl
theorem in_check_team_costs {fd : FuncData} (F : FunD K "check_team_costs" "check_team_costs" (L2.defArgs s_check_team_costs) (L2.defBody s_check_team_costs) (L2.defScope s_check_team_costs) [] [] (He.fAd K ("check_team_costs", none)) fd) (hm : mg "check_team_costs" = some (.ref (He.ga K "check_team_costs"))) (hct : PySem.W.codeHdIn K (He.cT K ("check_team_costs", none)).1 (He.cT K ("check_team_costs", none)).2 = true) : DefIn pg tab K mg 60 3 "check_team_costs" 13 ["costs"] [] :=
  def_in (N := N_check_team_costs) (fn := F_check_team_costs) F hm hct sc_check_team_costs (by simp) (fun _ _ _ _ _ _ us hl => match us, hl with | [_], _ => rfl) (fun ks hks => absurd hks (by simp)) (by decide) rfl rfl rfl tr_check_team_costs
theorem sc_check_team_chances : FnScope N_check_team_chances [("costs" : Str), ("chances" : Str)] (L2.defScope s_check_team_chances) := ⟨rfl, rfl, rfl, by decide +kernel, by kernel_rfl, by decide +kernel, by decide +kernel⟩
theorem tr_check_team_chances : trSs pg 60 3 N_check_team_chances (L2.defScope s_check_team_chances) (L2.defBody s_check_team_chances) = some F_check_team_chances.body := by kernel_rfl
theorem in_check_team_chances {fd : FuncData} (F : FunD K "check_team_chances" "check_team_chances" (L2.defArgs s_check_team_chances) (L2.defBody s_check_team_chances) (L2.defScope s_check_team_chances) [] [] (He.fAd K ("check_team_chances", none)) fd) (hm : mg "check_team_chances" = some (.ref (He.ga K "check_team_chances"))) (hct : PySem.W.codeHdIn K (He.cT K ("check_team_chances", none)).1 (He.cT K ("check_team_chances", none)).2 = true) : DefIn pg tab K mg 60 3 "check_team_chances" 14 ["costs", "chances"] [] :=
  def_in (N := N_check_team_chances) (fn := F_check_team_chances) F hm hct sc_check_team_chances (by simp) (fun _ _ _ _ _ _ us hl => match us, hl with | [_, _], _ => rfl) (fun ks hks => absurd hks (by simp)) (by decide) rfl rfl rfl tr_check_team_chances
theorem sc_check_work : FnScope N_check_work [("value" : Str)] (L2.defScope s_check_work) := ⟨rfl, rfl, rfl, by decide +kernel, by kernel_rfl, by decide +kernel, by decide +kernel⟩
theorem tr_check_work : trSs pg 60 3 N_check_work (L2.defScope s_check_work) (L2.defBody s_check_work) = some F_check_work.body := by kernel_rfl
theorem in_check_work {fd : FuncData} (F : FunD K "check_work" "check_work" (L2.defArgs s_check_work) (L2.defBody s_check_work) (L2.defScope s_check_work) [] [] (He.fAd K ("check_work", none)) fd) (hm : mg "check_work" = some (.ref (He.ga K "check_work"))) (hct : PySem.W.codeHdIn K (He.cT K ("check_work", none)).1 (He.cT K ("check_work", none)).2 = true) : DefIn pg tab K mg 60 3 "check_work" 15 ["value"] [] :=
  def_in (N := N_check_work) (fn := F_check_work) F hm hct sc_check_work (by simp) (fun _ _ _ _ _ _ us hl => match us, hl with | [_], _ => rfl) (fun ks hks => absurd hks (by simp)) (by decide) rfl rfl rfl tr_check_work
theorem sc_check_shares : FnScope N_check_shares [("shares" : Str)] (L2.defScope s_check_shares) := ⟨rfl, rfl, rfl, by decide +kernel, by kernel_rfl, by decide +kernel, by decide +kernel⟩
theorem tr_check_shares : trSs pg 60 3 N_check_shares (L2.defScope s_check_shares) (L2.defBody s_check_shares) = some F_check_shares.body := by kernel_rfl
theorem in_check_shares {fd : FuncData} (F : FunD K "check_shares" "check_shares" (L2.defArgs s_check_shares) (L2.defBody s_check_shares) (L2.defScope s_check_shares) [] [] (He.fAd K ("check_shares", none)) fd) (hm : mg "check_shares" = some (.ref (He.ga K "check_shares"))) (hct : PySem.W.codeHdIn K (He.cT K ("check_shares", none)).1 (He.cT K ("check_shares", none)).2 = true) : DefIn pg tab K mg 60 3 "check_shares" 16 ["shares"] [] :=
  def_in (N := N_check_shares) (fn := F_check_shares) F hm hct sc_check_shares (by simp) (fun _ _ _ _ _ _ us hl => match us, hl with | [_], _ => rfl) (fun ks hks => absurd hks (by simp)) (by decide) rfl rfl rfl tr_check_shares
theorem sc_check_costs : FnScope N_check_costs [("costs" : Str), ("kinds" : Str)] (L2.defScope s_check_costs) := ⟨rfl, rfl, rfl, by decide +kernel, by kernel_rfl, by decide +kernel, by decide +kernel⟩
theorem tr_check_costs : trSs pg 60 3 N_check_costs (L2.defScope s_check_costs) (L2.defBody s_check_costs) = some F_check_costs.body := by kernel_rfl
theorem in_check_costs {fd : FuncData} (F : FunD K "check_costs" "check_costs" (L2.defArgs s_check_costs) (L2.defBody s_check_costs) (L2.defScope s_check_costs) [] [] (He.fAd K ("check_costs", none)) fd) (hm : mg "check_costs" = some (.ref (He.ga K "check_costs"))) (hct : PySem.W.codeHdIn K (He.cT K ("check_costs", none)).1 (He.cT K ("check_costs", none)).2 = true) : DefIn pg tab K mg 60 3 "check_costs" 17 ["costs", "kinds"] [] :=
  def_in (N := N_check_costs) (fn := F_check_costs) F hm hct sc_check_costs (by simp) (fun _ _ _ _ _ _ us hl => match us, hl with | [_, _], _ => rfl) (fun ks hks => absurd hks (by simp)) (by decide) rfl rfl rfl tr_check_costs
theorem sc_check_chances : FnScope N_check_chances [("chances" : Str), ("acts" : Str)] (L2.defScope s_check_chances) := ⟨rfl, rfl, rfl, by decide +kernel, by kernel_rfl, by decide +kernel, by decide +kernel⟩
theorem tr_check_chances : trSs pg 60 3 N_check_chances (L2.defScope s_check_chances) (L2.defBody s_check_chances) = some F_check_chances.body := by kernel_rfl
theorem in_check_chances {fd : FuncData} (F : FunD K "check_chances" "check_chances" (L2.defArgs s_check_chances) (L2.defBody s_check_chances) (L2.defScope s_check_chances) [] [] (He.fAd K ("check_chances", none)) fd) (hm : mg "check_chances" = some (.ref (He.ga K "check_chances"))) (hct : PySem.W.codeHdIn K (He.cT K ("check_chances", none)).1 (He.cT K ("check_chances", none)).2 = true) : DefIn pg tab K mg 60 3 "check_chances" 18 ["chances", "acts"] [] :=
  def_in (N := N_check_chances) (fn := F_check_chances) F hm hct sc_check_chances (by simp) (fun _ _ _ _ _ _ us hl => match us, hl with | [_, _], _ => rfl) (fun ks hks => absurd hks (by simp)) (by decide) rfl rfl rfl tr_check_chances
theorem sc_lone_work : FnScope N_lone_work [("costs" : Str), ("chances" : Str)] (L2.defScope s_lone_work) := ⟨rfl, rfl, rfl, by decide +kernel, by kernel_rfl, by decide +kernel, by decide +kernel⟩
theorem tr_lone_work : trSs pg 60 3 N_lone_work (L2.defScope s_lone_work) (L2.defBody s_lone_work) = some F_lone_work.body := by kernel_rfl
theorem in_lone_work {fd : FuncData} (F : FunD K "lone_work" "lone_work" (L2.defArgs s_lone_work) (L2.defBody s_lone_work) (L2.defScope s_lone_work) [] [] (He.fAd K ("lone_work", none)) fd) (hm : mg "lone_work" = some (.ref (He.ga K "lone_work"))) (hct : PySem.W.codeHdIn K (He.cT K ("lone_work", none)).1 (He.cT K ("lone_work", none)).2 = true) : DefIn pg tab K mg 60 3 "lone_work" 19 ["costs", "chances"] [] :=
  def_in (N := N_lone_work) (fn := F_lone_work) F hm hct sc_lone_work (by simp) (fun _ _ _ _ _ _ us hl => match us, hl with | [_, _], _ => rfl) (fun ks hks => absurd hks (by simp)) (by decide) rfl rfl rfl tr_lone_work
theorem sc_two_acts : FnScope N_two_acts [("cost" : Str), ("high" : Str), ("low" : Str)] (L2.defScope s_two_acts) := ⟨rfl, rfl, rfl, by decide +kernel, by kernel_rfl, by decide +kernel, by decide +kernel⟩
theorem tr_two_acts : trSs pg 60 3 N_two_acts (L2.defScope s_two_acts) (L2.defBody s_two_acts) = some F_two_acts.body := by kernel_rfl
theorem in_two_acts {fd : FuncData} (F : FunD K "two_acts" "two_acts" (L2.defArgs s_two_acts) (L2.defBody s_two_acts) (L2.defScope s_two_acts) [] [] (He.fAd K ("two_acts", none)) fd) (hm : mg "two_acts" = some (.ref (He.ga K "two_acts"))) (hct : PySem.W.codeHdIn K (He.cT K ("two_acts", none)).1 (He.cT K ("two_acts", none)).2 = true) : DefIn pg tab K mg 60 3 "two_acts" 20 ["cost", "high", "low"] [["low", "high", "cost"]] :=
  def_in (N := N_two_acts) (fn := F_two_acts) F hm hct sc_two_acts (by simp) (fun _ _ _ _ _ _ us hl => match us, hl with | [_, _, _], _ => rfl) (fun ks hks => by
    simp only [List.mem_cons, List.not_mem_nil, or_false] at hks
    rcases hks with rfl
    · exact fun _ _ _ _ _ _ ws h => match ws, h with | [], h => nomatch (show 0 = 3 from h) | [_], h => nomatch (show 0 = 3 from h) | [_, _], h => nomatch (show 0 = 3 from h) | _ :: _ :: _ :: _, _ => rfl) (by decide) rfl rfl rfl tr_two_acts
theorem sc_told_acts : FnScope N_told_acts [("costs" : Str)] (L2.defScope s_told_acts) := ⟨rfl, rfl, rfl, by decide +kernel, by kernel_rfl, by decide +kernel, by decide +kernel⟩
theorem tr_told_acts : trSs pg 60 3 N_told_acts (L2.defScope s_told_acts) (L2.defBody s_told_acts) = some F_told_acts.body := by kernel_rfl
theorem in_told_acts {fd : FuncData} (F : FunD K "told_acts" "told_acts" (L2.defArgs s_told_acts) (L2.defBody s_told_acts) (L2.defScope s_told_acts) [] [] (He.fAd K ("told_acts", none)) fd) (hm : mg "told_acts" = some (.ref (He.ga K "told_acts"))) (hct : PySem.W.codeHdIn K (He.cT K ("told_acts", none)).1 (He.cT K ("told_acts", none)).2 = true) : DefIn pg tab K mg 60 3 "told_acts" 21 ["costs"] [["costs"]] :=
  def_in (N := N_told_acts) (fn := F_told_acts) F hm hct sc_told_acts (by simp) (fun _ _ _ _ _ _ us hl => match us, hl with | [_], _ => rfl) (fun ks hks => by
    simp only [List.mem_cons, List.not_mem_nil, or_false] at hks
    rcases hks with rfl
    · exact fun _ _ _ _ _ _ ws h => match ws, h with | [], h => nomatch (show 0 = 1 from h) | _ :: _, _ => rfl) (by decide) rfl rfl rfl tr_told_acts
theorem sc_blind : FnScope N_blind [("costs" : Str)] (L2.defScope s_blind) := ⟨rfl, rfl, rfl, by decide +kernel, by kernel_rfl, by decide +kernel, by decide +kernel⟩
theorem tr_blind : trSs pg 60 3 N_blind (L2.defScope s_blind) (L2.defBody s_blind) = some F_blind.body := by kernel_rfl
theorem in_blind {fd : FuncData} (F : FunD K "blind" "blind" (L2.defArgs s_blind) (L2.defBody s_blind) (L2.defScope s_blind) [] [] (He.fAd K ("blind", none)) fd) (hm : mg "blind" = some (.ref (He.ga K "blind"))) (hct : PySem.W.codeHdIn K (He.cT K ("blind", none)).1 (He.cT K ("blind", none)).2 = true) : DefIn pg tab K mg 60 3 "blind" 22 ["costs"] [["costs"]] :=
  def_in (N := N_blind) (fn := F_blind) F hm hct sc_blind (by simp) (fun _ _ _ _ _ _ us hl => match us, hl with | [_], _ => rfl) (fun ks hks => by
    simp only [List.mem_cons, List.not_mem_nil, or_false] at hks
    rcases hks with rfl
    · exact fun _ _ _ _ _ _ ws h => match ws, h with | [], h => nomatch (show 0 = 1 from h) | _ :: _, _ => rfl) (by decide) rfl rfl rfl tr_blind
theorem sc_twins : FnScope N_twins [("work" : Str)] (L2.defScope s_twins) := ⟨rfl, rfl, rfl, by decide +kernel, by kernel_rfl, by decide +kernel, by decide +kernel⟩
theorem tr_twins : trSs pg 60 3 N_twins (L2.defScope s_twins) (L2.defBody s_twins) = some F_twins.body := by kernel_rfl
theorem in_twins {fd : FuncData} (F : FunD K "twins" "twins" (L2.defArgs s_twins) (L2.defBody s_twins) (L2.defScope s_twins) [] [] (He.fAd K ("twins", none)) fd) (hm : mg "twins" = some (.ref (He.ga K "twins"))) (hct : PySem.W.codeHdIn K (He.cT K ("twins", none)).1 (He.cT K ("twins", none)).2 = true) : DefIn pg tab K mg 60 3 "twins" 23 ["work"] [["work"]] :=
  def_in (N := N_twins) (fn := F_twins) F hm hct sc_twins (by simp) (fun _ _ _ _ _ _ us hl => match us, hl with | [_], _ => rfl) (fun ks hks => by
    simp only [List.mem_cons, List.not_mem_nil, or_false] at hks
    rcases hks with rfl
    · exact fun _ _ _ _ _ _ ws h => match ws, h with | [], h => nomatch (show 0 = 1 from h) | _ :: _, _ => rfl) (by decide) rfl rfl rfl tr_twins
theorem sc_joint : FnScope N_joint [("cost" : Str), ("chances" : Str)] (L2.defScope s_joint) := ⟨rfl, rfl, rfl, by decide +kernel, by kernel_rfl, by decide +kernel, by decide +kernel⟩
theorem tr_joint : trSs pg 60 3 N_joint (L2.defScope s_joint) (L2.defBody s_joint) = some F_joint.body := by kernel_rfl
theorem in_joint {fd : FuncData} (F : FunD K "joint" "joint" (L2.defArgs s_joint) (L2.defBody s_joint) (L2.defScope s_joint) [] [] (He.fAd K ("joint", none)) fd) (hm : mg "joint" = some (.ref (He.ga K "joint"))) (hct : PySem.W.codeHdIn K (He.cT K ("joint", none)).1 (He.cT K ("joint", none)).2 = true) : DefIn pg tab K mg 60 3 "joint" 24 ["cost", "chances"] [["chances", "cost"]] :=
  def_in (N := N_joint) (fn := F_joint) F hm hct sc_joint (by simp) (fun _ _ _ _ _ _ us hl => match us, hl with | [_, _], _ => rfl) (fun ks hks => by
    simp only [List.mem_cons, List.not_mem_nil, or_false] at hks
    rcases hks with rfl
    · exact fun _ _ _ _ _ _ ws h => match ws, h with | [], h => nomatch (show 0 = 2 from h) | [_], h => nomatch (show 0 = 2 from h) | _ :: _ :: _, _ => rfl) (by decide) rfl rfl rfl tr_joint
theorem sc__law_mixed : FnScope N__law_mixed [("number" : Str), ("k" : Str)] (L2.defScope s__law_mixed) := ⟨rfl, rfl, rfl, by decide +kernel, by kernel_rfl, by decide +kernel, by decide +kernel⟩
theorem tr__law_mixed : trSs pg 60 3 N__law_mixed (L2.defScope s__law_mixed) (L2.defBody s__law_mixed) = some F__law_mixed.body := by kernel_rfl
theorem in__law_mixed {fd : FuncData} (F : FunD K "_law_mixed" "_law_mixed" (L2.defArgs s__law_mixed) (L2.defBody s__law_mixed) (L2.defScope s__law_mixed) [] [] (He.fAd K ("_law_mixed", none)) fd) (hm : mg "_law_mixed" = some (.ref (He.ga K "_law_mixed"))) (hct : PySem.W.codeHdIn K (He.cT K ("_law_mixed", none)).1 (He.cT K ("_law_mixed", none)).2 = true) : DefIn pg tab K mg 60 3 "_law_mixed" 25 ["number", "k"] [] :=
  def_in (N := N__law_mixed) (fn := F__law_mixed) F hm hct sc__law_mixed (by simp) (fun _ _ _ _ _ _ us hl => match us, hl with | [_, _], _ => rfl) (fun ks hks => absurd hks (by simp)) (by decide) rfl rfl rfl tr__law_mixed
theorem sc__law_start : FnScope N__law_start [("script" : Str)] (L2.defScope s__law_start) := ⟨rfl, rfl, rfl, by decide +kernel, by kernel_rfl, by decide +kernel, by decide +kernel⟩
theorem tr__law_start : trSs pg 60 3 N__law_start (L2.defScope s__law_start) (L2.defBody s__law_start) = some F__law_start.body := by kernel_rfl
theorem in__law_start {fd : FuncData} (F : FunD K "_law_start" "_law_start" (L2.defArgs s__law_start) (L2.defBody s__law_start) (L2.defScope s__law_start) [] [] (He.fAd K ("_law_start", none)) fd) (hm : mg "_law_start" = some (.ref (He.ga K "_law_start"))) (hct : PySem.W.codeHdIn K (He.cT K ("_law_start", none)).1 (He.cT K ("_law_start", none)).2 = true) : DefIn pg tab K mg 60 3 "_law_start" 26 ["script"] [] :=
  def_in (N := N__law_start) (fn := F__law_start) F hm hct sc__law_start (by simp) (fun _ _ _ _ _ _ us hl => match us, hl with | [_], _ => rfl) (fun ks hks => absurd hks (by simp)) (by decide) rfl rfl rfl tr__law_start
theorem sc__law_take : FnScope N__law_take [("state" : Str), ("limit" : Str)] (L2.defScope s__law_take) := ⟨rfl, rfl, rfl, by decide +kernel, by kernel_rfl, by decide +kernel, by decide +kernel⟩
theorem tr__law_take : trSs pg 60 3 N__law_take (L2.defScope s__law_take) (L2.defBody s__law_take) = some F__law_take.body := by kernel_rfl
theorem in__law_take {fd : FuncData} (F : FunD K "_law_take" "_law_take" (L2.defArgs s__law_take) (L2.defBody s__law_take) (L2.defScope s__law_take) [] [] (He.fAd K ("_law_take", none)) fd) (hm : mg "_law_take" = some (.ref (He.ga K "_law_take"))) (hct : PySem.W.codeHdIn K (He.cT K ("_law_take", none)).1 (He.cT K ("_law_take", none)).2 = true) : DefIn pg tab K mg 60 3 "_law_take" 27 ["state", "limit"] [] :=
  def_in (N := N__law_take) (fn := F__law_take) F hm hct sc__law_take (by simp) (fun _ _ _ _ _ _ us hl => match us, hl with | [_, _], _ => rfl) (fun ks hks => absurd hks (by simp)) (by decide) rfl rfl rfl tr__law_take
theorem sc__law_pick : FnScope N__law_pick [("state" : Str), ("some" : Str)] (L2.defScope s__law_pick) := ⟨rfl, rfl, rfl, by decide +kernel, by kernel_rfl, by decide +kernel, by decide +kernel⟩
theorem tr__law_pick : trSs pg 60 3 N__law_pick (L2.defScope s__law_pick) (L2.defBody s__law_pick) = some F__law_pick.body := by kernel_rfl
theorem in__law_pick {fd : FuncData} (F : FunD K "_law_pick" "_law_pick" (L2.defArgs s__law_pick) (L2.defBody s__law_pick) (L2.defScope s__law_pick) [] [] (He.fAd K ("_law_pick", none)) fd) (hm : mg "_law_pick" = some (.ref (He.ga K "_law_pick"))) (hct : PySem.W.codeHdIn K (He.cT K ("_law_pick", none)).1 (He.cT K ("_law_pick", none)).2 = true) : DefIn pg tab K mg 60 3 "_law_pick" 28 ["state", "some"] [] :=
  def_in (N := N__law_pick) (fn := F__law_pick) F hm hct sc__law_pick (by simp) (fun _ _ _ _ _ _ us hl => match us, hl with | [_, _], _ => rfl) (fun ks hks => absurd hks (by simp)) (by decide) rfl rfl rfl tr__law_pick
theorem sc__law_same : FnScope N__law_same [("actual" : Str), ("due" : Str)] (L2.defScope s__law_same) := ⟨rfl, rfl, rfl, by decide +kernel, by kernel_rfl, by decide +kernel, by decide +kernel⟩
theorem tr__law_same : trSs pg 60 3 N__law_same (L2.defScope s__law_same) (L2.defBody s__law_same) = some F__law_same.body := by kernel_rfl
theorem in__law_same {fd : FuncData} (F : FunD K "_law_same" "_law_same" (L2.defArgs s__law_same) (L2.defBody s__law_same) (L2.defScope s__law_same) [] [] (He.fAd K ("_law_same", none)) fd) (hm : mg "_law_same" = some (.ref (He.ga K "_law_same"))) (hct : PySem.W.codeHdIn K (He.cT K ("_law_same", none)).1 (He.cT K ("_law_same", none)).2 = true) : DefIn pg tab K mg 60 3 "_law_same" 29 ["actual", "due"] [] :=
  def_in (N := N__law_same) (fn := F__law_same) F hm hct sc__law_same (by simp) (fun _ _ _ _ _ _ us hl => match us, hl with | [_, _], _ => rfl) (fun ks hks => absurd hks (by simp)) (by decide) rfl rfl rfl tr__law_same
theorem sc__law_frac : FnScope N__law_frac [("top" : Str), ("bottom" : Str)] (L2.defScope s__law_frac) := ⟨rfl, rfl, rfl, by decide +kernel, by kernel_rfl, by decide +kernel, by decide +kernel⟩
theorem tr__law_frac : trSs pg 60 3 N__law_frac (L2.defScope s__law_frac) (L2.defBody s__law_frac) = some F__law_frac.body := by kernel_rfl
theorem in__law_frac {fd : FuncData} (F : FunD K "_law_frac" "_law_frac" (L2.defArgs s__law_frac) (L2.defBody s__law_frac) (L2.defScope s__law_frac) [] [] (He.fAd K ("_law_frac", none)) fd) (hm : mg "_law_frac" = some (.ref (He.ga K "_law_frac"))) (hct : PySem.W.codeHdIn K (He.cT K ("_law_frac", none)).1 (He.cT K ("_law_frac", none)).2 = true) : DefIn pg tab K mg 60 3 "_law_frac" 30 ["top", "bottom"] [] :=
  def_in (N := N__law_frac) (fn := F__law_frac) F hm hct sc__law_frac (by simp) (fun _ _ _ _ _ _ us hl => match us, hl with | [_, _], _ => rfl) (fun ks hks => absurd hks (by simp)) (by decide) rfl rfl rfl tr__law_frac
theorem sc__law_made : FnScope N__law_made [("way" : Str), ("one" : Str), ("two" : Str), ("three" : Str)] (L2.defScope s__law_made) := ⟨rfl, rfl, rfl, by decide +kernel, by kernel_rfl, by decide +kernel, by decide +kernel⟩
theorem tr__law_made : trSs pg 60 3 N__law_made (L2.defScope s__law_made) (L2.defBody s__law_made) = some F__law_made.body := by kernel_rfl
theorem in__law_made {fd : FuncData} (F : FunD K "_law_made" "_law_made" (L2.defArgs s__law_made) (L2.defBody s__law_made) (L2.defScope s__law_made) [] [] (He.fAd K ("_law_made", none)) fd) (hm : mg "_law_made" = some (.ref (He.ga K "_law_made"))) (hct : PySem.W.codeHdIn K (He.cT K ("_law_made", none)).1 (He.cT K ("_law_made", none)).2 = true) : DefIn pg tab K mg 60 3 "_law_made" 31 ["way", "one", "two", "three"] [] :=
  def_in (N := N__law_made) (fn := F__law_made) F hm hct sc__law_made (by simp) (fun _ _ _ _ _ _ us hl => match us, hl with | [_, _, _, _], _ => rfl) (fun ks hks => absurd hks (by simp)) (by decide) rfl rfl rfl tr__law_made
theorem sc__law_cost : FnScope N__law_cost [("state" : Str)] (L2.defScope s__law_cost) := ⟨rfl, rfl, rfl, by decide +kernel, by kernel_rfl, by decide +kernel, by decide +kernel⟩
theorem tr__law_cost : trSs pg 60 3 N__law_cost (L2.defScope s__law_cost) (L2.defBody s__law_cost) = some F__law_cost.body := by kernel_rfl
theorem in__law_cost {fd : FuncData} (F : FunD K "_law_cost" "_law_cost" (L2.defArgs s__law_cost) (L2.defBody s__law_cost) (L2.defScope s__law_cost) [] [] (He.fAd K ("_law_cost", none)) fd) (hm : mg "_law_cost" = some (.ref (He.ga K "_law_cost"))) (hct : PySem.W.codeHdIn K (He.cT K ("_law_cost", none)).1 (He.cT K ("_law_cost", none)).2 = true) : DefIn pg tab K mg 60 3 "_law_cost" 32 ["state"] [] :=
  def_in (N := N__law_cost) (fn := F__law_cost) F hm hct sc__law_cost (by simp) (fun _ _ _ _ _ _ us hl => match us, hl with | [_], _ => rfl) (fun ks hks => absurd hks (by simp)) (by decide) rfl rfl rfl tr__law_cost
theorem sc__law_chance : FnScope N__law_chance [("state" : Str)] (L2.defScope s__law_chance) := ⟨rfl, rfl, rfl, by decide +kernel, by kernel_rfl, by decide +kernel, by decide +kernel⟩
theorem tr__law_chance : trSs pg 60 3 N__law_chance (L2.defScope s__law_chance) (L2.defBody s__law_chance) = some F__law_chance.body := by kernel_rfl
theorem in__law_chance {fd : FuncData} (F : FunD K "_law_chance" "_law_chance" (L2.defArgs s__law_chance) (L2.defBody s__law_chance) (L2.defScope s__law_chance) [] [] (He.fAd K ("_law_chance", none)) fd) (hm : mg "_law_chance" = some (.ref (He.ga K "_law_chance"))) (hct : PySem.W.codeHdIn K (He.cT K ("_law_chance", none)).1 (He.cT K ("_law_chance", none)).2 = true) : DefIn pg tab K mg 60 3 "_law_chance" 33 ["state"] [] :=
  def_in (N := N__law_chance) (fn := F__law_chance) F hm hct sc__law_chance (by simp) (fun _ _ _ _ _ _ us hl => match us, hl with | [_], _ => rfl) (fun ks hks => absurd hks (by simp)) (by decide) rfl rfl rfl tr__law_chance
theorem sc__law_other : FnScope N__law_other [("one" : Str)] (L2.defScope s__law_other) := ⟨rfl, rfl, rfl, by decide +kernel, by kernel_rfl, by decide +kernel, by decide +kernel⟩
theorem tr__law_other : trSs pg 60 3 N__law_other (L2.defScope s__law_other) (L2.defBody s__law_other) = some F__law_other.body := by kernel_rfl
theorem in__law_other {fd : FuncData} (F : FunD K "_law_other" "_law_other" (L2.defArgs s__law_other) (L2.defBody s__law_other) (L2.defScope s__law_other) [] [] (He.fAd K ("_law_other", none)) fd) (hm : mg "_law_other" = some (.ref (He.ga K "_law_other"))) (hct : PySem.W.codeHdIn K (He.cT K ("_law_other", none)).1 (He.cT K ("_law_other", none)).2 = true) : DefIn pg tab K mg 60 3 "_law_other" 34 ["one"] [] :=
  def_in (N := N__law_other) (fn := F__law_other) F hm hct sc__law_other (by simp) (fun _ _ _ _ _ _ us hl => match us, hl with | [_], _ => rfl) (fun ks hks => absurd hks (by simp)) (by decide) rfl rfl rfl tr__law_other
theorem sc__law_is_chance : FnScope N__law_is_chance [("one" : Str)] (L2.defScope s__law_is_chance) := ⟨rfl, rfl, rfl, by decide +kernel, by kernel_rfl, by decide +kernel, by decide +kernel⟩
theorem tr__law_is_chance : trSs pg 60 3 N__law_is_chance (L2.defScope s__law_is_chance) (L2.defBody s__law_is_chance) = some F__law_is_chance.body := by kernel_rfl
theorem in__law_is_chance {fd : FuncData} (F : FunD K "_law_is_chance" "_law_is_chance" (L2.defArgs s__law_is_chance) (L2.defBody s__law_is_chance) (L2.defScope s__law_is_chance) [] [] (He.fAd K ("_law_is_chance", none)) fd) (hm : mg "_law_is_chance" = some (.ref (He.ga K "_law_is_chance"))) (hct : PySem.W.codeHdIn K (He.cT K ("_law_is_chance", none)).1 (He.cT K ("_law_is_chance", none)).2 = true) : DefIn pg tab K mg 60 3 "_law_is_chance" 35 ["one"] [] :=
  def_in (N := N__law_is_chance) (fn := F__law_is_chance) F hm hct sc__law_is_chance (by simp) (fun _ _ _ _ _ _ us hl => match us, hl with | [_], _ => rfl) (fun ks hks => absurd hks (by simp)) (by decide) rfl rfl rfl tr__law_is_chance
theorem sc__law_two_right : FnScope N__law_two_right [("state" : Str)] (L2.defScope s__law_two_right) := ⟨rfl, rfl, rfl, by decide +kernel, by kernel_rfl, by decide +kernel, by decide +kernel⟩
theorem tr__law_two_right : trSs pg 60 3 N__law_two_right (L2.defScope s__law_two_right) (L2.defBody s__law_two_right) = some F__law_two_right.body := by kernel_rfl
theorem in__law_two_right {fd : FuncData} (F : FunD K "_law_two_right" "_law_two_right" (L2.defArgs s__law_two_right) (L2.defBody s__law_two_right) (L2.defScope s__law_two_right) [] [] (He.fAd K ("_law_two_right", none)) fd) (hm : mg "_law_two_right" = some (.ref (He.ga K "_law_two_right"))) (hct : PySem.W.codeHdIn K (He.cT K ("_law_two_right", none)).1 (He.cT K ("_law_two_right", none)).2 = true) : DefIn pg tab K mg 60 3 "_law_two_right" 36 ["state"] [] :=
  def_in (N := N__law_two_right) (fn := F__law_two_right) F hm hct sc__law_two_right (by simp) (fun _ _ _ _ _ _ us hl => match us, hl with | [_], _ => rfl) (fun ks hks => absurd hks (by simp)) (by decide) rfl rfl rfl tr__law_two_right
theorem sc__law_told_right : FnScope N__law_told_right [("state" : Str)] (L2.defScope s__law_told_right) := ⟨rfl, rfl, rfl, by decide +kernel, by kernel_rfl, by decide +kernel, by decide +kernel⟩
theorem tr__law_told_right : trSs pg 60 3 N__law_told_right (L2.defScope s__law_told_right) (L2.defBody s__law_told_right) = some F__law_told_right.body := by kernel_rfl
theorem in__law_told_right {fd : FuncData} (F : FunD K "_law_told_right" "_law_told_right" (L2.defArgs s__law_told_right) (L2.defBody s__law_told_right) (L2.defScope s__law_told_right) [] [] (He.fAd K ("_law_told_right", none)) fd) (hm : mg "_law_told_right" = some (.ref (He.ga K "_law_told_right"))) (hct : PySem.W.codeHdIn K (He.cT K ("_law_told_right", none)).1 (He.cT K ("_law_told_right", none)).2 = true) : DefIn pg tab K mg 60 3 "_law_told_right" 37 ["state"] [] :=
  def_in (N := N__law_told_right) (fn := F__law_told_right) F hm hct sc__law_told_right (by simp) (fun _ _ _ _ _ _ us hl => match us, hl with | [_], _ => rfl) (fun ks hks => absurd hks (by simp)) (by decide) rfl rfl rfl tr__law_told_right
theorem sc__law_row : FnScope N__law_row [("state" : Str), ("many" : Str)] (L2.defScope s__law_row) := ⟨rfl, rfl, rfl, by decide +kernel, by kernel_rfl, by decide +kernel, by decide +kernel⟩
theorem tr__law_row : trSs pg 60 3 N__law_row (L2.defScope s__law_row) (L2.defBody s__law_row) = some F__law_row.body := by kernel_rfl
theorem in__law_row {fd : FuncData} (F : FunD K "_law_row" "_law_row" (L2.defArgs s__law_row) (L2.defBody s__law_row) (L2.defScope s__law_row) [] [] (He.fAd K ("_law_row", none)) fd) (hm : mg "_law_row" = some (.ref (He.ga K "_law_row"))) (hct : PySem.W.codeHdIn K (He.cT K ("_law_row", none)).1 (He.cT K ("_law_row", none)).2 = true) : DefIn pg tab K mg 60 3 "_law_row" 38 ["state", "many"] [] :=
  def_in (N := N__law_row) (fn := F__law_row) F hm hct sc__law_row (by simp) (fun _ _ _ _ _ _ us hl => match us, hl with | [_, _], _ => rfl) (fun ks hks => absurd hks (by simp)) (by decide) rfl rfl rfl tr__law_row
theorem sc__law_twins_right : FnScope N__law_twins_right [("state" : Str)] (L2.defScope s__law_twins_right) := ⟨rfl, rfl, rfl, by decide +kernel, by kernel_rfl, by decide +kernel, by decide +kernel⟩
theorem tr__law_twins_right : trSs pg 60 3 N__law_twins_right (L2.defScope s__law_twins_right) (L2.defBody s__law_twins_right) = some F__law_twins_right.body := by kernel_rfl
theorem in__law_twins_right {fd : FuncData} (F : FunD K "_law_twins_right" "_law_twins_right" (L2.defArgs s__law_twins_right) (L2.defBody s__law_twins_right) (L2.defScope s__law_twins_right) [] [] (He.fAd K ("_law_twins_right", none)) fd) (hm : mg "_law_twins_right" = some (.ref (He.ga K "_law_twins_right"))) (hct : PySem.W.codeHdIn K (He.cT K ("_law_twins_right", none)).1 (He.cT K ("_law_twins_right", none)).2 = true) : DefIn pg tab K mg 60 3 "_law_twins_right" 39 ["state"] [] :=
  def_in (N := N__law_twins_right) (fn := F__law_twins_right) F hm hct sc__law_twins_right (by simp) (fun _ _ _ _ _ _ us hl => match us, hl with | [_], _ => rfl) (fun ks hks => absurd hks (by simp)) (by decide) rfl rfl rfl tr__law_twins_right
theorem sc__law_joint_right : FnScope N__law_joint_right [("state" : Str)] (L2.defScope s__law_joint_right) := ⟨rfl, rfl, rfl, by decide +kernel, by kernel_rfl, by decide +kernel, by decide +kernel⟩
theorem tr__law_joint_right : trSs pg 60 3 N__law_joint_right (L2.defScope s__law_joint_right) (L2.defBody s__law_joint_right) = some F__law_joint_right.body := by kernel_rfl
theorem in__law_joint_right {fd : FuncData} (F : FunD K "_law_joint_right" "_law_joint_right" (L2.defArgs s__law_joint_right) (L2.defBody s__law_joint_right) (L2.defScope s__law_joint_right) [] [] (He.fAd K ("_law_joint_right", none)) fd) (hm : mg "_law_joint_right" = some (.ref (He.ga K "_law_joint_right"))) (hct : PySem.W.codeHdIn K (He.cT K ("_law_joint_right", none)).1 (He.cT K ("_law_joint_right", none)).2 = true) : DefIn pg tab K mg 60 3 "_law_joint_right" 40 ["state"] [] :=
  def_in (N := N__law_joint_right) (fn := F__law_joint_right) F hm hct sc__law_joint_right (by simp) (fun _ _ _ _ _ _ us hl => match us, hl with | [_], _ => rfl) (fun ks hks => absurd hks (by simp)) (by decide) rfl rfl rfl tr__law_joint_right
theorem sc_law : FnScope N_law [("script" : Str)] (L2.defScope s_law) := ⟨rfl, rfl, rfl, by decide +kernel, by kernel_rfl, by decide +kernel, by decide +kernel⟩
theorem tr_law : trSs pg 60 3 N_law (L2.defScope s_law) (L2.defBody s_law) = some F_law.body := by kernel_rfl
theorem in_law {fd : FuncData} (F : FunD K "law" "law" (L2.defArgs s_law) (L2.defBody s_law) (L2.defScope s_law) [] [] (He.fAd K ("law", none)) fd) (hm : mg "law" = some (.ref (He.ga K "law"))) (hct : PySem.W.codeHdIn K (He.cT K ("law", none)).1 (He.cT K ("law", none)).2 = true) : DefIn pg tab K mg 60 3 "law" 41 ["script"] [] :=
  def_in (N := N_law) (fn := F_law) F hm hct sc_law (by simp) (fun _ _ _ _ _ _ us hl => match us, hl with | [_], _ => rfl) (fun ks hks => absurd hks (by simp)) (by decide) rfl rfl rfl tr_law
end
theorem facts {w : World} {K : PySem.W.Frag} {h : Heap} {mg : Str → Option Value} (X : K.In h) (G : h.Ns mainGlobals mg) (c : He.SaysX fa fn [] tf ex w h K) :
    (∀ x ∈ bltN, mg x = none) ∧ (∀ x p, pg.G.lookup x = some p → ∃ u v, mg x = some u ∧ RelV v u ∧ ∀ H al, RP K H al p v) ∧ (∀ x i ps kss, pg.F.lookup x = some (i, ps, kss) → DefIn pg tab K mg 60 3 x i ps kss) ∧ (∀ c fl, pg.X.lookup c = some fl → ∃ C, ExcK K mg c fl C) := by
  have fac : ∀ f ∈ fa, f.ok K = true := fun f hf => He.SaysD.facts (show He.SaysD fa fn K from congrArg (fun z : He.AlT => z.1) c.t) hf
  have glo : ∀ x, (He.Fa.glo x) ∈ fa → mg x = some (.ref (He.ga K x)) := fun x hx => He.glo_ok X G (fac _ hx)
  have dfs : ∀ d ∈ fn, ∃ fd, FunD K d.name d.qual d.params d.body d.scope (d.dvs K) (d.kws K) (He.fAd K d.at_) fd := fun d hd => He.SaysD.defs (show He.SaysD fa fn K from congrArg (fun z : He.AlT => z.1) c.t) hd
  have hd := c.hd
  refine ⟨?_, ?_, ?_, ?_⟩
  · have fre : ∀ x, (He.Fa.free x) ∈ fa → mg x = none := fun x hx => He.free_ok X G (fac _ hx)
    exact List.forall_mem_cons.mpr ⟨fre _ (by simp [fa, fa_0, fa_1, fa_2]), List.forall_mem_cons.mpr ⟨fre _ (by simp [fa, fa_0, fa_1, fa_2]), List.forall_mem_cons.mpr ⟨fre _ (by simp [fa, fa_0, fa_1, fa_2]), List.forall_mem_cons.mpr ⟨fre _ (by simp [fa, fa_0, fa_1, fa_2]), List.forall_mem_cons.mpr ⟨fre _ (by simp [fa, fa_0, fa_1, fa_2]), List.forall_mem_cons.mpr ⟨fre _ (by simp [fa, fa_0, fa_1, fa_2]), List.forall_mem_cons.mpr ⟨fre _ (by simp [fa, fa_0, fa_1, fa_2]), List.forall_mem_cons.mpr ⟨fre _ (by simp [fa, fa_0, fa_1, fa_2]), List.forall_mem_cons.mpr ⟨fre _ (by simp [fa, fa_0, fa_1, fa_2]), List.forall_mem_cons.mpr ⟨fre _ (by simp [fa, fa_0, fa_1, fa_2]), List.forall_mem_cons.mpr ⟨fre _ (by simp [fa, fa_0, fa_1, fa_2]), List.forall_mem_cons.mpr ⟨fre _ (by simp [fa, fa_0, fa_1, fa_2]), List.forall_mem_cons.mpr ⟨fre _ (by simp [fa, fa_0, fa_1, fa_2]), List.forall_mem_cons.mpr ⟨fre _ (by simp [fa, fa_0, fa_1, fa_2]), List.forall_mem_cons.mpr ⟨fre _ (by simp [fa, fa_0, fa_1, fa_2]), List.forall_mem_cons.mpr ⟨fre _ (by simp [fa, fa_0, fa_1, fa_2]), fun _ h => by simp at h⟩⟩⟩⟩⟩⟩⟩⟩⟩⟩⟩⟩⟩⟩⟩⟩
  · have key : ∀ q ∈ pg.G, ∃ u v, mg q.1 = some u ∧ RelV v u ∧ ∀ H al, RP K H al q.2 v := by
      have exs := c.more
      simp only [ex, Bool.and_eq_true] at exs
      have g0 : ∃ u v, mg "ZERO" = some u ∧ RelV v u ∧ ∀ H al, RP K H al (.tup [.int 0, .int 1]) v := by
        refine ⟨_, .ref _, glo "ZERO" (by simp [fa, fa_0, fa_1, fa_2]), rfl, fun H al => ?_⟩
        show RP K H al (.tup _) _
        unfold RP
        exact ⟨_, _, rfl, He.tupB_ok exs.1.1.2 H, by simp [RPs, RP, He.Dv.v]⟩
      have g1 : ∃ u v, mg "ONE" = some u ∧ RelV v u ∧ ∀ H al, RP K H al (.tup [.int 1, .int 1]) v := by
        refine ⟨_, .ref _, glo "ONE" (by simp [fa, fa_0, fa_1, fa_2]), rfl, fun H al => ?_⟩
        show RP K H al (.tup _) _
        unfold RP
        exact ⟨_, _, rfl, He.tupB_ok exs.1.2 H, by simp [RPs, RP, He.Dv.v]⟩
      exact List.forall_mem_cons.mpr ⟨g0, List.forall_mem_cons.mpr ⟨g1, fun _ h => by simp at h⟩⟩
    exact fun x p hx => key (x, p) (lookup_in hx)
  · have key : ∀ q ∈ pg.F, DefIn pg tab K mg 60 3 q.1 q.2.1 q.2.2.1 q.2.2.2 := by
      obtain ⟨_, f0⟩ := dfs d_common (by simp [fn, fn_0, fn_1])
      have e0 := in_common f0 (glo "common" (by simp [fa, fa_0, fa_1, fa_2])) (hd ("common", none) (by simp [tf, tf_0, tf_1]))
      obtain ⟨_, f1⟩ := dfs d_ratio (by simp [fn, fn_0, fn_1])
      have e1 := in_ratio f1 (glo "ratio" (by simp [fa, fa_0, fa_1, fa_2])) (hd ("ratio", none) (by simp [tf, tf_0, tf_1]))
      obtain ⟨_, f2⟩ := dfs d_is_number (by simp [fn, fn_0, fn_1])
      have e2 := in_is_number f2 (glo "is_number" (by simp [fa, fa_0, fa_1, fa_2])) (hd ("is_number", none) (by simp [tf, tf_0, tf_1]))
      obtain ⟨_, f3⟩ := dfs d_is_fraction (by simp [fn, fn_0, fn_1])
      have e3 := in_is_fraction f3 (glo "is_fraction" (by simp [fa, fa_0, fa_1, fa_2])) (hd ("is_fraction", none) (by simp [tf, tf_0, tf_1]))
      obtain ⟨_, f4⟩ := dfs d_is_fractions (by simp [fn, fn_0, fn_1])
      have e4 := in_is_fractions f4 (glo "is_fractions" (by simp [fa, fa_0, fa_1, fa_2])) (hd ("is_fractions", none) (by simp [tf, tf_0, tf_1]))
      obtain ⟨_, f5⟩ := dfs d_is_chances (by simp [fn, fn_0, fn_1])
      have e5 := in_is_chances f5 (glo "is_chances" (by simp [fa, fa_0, fa_1, fa_2])) (hd ("is_chances", none) (by simp [tf, tf_0, tf_1]))
      obtain ⟨_, f6⟩ := dfs d_minus (by simp [fn, fn_0, fn_1])
      have e6 := in_minus f6 (glo "minus" (by simp [fa, fa_0, fa_1, fa_2])) (hd ("minus", none) (by simp [tf, tf_0, tf_1]))
      obtain ⟨_, f7⟩ := dfs d_bottom_of (by simp [fn, fn_0, fn_1])
      have e7 := in_bottom_of f7 (glo "bottom_of" (by simp [fa, fa_0, fa_1, fa_2])) (hd ("bottom_of", none) (by simp [tf, tf_0, tf_1]))
      obtain ⟨_, f8⟩ := dfs d_tops_over (by simp [fn, fn_0, fn_1])
      have e8 := in_tops_over f8 (glo "tops_over" (by simp [fa, fa_0, fa_1, fa_2])) (hd ("tops_over", none) (by simp [tf, tf_0, tf_1]))
      obtain ⟨_, f9⟩ := dfs d_wholes (by simp [fn, fn_0, fn_1])
      have e9 := in_wholes f9 (glo "wholes" (by simp [fa, fa_0, fa_1, fa_2])) (hd ("wholes", none) (by simp [tf, tf_0, tf_1]))
      obtain ⟨_, f10⟩ := dfs d_sum_of (by simp [fn, fn_0, fn_1])
      have e10 := in_sum_of f10 (glo "sum_of" (by simp [fa, fa_0, fa_1, fa_2])) (hd ("sum_of", none) (by simp [tf, tf_0, tf_1]))
      obtain ⟨_, f11⟩ := dfs d_unit (by simp [fn, fn_0, fn_1])
      have e11 := in_unit f11 (glo "unit" (by simp [fa, fa_0, fa_1, fa_2])) (hd ("unit", none) (by simp [tf, tf_0, tf_1]))
      obtain ⟨_, f12⟩ := dfs d_check_team (by simp [fn, fn_0, fn_1])
      have e12 := in_check_team f12 (glo "check_team" (by simp [fa, fa_0, fa_1, fa_2])) (hd ("check_team", none) (by simp [tf, tf_0, tf_1]))
      obtain ⟨_, f13⟩ := dfs d_check_team_costs (by simp [fn, fn_0, fn_1])
      have e13 := in_check_team_costs f13 (glo "check_team_costs" (by simp [fa, fa_0, fa_1, fa_2])) (hd ("check_team_costs", none) (by simp [tf, tf_0, tf_1]))
      obtain ⟨_, f14⟩ := dfs d_check_team_chances (by simp [fn, fn_0, fn_1])
      have e14 := in_check_team_chances f14 (glo "check_team_chances" (by simp [fa, fa_0, fa_1, fa_2])) (hd ("check_team_chances", none) (by simp [tf, tf_0, tf_1]))
      obtain ⟨_, f15⟩ := dfs d_check_work (by simp [fn, fn_0, fn_1])
      have e15 := in_check_work f15 (glo "check_work" (by simp [fa, fa_0, fa_1, fa_2])) (hd ("check_work", none) (by simp [tf, tf_0, tf_1]))
      obtain ⟨_, f16⟩ := dfs d_check_shares (by simp [fn, fn_0, fn_1])
      have e16 := in_check_shares f16 (glo "check_shares" (by simp [fa, fa_0, fa_1, fa_2])) (hd ("check_shares", none) (by simp [tf, tf_0, tf_1]))
      obtain ⟨_, f17⟩ := dfs d_check_costs (by simp [fn, fn_0, fn_1])
      have e17 := in_check_costs f17 (glo "check_costs" (by simp [fa, fa_0, fa_1, fa_2])) (hd ("check_costs", none) (by simp [tf, tf_0, tf_1]))
      obtain ⟨_, f18⟩ := dfs d_check_chances (by simp [fn, fn_0, fn_1])
      have e18 := in_check_chances f18 (glo "check_chances" (by simp [fa, fa_0, fa_1, fa_2])) (hd ("check_chances", none) (by simp [tf, tf_0, tf_1]))
      obtain ⟨_, f19⟩ := dfs d_lone_work (by simp [fn, fn_0, fn_1])
      have e19 := in_lone_work f19 (glo "lone_work" (by simp [fa, fa_0, fa_1, fa_2])) (hd ("lone_work", none) (by simp [tf, tf_0, tf_1]))
      obtain ⟨_, f20⟩ := dfs d_two_acts (by simp [fn, fn_0, fn_1])
      have e20 := in_two_acts f20 (glo "two_acts" (by simp [fa, fa_0, fa_1, fa_2])) (hd ("two_acts", none) (by simp [tf, tf_0, tf_1]))
      obtain ⟨_, f21⟩ := dfs d_told_acts (by simp [fn, fn_0, fn_1])
      have e21 := in_told_acts f21 (glo "told_acts" (by simp [fa, fa_0, fa_1, fa_2])) (hd ("told_acts", none) (by simp [tf, tf_0, tf_1]))
      obtain ⟨_, f22⟩ := dfs d_blind (by simp [fn, fn_0, fn_1])
      have e22 := in_blind f22 (glo "blind" (by simp [fa, fa_0, fa_1, fa_2])) (hd ("blind", none) (by simp [tf, tf_0, tf_1]))
      obtain ⟨_, f23⟩ := dfs d_twins (by simp [fn, fn_0, fn_1])
      have e23 := in_twins f23 (glo "twins" (by simp [fa, fa_0, fa_1, fa_2])) (hd ("twins", none) (by simp [tf, tf_0, tf_1]))
      obtain ⟨_, f24⟩ := dfs d_joint (by simp [fn, fn_0, fn_1])
      have e24 := in_joint f24 (glo "joint" (by simp [fa, fa_0, fa_1, fa_2])) (hd ("joint", none) (by simp [tf, tf_0, tf_1]))
      obtain ⟨_, f25⟩ := dfs d__law_mixed (by simp [fn, fn_0, fn_1])
      have e25 := in__law_mixed f25 (glo "_law_mixed" (by simp [fa, fa_0, fa_1, fa_2])) (hd ("_law_mixed", none) (by simp [tf, tf_0, tf_1]))
      obtain ⟨_, f26⟩ := dfs d__law_start (by simp [fn, fn_0, fn_1])
      have e26 := in__law_start f26 (glo "_law_start" (by simp [fa, fa_0, fa_1, fa_2])) (hd ("_law_start", none) (by simp [tf, tf_0, tf_1]))
      obtain ⟨_, f27⟩ := dfs d__law_take (by simp [fn, fn_0, fn_1])
      have e27 := in__law_take f27 (glo "_law_take" (by simp [fa, fa_0, fa_1, fa_2])) (hd ("_law_take", none) (by simp [tf, tf_0, tf_1]))
      obtain ⟨_, f28⟩ := dfs d__law_pick (by simp [fn, fn_0, fn_1])
      have e28 := in__law_pick f28 (glo "_law_pick" (by simp [fa, fa_0, fa_1, fa_2])) (hd ("_law_pick", none) (by simp [tf, tf_0, tf_1]))
      obtain ⟨_, f29⟩ := dfs d__law_same (by simp [fn, fn_0, fn_1])
      have e29 := in__law_same f29 (glo "_law_same" (by simp [fa, fa_0, fa_1, fa_2])) (hd ("_law_same", none) (by simp [tf, tf_0, tf_1]))
      obtain ⟨_, f30⟩ := dfs d__law_frac (by simp [fn, fn_0, fn_1])
      have e30 := in__law_frac f30 (glo "_law_frac" (by simp [fa, fa_0, fa_1, fa_2])) (hd ("_law_frac", none) (by simp [tf, tf_0, tf_1]))
      obtain ⟨_, f31⟩ := dfs d__law_made (by simp [fn, fn_0, fn_1])
      have e31 := in__law_made f31 (glo "_law_made" (by simp [fa, fa_0, fa_1, fa_2])) (hd ("_law_made", none) (by simp [tf, tf_0, tf_1]))
      obtain ⟨_, f32⟩ := dfs d__law_cost (by simp [fn, fn_0, fn_1])
      have e32 := in__law_cost f32 (glo "_law_cost" (by simp [fa, fa_0, fa_1, fa_2])) (hd ("_law_cost", none) (by simp [tf, tf_0, tf_1]))
      obtain ⟨_, f33⟩ := dfs d__law_chance (by simp [fn, fn_0, fn_1])
      have e33 := in__law_chance f33 (glo "_law_chance" (by simp [fa, fa_0, fa_1, fa_2])) (hd ("_law_chance", none) (by simp [tf, tf_0, tf_1]))
      obtain ⟨_, f34⟩ := dfs d__law_other (by simp [fn, fn_0, fn_1])
      have e34 := in__law_other f34 (glo "_law_other" (by simp [fa, fa_0, fa_1, fa_2])) (hd ("_law_other", none) (by simp [tf, tf_0, tf_1]))
      obtain ⟨_, f35⟩ := dfs d__law_is_chance (by simp [fn, fn_0, fn_1])
      have e35 := in__law_is_chance f35 (glo "_law_is_chance" (by simp [fa, fa_0, fa_1, fa_2])) (hd ("_law_is_chance", none) (by simp [tf, tf_0, tf_1]))
      obtain ⟨_, f36⟩ := dfs d__law_two_right (by simp [fn, fn_0, fn_1])
      have e36 := in__law_two_right f36 (glo "_law_two_right" (by simp [fa, fa_0, fa_1, fa_2])) (hd ("_law_two_right", none) (by simp [tf, tf_0, tf_1]))
      obtain ⟨_, f37⟩ := dfs d__law_told_right (by simp [fn, fn_0, fn_1])
      have e37 := in__law_told_right f37 (glo "_law_told_right" (by simp [fa, fa_0, fa_1, fa_2])) (hd ("_law_told_right", none) (by simp [tf, tf_0, tf_1]))
      obtain ⟨_, f38⟩ := dfs d__law_row (by simp [fn, fn_0, fn_1])
      have e38 := in__law_row f38 (glo "_law_row" (by simp [fa, fa_0, fa_1, fa_2])) (hd ("_law_row", none) (by simp [tf, tf_0, tf_1]))
      obtain ⟨_, f39⟩ := dfs d__law_twins_right (by simp [fn, fn_0, fn_1])
      have e39 := in__law_twins_right f39 (glo "_law_twins_right" (by simp [fa, fa_0, fa_1, fa_2])) (hd ("_law_twins_right", none) (by simp [tf, tf_0, tf_1]))
      obtain ⟨_, f40⟩ := dfs d__law_joint_right (by simp [fn, fn_0, fn_1])
      have e40 := in__law_joint_right f40 (glo "_law_joint_right" (by simp [fa, fa_0, fa_1, fa_2])) (hd ("_law_joint_right", none) (by simp [tf, tf_0, tf_1]))
      obtain ⟨_, f41⟩ := dfs d_law (by simp [fn, fn_0, fn_1])
      have e41 := in_law f41 (glo "law" (by simp [fa, fa_0, fa_1, fa_2])) (hd ("law", none) (by simp [tf, tf_0, tf_1]))
      exact List.forall_mem_cons.mpr ⟨e0, List.forall_mem_cons.mpr ⟨e1, List.forall_mem_cons.mpr ⟨e2, List.forall_mem_cons.mpr ⟨e3, List.forall_mem_cons.mpr ⟨e4, List.forall_mem_cons.mpr ⟨e5, List.forall_mem_cons.mpr ⟨e6, List.forall_mem_cons.mpr ⟨e7, List.forall_mem_cons.mpr ⟨e8, List.forall_mem_cons.mpr ⟨e9, List.forall_mem_cons.mpr ⟨e10, List.forall_mem_cons.mpr ⟨e11, List.forall_mem_cons.mpr ⟨e12, List.forall_mem_cons.mpr ⟨e13, List.forall_mem_cons.mpr ⟨e14, List.forall_mem_cons.mpr ⟨e15, List.forall_mem_cons.mpr ⟨e16, List.forall_mem_cons.mpr ⟨e17, List.forall_mem_cons.mpr ⟨e18, List.forall_mem_cons.mpr ⟨e19, List.forall_mem_cons.mpr ⟨e20, List.forall_mem_cons.mpr ⟨e21, List.forall_mem_cons.mpr ⟨e22, List.forall_mem_cons.mpr ⟨e23, List.forall_mem_cons.mpr ⟨e24, List.forall_mem_cons.mpr ⟨e25, List.forall_mem_cons.mpr ⟨e26, List.forall_mem_cons.mpr ⟨e27, List.forall_mem_cons.mpr ⟨e28, List.forall_mem_cons.mpr ⟨e29, List.forall_mem_cons.mpr ⟨e30, List.forall_mem_cons.mpr ⟨e31, List.forall_mem_cons.mpr ⟨e32, List.forall_mem_cons.mpr ⟨e33, List.forall_mem_cons.mpr ⟨e34, List.forall_mem_cons.mpr ⟨e35, List.forall_mem_cons.mpr ⟨e36, List.forall_mem_cons.mpr ⟨e37, List.forall_mem_cons.mpr ⟨e38, List.forall_mem_cons.mpr ⟨e39, List.forall_mem_cons.mpr ⟨e40, List.forall_mem_cons.mpr ⟨e41, fun _ h => by simp at h⟩⟩⟩⟩⟩⟩⟩⟩⟩⟩⟩⟩⟩⟩⟩⟩⟩⟩⟩⟩⟩⟩⟩⟩⟩⟩⟩⟩⟩⟩⟩⟩⟩⟩⟩⟩⟩⟩⟩⟩⟩⟩
    exact fun x i ps kss hx => key (x, (i, ps, kss)) (lookup_in hx)
  · have key : ∀ q ∈ pg.X, ∃ C, ExcK K mg q.1 q.2 C := by
      have x0 : ∃ C, ExcK K mg "WorkError" [] C := exc0_ok (glo "WorkError" (by simp [fa, fa_0, fa_1, fa_2])) (fac (.exc "WorkError") (by simp [fa, fa_0, fa_1, fa_2])) (fac (.exm "WorkError" "WorkError" true) (by simp [fa, fa_0, fa_1, fa_2]))
      have x1 : ∃ C, ExcK K mg "BadWork" ["part", "number"] C := by
        have exs := c.more
        simp only [ex, Bool.and_eq_true] at exs
        exact excF_ok (glo "BadWork" (by simp [fa, fa_0, fa_1, fa_2])) exs.2
      exact List.forall_mem_cons.mpr ⟨x0, List.forall_mem_cons.mpr ⟨x1, fun _ h => by simp [pg] at h⟩⟩
    exact fun c fl hx => key (c, fl) (lookup_in hx)
theorem mkers {w : World} {K : PySem.W.Frag} {h : Heap} {mg : Str → Option Value} (X : K.In h) (G : h.Ns mainGlobals mg) (c : He.SaysX fa fn [] tf ex w h K) :
    ∀ (base : Heap), K.In base → BmAt base mg → ∀ c fl, pg.X.lookup c = some fl → ∀ X' : Cx, X'.prog = (PySem.Challenge.rw_gladlydone_k67_made_works).prog → X'.w = w → X'.K = K → X'.mg = mg → X'.base = base → MkOk X' c fl := by
  have fac : ∀ f ∈ fa, f.ok K = true := fun f hf => He.SaysD.facts (show He.SaysD fa fn K from congrArg (fun z : He.AlT => z.1) c.t) hf
  have glo : ∀ x, (He.Fa.glo x) ∈ fa → mg x = some (.ref (He.ga K x)) := fun x hx => He.glo_ok X G (fac _ hx)
  have exs := c.more
  simp only [ex, Bool.and_eq_true] at exs
  have key : ∀ q ∈ pg.X, q.2 ≠ [] → excB (PySem.Challenge.rw_gladlydone_k67_made_works).prog K q.1 q.2 = true ∧ BindOk q.2 ∧ mg q.1 = some (.ref (He.ga K q.1)) := by
    exact List.forall_mem_cons.mpr ⟨fun z => absurd rfl z, List.forall_mem_cons.mpr ⟨fun _ => ⟨exs.2, bind_part, glo "BadWork" (by simp [fa, fa_0, fa_1, fa_2])⟩, fun _ h => by simp at h⟩⟩
  exact mkr_all X G key
end K67
end

section
open PySem PySem.W PySem.Calls PyProof.Rows
set_option maxRecDepth 100000 in
set_option maxHeartbeats 0 in
theorem PySem.Challenge.cw_gladlydone_k67_made_works_holds : PySem.Challenge.rw_gladlydone_k67_made_works.Holds := by
  w_on; o_law
  refine HandSHeadRun.head_any (r := OpenLaw.row PySem.Challenge.rw_gladlydone_k67_made_works) (q := view (OpenLaw.row PySem.Challenge.rw_gladlydone_k67_made_works).prog [51]) (H := K67.hk) (ob := K67.ob) (M := 4000) (loose := K67.loose) (d := HandSHeadRun.topDef (OpenLaw.row PySem.Challenge.rw_gladlydone_k67_made_works).prog 51) (kwd := []) K67.ob_eq
    (by kernel_rfl) (fun s => by kernel_rfl) K67.run (by kernel_rfl) (by kernel_rfl) (by kernel_rfl) (by rfl) (by first | assumption | decide +kernel) (by decide +kernel) ⟨rfl, rfl, rfl, rfl, rfl, by decide +kernel⟩ ?hw ?hc
  case hw => w_witness2
  case hc =>
    refine LamX.walk_ofTsE (l := PySem.Challenge.rw_gladlydone_k67_made_works) (n := 63) (k := 48) (x := "script") (CX := fun w => L2.CX (PySem.Challenge.rw_gladlydone_k67_made_works).prog w) rfl (by decide) (by kernel_rfl) ⟨rfl, by decide, by decide⟩ ?F (fun _ _ _ _ _ z => by obtain ⟨_, _, _, _, _, _, _, _, _, _, _, _, z⟩ := z; exact z.elim)
    intro w mg fa h Y G hmg0
    obtain ⟨K, KX, c⟩ := Y
    have hmg : mg ("law" : PySem.Str) = some (.ref fa) := by
      have e : (HandSHeadRun.topDef (OpenLaw.row PySem.Challenge.rw_gladlydone_k67_made_works).prog 51).name = ("law" : PySem.Str) := by kernel_rfl
      rw [← e]
      exact hmg0
    obtain ⟨f1, f2, f3, f4⟩ := K67.facts KX G c
    exact ⟨K, KX, IX.law_at (kss := []) (k := 12) (L := K67.loops) KX c (by have z := c.more; simp only [K67.ex, Bool.and_eq_true] at z; exact z.1.1.1) hmg (by simp [K67.tf, K67.tf_0, K67.tf_1]) f1 f2 f4 (K67.mkers KX G c) f3 (by kernel_rfl) K67.plain⟩
end
